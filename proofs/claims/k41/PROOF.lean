import PyProof.Rows.All
import Wide.All
import OpenK.AllK
import Wide.FinOn
import KE.KStateDown
import HandS.ForMost
import PyProof.ReprReads
import HandS.TupAny
import HandS.Flow
import HandS.Wide
import PyProof.NeData
import HandS.TupMul
import HandS.Style
import PyProof.StrOps2
import HandS.SortInts
import PyProof.Rows.SortShellAny
import PyProof.ReprRoads
import HandS.RaiseMore
import KE.KDictList
import PyProof.CollectStr
import HandS.More
import PyProof.Rows.StrRev
import PyProof.StrWalks
import HandS.Replace
import HandS.Text
import HandS.Codes
import PyProof.Rows.StrFit
import PyProof.ListIndex
import HandS.IsInst
import HandS.Zip
import KE.GoesZip
import KE.GoesMore
import KE.GoesEnum
import HandS.Exc
import HandS.Defaults
import HandS.Ends
import HandS.HeadHook2
import HandS.HeadHook3
import HandS.Head0
import HandS.Head1
import HandS.Head2
import PyProof.StrLawsFirst
import PyProof.Rows.RegReprOcc
import PySem.Challenge.RW_narrowplay_k41_formulas_among_any_values
set_option Elab.async false
set_option linter.all false
set_option maxRecDepth 100000
/-! N1: a small language of its own (expressions, statements by slots) and what it computes, over plain data. -/
namespace Nv
open PySem

/-! ### values, mutable objects, results -/
inductive Val where
  | d (x : PyData)
  | r (a : Nat)
inductive AO where
  | lst (xs : List Val)
  | dct (kvs : List (L2.Key × Val))
  | ins (c : Nat) (fs : List (Str × Val))
  | dtt (kvs : List (List L2.Key × Val))
  | dead
abbrev Hs := List AO
inductive Res (α : Type) where
  | ok (a : α) (h : Hs)
  | bad
abbrev M (α : Type) := Hs → Res α
def Res.bnd {α β : Type} : Res α → (α → M β) → Res β
  | .ok a h, f => f a h
  | .bad, _ => .bad
def M.pure {α : Type} (a : α) : M α := fun h => .ok a h
def M.bind {α β : Type} (m : M α) (f : α → M β) : M β := fun h => (m h).bnd f
instance : Monad M where
  pure := M.pure
  bind := M.bind
def bad {α : Type} : M α := fun _ => .bad
theorem pure_ap {α : Type} (a : α) (h : Hs) : (pure a : M α) h = .ok a h := (rfl)
theorem bind_ap {α β : Type} (m : M α) (f : α → M β) (h : Hs) : (m >>= f) h = (m h).bnd f := (rfl)
theorem bad_ap {α : Type} (h : Hs) : (bad : M α) h = .bad := (rfl)
theorem bnd_ok {α β : Type} (a : α) (h : Hs) (f : α → M β) : (Res.ok a h).bnd f = f a h := (rfl)
theorem bnd_bad {α β : Type} (f : α → M β) : (Res.bad : Res α).bnd f = .bad := (rfl)
theorem ite_ap {α : Type} (c : Prop) [Decidable c] (a b : M α) (h : Hs) : (if c then a else b) h = if c then a h else b h := by split <;> rfl
/-- what a step that ends came by -/
theorem bnd_inv {α β : Type} {m : Res α} {f : α → M β} {b : β} {h : Hs} (e : m.bnd f = .ok b h) : ∃ a h1, m = .ok a h1 ∧ f a h1 = .ok b h := by
  cases m with
  | ok a h1 => exact ⟨a, h1, rfl, e⟩
  | bad => cases e
theorem bind_inv {α β : Type} {m : M α} {f : α → M β} {b : β} {h h0 : Hs} (e : (m >>= f) h0 = .ok b h) : ∃ a h1, m h0 = .ok a h1 ∧ f a h1 = .ok b h := bnd_inv e
theorem pure_inv {α : Type} {a b : α} {h h0 : Hs} (e : (pure a : M α) h0 = .ok b h) : a = b ∧ h0 = h := by
  have e' : Res.ok a h0 = Res.ok b h := e
  cases e'
  exact ⟨rfl, rfl⟩

/-- an object read, written -/
def getO (a : Nat) : M AO := fun h => match h[a]? with
  | some o => .ok o h
  | none => .bad
def setO (a : Nat) (o : AO) : M Unit := fun h => .ok () (h.set a o)
theorem getO_inv {a : Nat} {o : AO} {h h' : Hs} (e : getO a h = .ok o h') : h' = h ∧ h[a]? = some o := by
  unfold getO at e
  cases q : h[a]? with
  | none => rw [q] at e; cases e
  | some u => rw [q] at e; cases e; exact ⟨rfl, rfl⟩
theorem getO_ap {a : Nat} {o : AO} {h : Hs} (e : h[a]? = some o) : getO a h = .ok o h := by unfold getO; rw [e]
theorem setO_ap (a : Nat) (o : AO) (h : Hs) : setO a o h = .ok () (h.set a o) := (rfl)

/-! ### data -/
abbrev PD := PyData
/-- all of a list are data -/
def dats : List Val → Option (List PD)
  | [] => some []
  | .d x :: r => (dats r).map (x :: ·)
  | .r _ :: _ => none
def kD : L2.Key → PD
  | .inl i => .int i
  | .inr x => .str x
def datK : List (L2.Key × Val) → Option (List (PD × PD))
  | [] => some []
  | (k, .d x) :: r => (datK r).map ((kD k, x) :: ·)
  | (_, .r _) :: _ => none
def optM {α : Type} : Option α → M α
  | some x => pure x
  | none => bad
theorem optM_inv {α : Type} {o : Option α} {x : α} {h h' : Hs} (e : optM o h = .ok x h') : h' = h ∧ o = some x := by
  cases o with
  | none => cases e
  | some u => cases e; exact ⟨rfl, rfl⟩
def datO : AO → M PD
  | .lst xs => optM ((dats xs).map PyData.list)
  | .dct kvs => optM ((datK kvs).map PyData.dict)
  | _ => bad
/-- an object is kept as data from here on -/
def frz : Val → M PD
  | .d x => pure x
  | .r a => do
    let o ← getO a
    let d ← datO o
    setO a .dead
    pure d
def frzs : List Val → M (List PD)
  | [] => pure []
  | v :: r => do
    let x ← frz v
    let xs ← frzs r
    pure (x :: xs)
/-- a new object -/
def new (o : AO) : M Val := fun h => .ok (.r h.length) (h ++ [o])
/-- a new list: an object, or data -/
def mkL (m : Bool) (xs : List Val) : M Val := match m, dats xs with
  | false, some ds => pure (.d (.list ds))
  | _, _ => new (.lst xs)
/-- a new dict -/
def mkD (m : Bool) (kvs : List (L2.Key × Val)) : M Val := match m, datK kvs with
  | false, some ds => pure (.d (.dict ds))
  | _, _ => new (.dct kvs)
def lim : Nat := sizeLine
def itemsO : AO → M (List Val)
  | .lst xs => pure xs
  | _ => bad
/-- a list or tuple's items -/
def seqOf : Val → M (List Val)
  | .d (.list ds) => pure (ds.map .d)
  | .d (.tuple ds) => pure (ds.map .d)
  | .r a => do
    let o ← getO a
    itemsO o
  | _ => bad
def bl (b : Bool) : M Val := pure (.d (.bool b))
def intV (i : Int) : M Val := pure (.d (.int i))

/-! ### the language -/
inductive Bop where
  | add | sub | mul | fdiv | mod | pow | shl | band | bxor
inductive Cop where
  | eq | ne | lt | le | gt | ge | is | isnot | isin | notin
inductive Ty where
  | int | str | bool | tuple | list | dict
inductive Bi where
  | len | all | any | int | str | bool | repr | list | tuple | sorted | sum | max | min | dict
inductive Mt where
  | append | extend | pop | join | get1 | get2 | upper | idx | cnt | popi
inductive Tgt where
  | v (i : Nat)
  | t (is : List Nat)
mutual
inductive E where
  | k (d : PD)
  | v (i : Nat)
  | g (n : Nat)
  | gix (n : Nat) (e : E)
  | bin (o : Bop) (a b : E)
  | neg (a : E)
  | cmp (o : Cop) (a b : E)
  | chn (o o' : Cop) (a b c : E)
  | and (a b : E)
  | or (a b : E)
  | not (a : E)
  | ite (c a b : E)
  | tup (es : Es)
  | lst (m : Bool) (es : Es)
  | dct (m : Bool) (ks : List L2.Key) (es : Es)
  | dtn
  | ix (a i : E)
  | sl (m : Bool) (a : E) (lo hi : Oe)
  | rv (m : Bool) (a : E)
  | cal (f : Nat) (es : Es)
  | calk (f : Nat) (es ks : Es) (p : List Nat)
  | bi (o : Bi) (m : Bool) (es : Es)
  | mt (o : Mt) (a : E) (es : Es)
  | isi (a : E) (t : Ty)
  | lc (m : Bool) (t : Tgt) (it : It) (c : Oe) (e : E)
  | lc2 (m : Bool) (t : Tgt) (it : It) (t2 : Tgt) (it2 : It) (c : Oe) (e : E)
inductive Es where
  | n
  | c (e : E) (es : Es)
inductive Oe where
  | n
  | s (e : E)
inductive It where
  | sq (a : E)
  | rg (es : Es)
  | zip (a b : E)
  | enum (a : E)
  | rev (a : E)
  | keys (a : E)
  | items (a : E)
  | vals (a : E)
end
mutual
inductive S where
  | ex (e : E)
  | set (i : Nat) (e : E)
  | par (is : List Nat) (es : Es)
  | unp (is : List Nat) (e : E)
  | sti (o i e : E)
  | aug (i : Nat) (o : Bop) (e : E)
  | ret (e : E)
  | retn
  | pass
  | brk
  | cont
  | ite (c : E) (a b : Ss)
  | whl (c : E) (b : Ss)
  | fr (t : Tgt) (it : It) (b : Ss)
  | never
inductive Ss where
  | n
  | c (s : S) (r : Ss)
end

/-! ### operators -/
mutual
/-- no dict meets a dict -/
def eqD : PD → PD → Bool
  | .dict _, .dict _ => false
  | .list xs, .list ys => eqDs xs ys
  | .tuple xs, .tuple ys => eqDs xs ys
  | _, _ => true
def eqDs : List PD → List PD → Bool
  | x :: xs, y :: ys => eqD x y && eqDs xs ys
  | _, _ => true
end
def flatD : PD → Bool
  | .none => true
  | .bool _ => true
  | .int _ => true
  | .str _ => true
  | _ => false
def eqOk (a b : PD) : Bool := (!a.hasDict && !b.hasDict && decide (min a.depth b.depth ≤ 60)) || (eqD a b && decide (min a.depth b.depth ≤ 60))
/-- plain signs -/
def ascOk (x : Str) : Bool := x.cps.all (· < 128)
def inOk (ys : List PD) (a : PD) : Bool := (!PyData.hasDictAll ys && !a.hasDict && decide (min (PyData.depthAll ys) a.depth ≤ 60)) || ys.all flatD
def smallMul (i j : Int) : Bool := decide (-(2 ^ 64) < i ∧ i < 2 ^ 64) || decide (-(2 ^ 64) < j ∧ j < 2 ^ 64)
/-- a text so many times -/
def repS (n : Nat) (x : Str) : Str := ⟨(List.replicate n x.cps.toList).flatten.toArray⟩
/-- a bool as a number -/
def bi (b : Bool) : Int := if b = true then 1 else 0
def bop : Bop → Val → Val → M Val
  | .add, .d (.int i), .d (.int j) => intV (i + j)
  | .add, .d (.bool b), .d (.int j) => intV (bi b + j)
  | .add, .d (.str x), .d (.str y) => if x.length + y.length ≤ lim then pure (.d (.str (x ++ y))) else bad
  | .add, .d (.tuple xs), .d (.tuple ys) => if xs.length + ys.length ≤ lim then pure (.d (.tuple (xs ++ ys))) else bad
  | .sub, .d (.int i), .d (.int j) => intV (i - j)
  | .sub, .d (.bool b), .d (.int j) => intV (bi b - j)
  | .mul, .d (.int i), .d (.int j) => if i.natAbs < 2 ^ 4000 ∧ j.natAbs < 2 ^ 4000 then intV (i * j) else bad
  | .mul, .d (.str x), .d (.int k) => if k ≤ 1000 ∧ -1000 ≤ k ∧ x.length ≤ 1000 then pure (.d (.str (repS k.toNat x))) else bad
  | .mul, .d (.tuple xs), .d (.int k) => if (xs.isEmpty = false ∧ 2 ≤ k) ∧ k ≤ 1000 ∧ xs.length ≤ 1000 then pure (.d (.tuple (List.replicate k.toNat xs).flatten)) else bad
  | .fdiv, .d (.int i), .d (.int j) => if 0 < j ∧ j < 1073741824 then intV (i / j) else bad
  | .mod, .d (.int i), .d (.int j) => if 0 < j then intV (i % j) else bad
  | .pow, .d (.int i), .d (.int j) => if 0 ≤ j ∧ j ≤ 1000 ∧ i.natAbs < 2 ^ 64 then intV (i ^ j.toNat) else bad
  | _, _, _ => bad
/-- x op= y -/
def iop : Bop → Val → Val → M Val
  | .add, .d (.int i), .d (.int j) => intV (i + j)
  | .add, .d (.str x), .d (.str y) => if x.length + y.length ≤ lim then pure (.d (.str (x ++ y))) else bad
  | .sub, .d (.int i), .d (.int j) => intV (i - j)
  | _, _, _ => bad
/-- list + list (a new list) -/
def isL : Val → Bool
  | .d (.list _) => true
  | .r _ => true
  | _ => false
/-- a list so many times -/
def repL (m : Bool) (x : Val) (k : Int) : M Val := do
  let xs ← seqOf x
  if (k ≤ 1000 ∧ -1000 ≤ k) ∧ xs.length ≤ 1000 then mkL m (List.replicate k.toNat xs).flatten else bad
def isI : Val → Option Int
  | .d (.int k) => some k
  | _ => none
def bopR (m : Bool) (x y : Val) : M Val := match isL x, isI y with
  | true, some k => repL m x k
  | _, _ => bop .mul x y
def bopL (m : Bool) (o : Bop) (x y : Val) : M Val := match o, isL x && isL y with
  | .mul, _ => bopR m x y
  | .add, true => do
    let xs ← seqOf x
    let ys ← seqOf y
    if xs.length + ys.length ≤ lim then mkL m (xs ++ ys) else bad
  | _, _ => bop o x y
def strLt (x y : Str) : Bool := decide (x.cps.toList < y.cps.toList)
def keyOf : PD → Option L2.Key
  | .int i => some (.inl i)
  | .str x => some (.inr x)
  | _ => none
/-- a tuple of ints and texts, a text at its end -/
def keysOf : List PD → Option (List L2.Key)
  | [] => some []
  | d :: r => (keyOf d).bind fun k => (keysOf r).map (k :: ·)
def lastS (ds : List PD) : Bool := match ds.getLast? with
  | some (.str _) => true
  | _ => false
def keyT : PD → Option (List L2.Key)
  | .tuple ds => if lastS ds = true then keysOf ds else none
  | _ => none
def lookT {α : Type} (k : List L2.Key) : List (List L2.Key × α) → Option α
  | [] => none
  | (j, x) :: r => if j = k then some x else lookT k r
def putT {α : Type} (k : List L2.Key) (x : α) (kvs : List (List L2.Key × α)) : List (List L2.Key × α) :=
  if (kvs.any fun kv => decide (kv.1 = k)) = true then kvs.map (fun kv => if kv.1 = k then (kv.1, x) else kv) else kvs ++ [(k, x)]
/-- a list that changes, as it stands -/
def lstD (i : Nat) : M (List PD) := do
  let o ← getO i
  let xs ← itemsO o
  optM (dats xs)
/-- a in an object -/
def inR (o : AO) (a : PD) : M Bool := match o with
  | .dtt kvs => do
    let q ← optM (keyT a)
    pure (lookT q kvs).isSome
  | o => do
    let xs ← itemsO o
    let ys ← optM (dats xs)
    if inOk ys a = true then pure (ys.any fun y => y.eqv a) else bad
def datV : Val → M PD
  | .d x => pure x
  | .r i => do
    let ds ← lstD i
    pure (.list ds)
def cop : Cop → Val → Val → M Val
  | .eq, v, w => do
    let a ← datV v
    let b ← datV w
    if eqOk a b = true then bl (a.eqv b) else bad
  | .ne, v, w => do
    let a ← datV v
    let b ← datV w
    if eqOk a b = true then bl (!a.eqv b) else bad
  | .isin, .d a, .r i => do
    let o ← getO i
    let b ← inR o a
    bl b
  | .notin, .d a, .r i => do
    let o ← getO i
    let b ← inR o a
    bl (!b)
  | .lt, .d (.int i), .d (.int j) => bl (decide (i < j))
  | .le, .d (.int i), .d (.int j) => bl (decide (i ≤ j))
  | .gt, .d (.int i), .d (.int j) => bl (decide (j < i))
  | .ge, .d (.int i), .d (.int j) => bl (decide (j ≤ i))
  | .lt, .d (.str x), .d (.str y) => bl (strLt x y)
  | .is, .d (.bool a), .d (.bool b) => bl (decide (a = b))
  | .isnot, .d (.bool a), .d (.bool b) => bl (!decide (a = b))
  | .is, .d a, .d .none => bl (match a with | .none => true | _ => false)
  | .isnot, .d a, .d .none => bl (match a with | .none => false | _ => true)
  | .is, .r _, .d .none => bl false
  | .isnot, .r _, .d .none => bl true
  | .isin, .d (.str x), .d (.str y) => bl (!(Builtin.Str.occurrences y x 0 y.length 1).isEmpty)
  | .notin, .d (.str x), .d (.str y) => bl (!(!(Builtin.Str.occurrences y x 0 y.length 1).isEmpty))
  | .isin, .d a, .d (.tuple ys) => if inOk ys a = true then bl (ys.any fun y => y.eqv a) else bad
  | .isin, .d a, .d (.list ys) => if inOk ys a = true then bl (ys.any fun y => y.eqv a) else bad
  | .notin, .d a, .d (.tuple ys) => if inOk ys a = true then bl (!(ys.any fun y => y.eqv a)) else bad
  | .notin, .d a, .d (.list ys) => if inOk ys a = true then bl (!(ys.any fun y => y.eqv a)) else bad
  | _, _, _ => bad
def truthO : AO → M Bool
  | .lst xs => pure (!xs.isEmpty)
  | _ => bad
def truth : Val → M Bool
  | .d .none => pure false
  | .d (.bool b) => pure b
  | .d (.int i) => pure (i != 0)
  | .d (.str x) => pure ((x.length : Int) != 0)
  | .d (.list xs) => pure (!xs.isEmpty)
  | .d (.tuple xs) => pure (!xs.isEmpty)
  | .d (.dict _) => bad
  | .r a => do
    let o ← getO a
    truthO o
def look {α : Type} (k : L2.Key) : List (L2.Key × α) → Option α
  | [] => none
  | (j, x) :: r => if j = k then some x else look k r
def lookD (k : L2.Key) : List (PD × PD) → Option PD
  | [] => none
  | (j, x) :: r => if keyOf j = some k then some x else lookD k r
def put {α : Type} (k : L2.Key) (x : α) (kvs : List (L2.Key × α)) : List (L2.Key × α) :=
  if (kvs.any fun kv => decide (kv.1 = k)) = true then kvs.map (fun kv => if kv.1 = k then (kv.1, x) else kv) else kvs ++ [(k, x)]
def strAt (x : Str) (i : Int) : M Val := optM ((L2.atI x.cps.toList i).map fun c => .d (.str ⟨#[c]⟩))
/-- x[i] -/
def ixO : AO → PD → M Val
  | .lst xs, .int i => optM (L2.atI xs i)
  | .dct kvs, k => do
    let q ← optM (keyOf k)
    optM (look q kvs)
  | .dtt kvs, k => do
    let q ← optM (keyT k)
    optM (lookT q kvs)
  | _, _ => bad
def ixV : Val → Val → M Val
  | .d (.list xs), .d (.int i) => optM ((L2.atI xs i).map Val.d)
  | .d (.tuple xs), .d (.int i) => optM ((L2.atI xs i).map Val.d)
  | .d (.str x), .d (.int i) => strAt x i
  | .d (.dict kvs), .d k => do
    let q ← optM (keyOf k)
    optM ((lookD q kvs).map Val.d)
  | .r a, .d k => do
    let o ← getO a
    ixO o k
  | _, _ => bad
/-- x[i] = v -/
def stO : AO → PD → Val → M AO
  | .lst xs, .int i, v => do
    let j ← optM (L2.ixN xs.length i)
    pure (.lst (xs.set j v))
  | .dct kvs, k, v => do
    let q ← optM (keyOf k)
    if kvs.length < lim then pure (.dct (put q v kvs)) else bad
  | .dtt kvs, k, v => do
    let q ← optM (keyT k)
    if kvs.length < lim then pure (.dtt (putT q v kvs)) else bad
  | _, _, _ => bad
def stV : Val → Val → Val → M Unit
  | .r a, .d k, v => do
    let o ← getO a
    let o' ← stO o k v
    setO a o'
  | _, _, _ => bad
def cut {α : Type} (xs : List α) (lo hi : Option Int) : List α := (xs.drop (HT.sIx xs.length 0 lo)).take (HT.sIx xs.length xs.length hi - HT.sIx xs.length 0 lo)
def optI : Val → M (Option Int)
  | .d (.int i) => pure (some i)
  | _ => bad
/-- x[lo:hi] -/
def slV (m : Bool) (x : Val) (lo hi : Option Int) : M Val := match x with
  | .d (.tuple xs) => pure (.d (.tuple (cut xs lo hi)))
  | .d (.str x) => pure (.d (.str (L2.cutS x lo hi)))
  | x => do
    let xs ← seqOf x
    mkL m (cut xs lo hi)
def isTy : Ty → PD → Bool
  | .int, .int _ => true
  | .int, .bool _ => true
  | .bool, .bool _ => true
  | .str, .str _ => true
  | .tuple, .tuple _ => true
  | .list, .list _ => true
  | .dict, .dict _ => true
  | _, _ => false
def isO (t : Ty) : AO → M Val
  | .lst _ => bl (match t with | .list => true | _ => false)
  | .dct _ => bl (match t with | .dict => true | _ => false)
  | _ => bad
def isV (t : Ty) : Val → M Val
  | .d x => bl (isTy t x)
  | .r a => do
    let o ← getO a
    isO t o
def bools : List Val → Option (List Bool)
  | [] => some []
  | .d (.bool b) :: r => (bools r).map (b :: ·)
  | _ :: _ => none
def intsOf : List PD → Option (List Int)
  | [] => some []
  | .int i :: r => (intsOf r).map (i :: ·)
  | _ :: _ => none
def strsOf : List PD → Option (List Str)
  | [] => some []
  | .str i :: r => (strsOf r).map (i :: ·)
  | _ :: _ => none
/-- sorted -/
def srtI (l : List Int) : List Int := l.mergeSort fun a b => decide (a ≤ b)
def srtS (l : List Str) : List Str := l.mergeSort fun a b => !strLt b a
def lenO : AO → M Nat
  | .lst xs => pure xs.length
  | .dct xs => pure xs.length
  | _ => bad
def lenV : Val → M Nat
  | .d (.str x) => pure x.length
  | .d (.dict kvs) => pure kvs.length
  | .r a => do
    let o ← getO a
    lenO o
  | x => do
    let xs ← seqOf x
    pure xs.length
/-- a list's items -/
def lstOf : Val → M (List Val)
  | .d (.list ds) => pure (ds.map .d)
  | .r a => do
    let o ← getO a
    itemsO o
  | _ => bad
def sigs (x : Str) : List PD := x.cps.toList.map fun c => .str ⟨#[c]⟩
def sortM (m : Bool) (ds : List PD) : M Val := match intsOf ds with
  | some is => mkL m ((srtI is).map fun i => .d (.int i))
  | none => do
    let ss ← optM (strsOf ds)
    mkL m ((srtS ss).map fun i => .d (.str i))
/-- sorted(x): a list, or the keys of a dict -/
def sortO (m : Bool) : AO → M Val
  | .lst xs => do
    let ds ← optM (dats xs)
    sortM m ds
  | .dct kvs => if kvs.length < 64 then sortM m (kvs.map fun p => kD p.1) else bad
  | _ => bad
def sortD (m : Bool) : Val → M Val
  | .d (.list ds) => sortM m ds
  | .d (.dict kvs) => if kvs.length < 64 then sortM m (kvs.map fun p => p.1) else bad
  | .d (.str z) => if z.length < 64 then sortM m (sigs z) else bad
  | .r a => do
    let o ← getO a
    sortO m o
  | _ => bad
def maxOf : List Int → Option Int
  | [] => none
  | i :: r => some (r.foldl max i)
/-- max(list) -/
def maxL (x : Val) : M Val := do
  let xs ← lstOf x
  let ds ← optM (dats xs)
  let is ← optM (intsOf ds)
  let i ← optM (maxOf is)
  intV i
def toInt : Val → M Val
  | .d (.int i) => intV i
  | .d (.bool b) => intV (if b then 1 else 0)
  | _ => bad
def toBool : Val → M Val
  | .d (.int i) => bl (i != 0)
  | .d (.bool b) => bl b
  | _ => bad
def toStr : Val → M Val
  | .d (.int i) => if i.natAbs.log2 < 1920 then pure (.d (.str (toString i))) else bad
  | .d (.bool b) => pure (.d (.str (if b then "True" else "False")))
  | .d (.str z) => pure (.d (.str z))
  | _ => bad
def reprV : Val → M Val
  | .d x => if x.showable = true ∧ x.shown.length ≤ lim ∧ x.depth ≤ 60 then pure (.d (.str x.shown)) else bad
  | _ => bad
def toTup : Val → M Val
  | .d (.tuple xs) => pure (.d (.tuple xs))
  | x => do
    let xs ← seqOf x
    let ds ← frzs xs
    pure (.d (.tuple ds))
def revV (m : Bool) : Val → M Val
  | .d (.str z) => pure (.d (.str ⟨z.cps.toList.reverse.toArray⟩))
  | .d (.tuple xs) => pure (.d (.tuple xs.reverse))
  | x => do
    let xs ← lstOf x
    mkL m xs.reverse
def listV (m : Bool) : Val → M Val
  | .d (.str x) => mkL m ((sigs x).map .d)
  | v => do
    let xs ← seqOf v
    mkL m xs
def bi1 (o : Bi) (m : Bool) (x : Val) : M Val := match o with
  | .len => do
    let n ← lenV x
    intV n
  | .all => do
    let xs ← lstOf x
    let bs ← optM (bools xs)
    bl (bs.all id)
  | .any => do
    let xs ← lstOf x
    let bs ← optM (bools xs)
    bl (bs.any id)
  | .int => toInt x
  | .bool => toBool x
  | .str => toStr x
  | .repr => reprV x
  | .list => listV m x
  | .tuple => toTup x
  | .sorted => sortD m x
  | .sum => do
    let xs ← lstOf x
    let ds ← optM (dats xs)
    let is ← optM (intsOf ds)
    intV is.sum
  | .max => maxL x
  | _ => bad
def maxI : Val → Val → M Val
  | .d (.int i), .d (.int j) => intV (if j > i then j else i)
  | _, _ => bad
def minI : Val → Val → M Val
  | .d (.int i), .d (.int j) => intV (if j < i then j else i)
  | _, _ => bad
def bi2 (o : Bi) (m : Bool) (x y : Val) : M Val := match o with
  | .max => maxI x y
  | .min => minI x y
  | _ => bad
def biV (o : Bi) (m : Bool) (vs : List Val) : M Val := match vs with
  | [x] => bi1 o m x
  | [x, y] => bi2 o m x y
  | _ => bad
/-- the kinds of things that have methods here -/
inductive Kd where
  | lst | str | dct
def mtK : Mt → Kd
  | .append => .lst | .extend => .lst | .pop => .lst | .join => .str | .get1 => .dct | .get2 => .dct | .upper => .str | .idx => .str | .cnt => .str | .popi => .lst
def kdO : Kd → AO → M Unit
  | .lst, .lst _ => pure ()
  | .dct, .dct _ => pure ()
  | .dct, .dtt _ => pure ()
  | _, _ => bad
def kdV : Kd → Val → M Unit
  | .lst, .d (.list _) => pure ()
  | .str, .d (.str _) => pure ()
  | .dct, .d (.dict _) => pure ()
  | k, .r a => do
    let o ← getO a
    kdO k o
  | _, _ => bad
def appV (x v : Val) : M Val := match x with
  | .r a => do
    let o ← getO a
    let xs ← itemsO o
    if xs.length < lim then do
      setO a (.lst (xs ++ [v]))
      pure (.d .none)
    else bad
  | _ => bad
def popV (x : Val) : M Val := match x with
  | .r a => do
    let o ← getO a
    let xs ← itemsO o
    let y ← optM xs[xs.length - 1]?
    setO a (.lst xs.dropLast)
    pure y
  | _ => bad
def extV (x y : Val) : M Val := match x with
  | .r a => do
    let ys ← seqOf y
    let o ← getO a
    let xs ← itemsO o
    if xs.length + ys.length ≤ lim then do
      setO a (.lst (xs ++ ys))
      pure (.d .none)
    else bad
  | _ => bad
def joinV (x y : Val) : M Val := match x with
  | .d (.str z) => do
    let ys ← seqOf y
    let ds ← optM (dats ys)
    let ss ← optM (strsOf ds)
    if (ss.map (·.length)).sum + ss.length * z.length ≤ lim then pure (.d (.str (Txt.join z ss))) else bad
  | _ => bad
def getO2 (o : AO) (k : PD) (z : Val) : M Val := match o with
  | .dct kvs => do
    let q ← optM (keyOf k)
    pure ((look q kvs).getD z)
  | .dtt kvs => do
    let q ← optM (keyT k)
    pure ((lookT q kvs).getD z)
  | _ => bad
def getV (x k z : Val) : M Val := match x, k with
  | .d (.dict kvs), .d k => do
    let q ← optM (keyOf k)
    pure (((lookD q kvs).map Val.d).getD z)
  | .r a, .d k => do
    let o ← getO a
    getO2 o k z
  | _, _ => bad
/-- as Txt.upper of plain signs -/
def upV (x : Val) : M Val := match x with
  | .d (.str z) => if z.length ≤ 1000 then pure (.d (.str (Txt.upper z))) else bad
  | _ => bad
def idxV (x y : Val) : M Val := match x, y with
  | .d (.str z), .d (.str t) => do
    let i ← optM (Builtin.Str.occurrences z t 0 z.length 1).head?
    intV ((i : Nat) : Int)
  | _, _ => bad
def cntV (x y : Val) : M Val := match x, y with
  | .d (.str z), .d (.str t) => intV (Txt.count z t)
  | _, _ => bad
/-- xs.pop(i) -/
def popiV (x y : Val) : M Val := match x, y with
  | .r a, .d (.int i) => do
    let o ← getO a
    let xs ← itemsO o
    if 0 ≤ i ∧ i < xs.length then do
      let y ← optM xs[i.toNat]?
      setO a (.lst (xs.eraseIdx i.toNat))
      pure y
    else bad
  | _, _ => bad
def mtV (o : Mt) (x : Val) (vs : List Val) : M Val := match o, vs with
  | .append, [v] => appV x v
  | .pop, [] => popV x
  | .extend, [y] => extV x y
  | .join, [y] => joinV x y
  | .get1, [k] => getV x k (.d .none)
  | .get2, [k, z] => getV x k z
  | .upper, [] => upV x
  | .idx, [y] => idxV x y
  | .cnt, [y] => cntV x y
  | .popi, [y] => popiV x y
  | _, _ => bad

/-! ### what is computed -/
structure Ctx where
  call : Nat → List Val → M Val
  g : Nat → Option PD
/-- a constant of the module, no dict -/
def gV : Option PD → M Val
  | some (.dict _) => bad
  | some d => pure (.d d)
  | none => bad
/-- an item of a dict of the module -/
def gixV (o : Option PD) (x : Val) : M Val := match o, x with
  | some (.dict kvs), .d (.str z) => optM ((lookD (.inr z) kvs).map Val.d)
  | _, _ => bad
abbrev Sg := List (Option Val)
def varV (s : Sg) (i : Nat) : M Val := optM (s[i]?).join
def stores : List Nat → List PD → Sg → M Sg
  | [], [], s => pure s
  | i :: is, x :: xs, s => stores is xs (s.set i (some (.d x)))
  | _, _, _ => bad
def asg : Tgt → Val → Sg → M Sg
  | .v i, x, s => pure (s.set i (some x))
  | .t is, .d (.tuple xs), s => if is.length = xs.length then stores is xs s else bad
  | .t is, .d (.str z), s => if is.length = z.length then stores is (sigs z) s else bad
  | .t _, _, _ => bad
def setL : List Nat → List Val → Sg → Option Sg
  | [], [], s => some s
  | i :: is, v :: vs, s => setL is vs (s.set i (some v))
  | _, _, _ => none
/-- the items that are walked; the list that has to stay as it is meanwhile -/
structure Src where
  items : List Val
  live : Option (Nat × AO)
def src (l : List Val) : Src := ⟨l, none⟩
def srcOf : Val → M Src
  | .d (.list ds) => pure (src (ds.map .d))
  | .d (.tuple ds) => pure (src (ds.map .d))
  | .d (.str x) => pure (src (x.cps.toList.map fun c => .d (.str ⟨#[c]⟩)))
  | .d (.dict kvs) => pure (src (kvs.map fun p => .d p.1))
  | .r a => do
    let o ← getO a
    let xs ← itemsO o
    pure ⟨xs, some (a, .lst xs)⟩
  | _ => bad
def stays (l : Option (Nat × AO)) (h : Hs) : Prop := match l with
  | none => True
  | some (a, o) => h[a]? = some o
def zipP (xs ys : List PD) : Src := src ((xs.zip ys).map fun p => .d (.tuple [p.1, p.2]))
/-- zip -/
def zipV : Val → Val → M Src
  | .d (.list xs), .d (.list ys) => pure (zipP xs ys)
  | .d (.tuple xs), .d (.tuple ys) => pure (zipP xs ys)
  | .d (.str x), .d (.str y) => pure (zipP (sigs x) (sigs y))
  | _, _ => bad
def enumP (xs : List PD) : List Val := xs.zipIdx.map fun p => .d (.tuple [.int (p.2 : Nat), p.1])
/-- enumerate -/
def enumV : Val → M Src
  | .d (.list xs) => pure (src (enumP xs))
  | .r a => do
    let o ← getO a
    let xs ← itemsO o
    let ds ← optM (dats xs)
    pure ⟨enumP ds, some (a, .lst xs)⟩
  | _ => bad
/-- range -/
def rangeI (lo : Int) (n : Nat) (c : Int) : List Val := (List.range n).map fun (i : Nat) => .d (.int (lo + i * c))
def sml (i : Int) : Prop := -(2 ^ 62) ≤ i ∧ i < 2 ^ 62
instance (i : Int) : Decidable (sml i) := by unfold sml; infer_instance
def rgV (vs : List Val) : M Src := match vs with
  | [.d (.int j)] => if sml j ∧ j.toNat ≤ lim then pure (src (rangeI 0 j.toNat 1)) else bad
  | [.d (.int i), .d (.int j)] => if (sml i ∧ sml j) ∧ (j - i).toNat ≤ lim then pure (src (rangeI i (j - i).toNat 1)) else bad
  | [.d (.int i), .d (.int j), .d (.int c)] => if ((sml i ∧ sml j) ∧ c = -1) ∧ (i - j).toNat ≤ lim then pure (src (rangeI i (i - j).toNat (-1))) else bad
  | _ => bad
open Classical in
noncomputable def staysM (l : Option (Nat × AO)) : M Unit := fun h => if stays l h then .ok () h else .bad
section
open Classical
noncomputable def lcL (l : Option (Nat × AO)) (t : Tgt) (c : Sg → M Bool) (e : Sg → M Val) (s : Sg) : List Val → M (List Val)
  | [] => do
    staysM l
    pure []
  | x :: xs => do
    staysM l
    let s1 ← asg t x s
    let b ← c s1
    if b = true then do
      let y ← e s1
      let ys ← lcL l t c e s xs
      pure (y :: ys)
    else lcL l t c e s xs
noncomputable def lcL2 (l : Option (Nat × AO)) (t : Tgt) (f : Sg → M (List Val)) (s : Sg) : List Val → M (List Val)
  | [] => do
    staysM l
    pure []
  | x :: xs => do
    staysM l
    let s1 ← asg t x s
    let ys ← f s1
    let zs ← lcL2 l t f s xs
    pure (ys ++ zs)
end
/-- slots emptied -/
def wS (is : List Nat) (s : Sg) : Sg := is.foldr (fun i s => s.set i none) s
def tgS : Tgt → List Nat
  | .v i => [i]
  | .t is => is
mutual
noncomputable def evE (Γ : Ctx) : E → Sg → M Val
  | .k d, _ => pure (.d d)
  | .v i, s => varV s i
  | .g n, _ => gV (Γ.g n)
  | .gix n e, s => do
    let x ← evE Γ e s
    gixV (Γ.g n) x
  | .bin o a b, s => do
    let x ← evE Γ a s
    let y ← evE Γ b s
    bopL false o x y
  | .neg a, s => do
    let x ← evE Γ a s
    match x with
    | .d (.int i) => intV (-i)
    | _ => bad
  | .cmp o a b, s => do
    let x ← evE Γ a s
    let y ← evE Γ b s
    cop o x y
  | .chn o o' a b c, s => do
    let x ← evE Γ a s
    let y ← evE Γ b s
    let z ← cop o x y
    match z with
    | .d (.bool true) => do
      let w ← evE Γ c s
      cop o' y w
    | .d (.bool false) => bl false
    | _ => bad
  | .and a b, s => do
    let x ← evE Γ a s
    let t ← truth x
    if t = true then evE Γ b s else pure x
  | .or a b, s => do
    let x ← evE Γ a s
    let t ← truth x
    if t = true then pure x else evE Γ b s
  | .not a, s => do
    let x ← evE Γ a s
    let t ← truth x
    bl (!t)
  | .ite c a b, s => do
    let x ← evE Γ c s
    let t ← truth x
    if t = true then evE Γ a s else evE Γ b s
  | .tup es, s => do
    let vs ← evEs Γ es s
    let ds ← frzs vs
    pure (.d (.tuple ds))
  | .lst m es, s => do
    let vs ← evEs Γ es s
    mkL m vs
  | .dtn, _ => new (.dtt [])
  | .dct m ks es, s => do
    let vs ← evEs Γ es s
    if ks.length = vs.length then mkD m (ks.zip vs) else bad
  | .ix a i, s => do
    let x ← evE Γ a s
    let y ← evE Γ i s
    ixV x y
  | .sl m a lo hi, s => do
    let x ← evE Γ a s
    let l ← evO Γ lo s
    let u ← evO Γ hi s
    slV m x l u
  | .rv m a, s => do
    let x ← evE Γ a s
    revV m x
  | .cal f es, s => do
    let vs ← evEs Γ es s
    Γ.call f vs
  | .calk f es ks p, s => do
    let vs ← evEs Γ es s
    let ws ← evEs Γ ks s
    Γ.call f (vs ++ p.filterMap fun i => ws[i]?)
  | .bi o m es, s => do
    let vs ← evEs Γ es s
    biV o m vs
  | .mt o a es, s => do
    let x ← evE Γ a s
    kdV (mtK o) x
    let vs ← evEs Γ es s
    mtV o x vs
  | .isi a t, s => do
    let x ← evE Γ a s
    isV t x
  | .lc m t it c e, s => do
    let r ← evI Γ it s
    let ys ← lcL r.live t (fun s1 => evC Γ c s1) (fun s1 => evE Γ e s1) s r.items
    mkL m ys
  | .lc2 m t it t2 it2 c e, s => do
    let r ← evI Γ it s
    let ys ← lcL2 r.live t (fun s1 => evI Γ it2 s1 >>= fun r2 => lcL r2.live t2 (fun s2 => evC Γ c s2) (fun s2 => evE Γ e s2) s1 r2.items) (wS (tgS t2) s) r.items
    if ys.length ≤ lim then mkL m ys else bad
noncomputable def evEs (Γ : Ctx) : Es → Sg → M (List Val)
  | .n, _ => pure []
  | .c e es, s => do
    let x ← evE Γ e s
    let xs ← evEs Γ es s
    pure (x :: xs)
noncomputable def evO (Γ : Ctx) : Oe → Sg → M (Option Int)
  | .n, _ => pure none
  | .s e, s => do
    let x ← evE Γ e s
    optI x
noncomputable def evC (Γ : Ctx) : Oe → Sg → M Bool
  | .n, _ => pure true
  | .s e, s => do
    let x ← evE Γ e s
    truth x
noncomputable def evI (Γ : Ctx) : It → Sg → M Src
  | .sq a, s => do
    let x ← evE Γ a s
    srcOf x
  | .rg es, s => do
    let vs ← evEs Γ es s
    rgV vs
  | .zip a b, s => do
    let x ← evE Γ a s
    let y ← evE Γ b s
    zipV x y
  | .enum a, s => do
    let x ← evE Γ a s
    enumV x
  | .rev a, s => bad
  | .keys a, s => do
    let x ← evE Γ a s
    match x with
    | .d (.dict kvs) => pure (src (kvs.map fun p => .d p.1))
    | _ => bad
  | .items a, s => bad
  | .vals a, s => bad
end
/-! ### statements -/
inductive Fl where
  | nx (s : Sg)
  | ret (v : Val)
  | brk (s : Sg)
  | ct (s : Sg)
def whlN (c : Sg → M Bool) (b : Sg → M Fl) : Nat → Sg → M Fl
  | 0, _ => bad
  | n + 1, s => do
    let t ← c s
    if t = true then do
      let f ← b s
      match f with
      | .nx s1 => whlN c b n s1
      | .ct s1 => whlN c b n s1
      | .brk s1 => pure (.nx s1)
      | .ret v => pure (.ret v)
    else pure (.nx s)
noncomputable def frL (l : Option (Nat × AO)) (t : Tgt) (b : Sg → M Fl) : List Val → Sg → M Fl
  | [], s => do
    staysM l
    pure (.nx s)
  | x :: xs, s => do
    staysM l
    let s1 ← asg t x s
    let f ← b s1
    match f with
    | .nx s2 => frL l t b xs s2
    | .ct s2 => frL l t b xs s2
    | .brk s2 => pure (.nx s2)
    | .ret v => pure (.ret v)
/-- rounds that a while may take -/
def rounds : Nat := 2 ^ 60
mutual
noncomputable def exS (Γ : Ctx) : S → Sg → M Fl
  | .ex e, s => do
    let _ ← evE Γ e s
    pure (.nx s)
  | .set i e, s => do
    let x ← evE Γ e s
    pure (.nx (s.set i (some x)))
  | .par is es, s => do
    let vs ← evEs Γ es s
    let s1 ← optM (setL is vs s)
    pure (.nx s1)
  | .unp is e, s => do
    let x ← evE Γ e s
    let s1 ← asg (.t is) x s
    pure (.nx s1)
  | .sti o i e, s => do
    let v ← evE Γ e s
    let x ← evE Γ o s
    let k ← evE Γ i s
    stV x k v
    pure (.nx s)
  | .aug i o e, s => do
    let x ← varV s i
    let y ← evE Γ e s
    let z ← iop o x y
    pure (.nx (s.set i (some z)))
  | .ret e, s => do
    let x ← evE Γ e s
    pure (.ret x)
  | .retn, _ => pure (.ret (.d .none))
  | .pass, s => pure (.nx s)
  | .brk, s => pure (.brk s)
  | .cont, s => pure (.ct s)
  | .ite c a b, s => do
    let x ← evE Γ c s
    let t ← truth x
    if t = true then exSs Γ a s else exSs Γ b s
  | .whl c b, s => whlN (fun s1 => do let x ← evE Γ c s1; truth x) (fun s1 => exSs Γ b s1) rounds s
  | .fr t it b, s => do
    let r ← evI Γ it s
    frL r.live t (fun s1 => exSs Γ b s1) r.items s
  | .never, _ => bad
noncomputable def exSs (Γ : Ctx) : Ss → Sg → M Fl
  | .n, s => pure (.nx s)
  | .c a r, s => do
    let f ← exS Γ a s
    match f with
    | .nx s1 => exSs Γ r s1
    | f => pure f
end
/-! ### functions -/
structure Fn where
  np : Nat
  nn : Nat
  fz : Bool
  body : Ss
structure Tab where
  fns : List Fn
  g : Nat → Option PD
/-- the references in a value, an object -/
def refOk (n : Nat) : Val → Prop
  | .d _ => True
  | .r a => a < n
def objOk (n : Nat) : AO → Prop
  | .lst xs => ∀ x ∈ xs, refOk n x
  | .dct kvs => ∀ p ∈ kvs, refOk n p.2
  | .ins _ fs => ∀ p ∈ fs, refOk n p.2
  | .dtt kvs => ∀ p ∈ kvs, refOk n p.2
  | .dead => True
/-- nothing of the first n objects refers to later ones -/
def shut (n : Nat) (h : Hs) : Prop := ∀ o ∈ h.take n, objOk n o
def frzR (fz : Bool) (v : Val) (h : Hs) : Res Val := match fz, v with
  | true, .r a => (match frz (.r a) h with
    | .ok x h' => .ok (.d x) h'
    | .bad => .ok (.r a) h)
  | _, _ => .ok v h
open Classical in
noncomputable def exitC (fz : Bool) (h0 : Hs) (v : Val) (h1 : Hs) : Res Val := match frzR fz v h1 with
  | .ok (.d x) h2 => if h2.take h0.length = h0 ∨ (h0.length ≤ h2.length ∧ shut h0.length h2) then .ok (.d x) (h2.take h0.length) else .ok (.d x) h2
  | r => r
def startS (n : Nat) (vs : List Val) : Sg := vs.map some ++ List.replicate (n - vs.length) none
noncomputable def callN (T : Tab) : Nat → Nat → List Val → M Val
  | 0, _, _ => bad
  | d + 1, f, vs => fun h => match T.fns[f]? with
    | none => .bad
    | some fn => if vs.length = fn.np then (match exSs ⟨callN T d, T.g⟩ fn.body (startS fn.nn vs) h with
      | .ok (.ret v) h1 => exitC fn.fz h v h1
      | .ok (.nx _) h1 => exitC fn.fz h (.d .none) h1
      | _ => .bad) else .bad
end Nv
set_option Elab.async false
set_option linter.all false
set_option maxRecDepth 100000
/-! N2: how the values of N1 stand in the layer's abstract heap. -/
namespace Nv
open PySem L2

/-- the written part, the classes by number -/
structure Wo where
  K : PySem.W.Frag
  cl : Nat → Addr
def KTu (K : PySem.W.Frag) (a : Addr) (xs : List V) : Prop := ∃ (o : Obj) (its : Array Value) (n : Nat), K.lookup a = some o ∧ o.cls = .type "tuple" ∧ o.data = .seq its n ∧ its.size ≤ sizeLine ∧ Vals xs its.toList
/-- no constant of the written part is a tuple with a text at its end -/
def endS (o : Obj) : Bool := match o.cls, o.data with
  | .type "tuple", .seq its _ => (match its.toList.getLast? with
    | some (.str _ _) => true
    | _ => false)
  | _, _ => false
def TkOk (K : PySem.W.Frag) : Prop := ∀ a o, K.lookup a = some o → endS o = false
def FzL (A : Addr → Prop) (H : Hp) (a : Addr) (xs : List V) : Prop := Rd H a (.lst xs) ∧ ¬ A a
def FzT (K : PySem.W.Frag) (A : Addr → Prop) (H : Hp) (a : Addr) (xs : List V) : Prop := (H a = some (.tup xs) ∧ ¬ A a) ∨ KTu K a xs
def FzD (A : Addr → Prop) (H : Hp) (a : Addr) (xs : List (Key × V)) : Prop := Rd H a (.dK xs) ∧ ¬ A a
theorem FzL.sq {K : PySem.W.Frag} {A : Addr → Prop} {H : Hp} {a : Addr} {xs : List V} (h : FzL A H a xs) : SqL K H a xs := .inl h.1
theorem FzT.sq {K : PySem.W.Frag} {A : Addr → Prop} {H : Hp} {a : Addr} {xs : List V} (h : FzT K A H a xs) : SqT K H a xs := h.elim (fun z => .inl (.inl z.1)) .inr
mutual
inductive RepD (K : PySem.W.Frag) (A : Addr → Prop) (H : Hp) : V → PD → Prop
  | non : RepD K A H .non .none
  | bl (b : Bool) : RepD K A H (.bl b) (.bool b)
  | int (i : Int) : RepD K A H (.int i) (.int i)
  | str (x : Str) (hx : x.length ≤ sizeLine) (ho : ascOk x = true) : RepD K A H (.str x) (.str x)
  | lst {a : Addr} {xs : List V} {ds : List PD} : FzL A H a xs → xs.length ≤ sizeLine → RepDs K A H xs ds → RepD K A H (.ref a) (.list ds)
  | tup {a : Addr} {xs : List V} {ds : List PD} : FzT K A H a xs → xs.length ≤ sizeLine → RepDs K A H xs ds → RepD K A H (.ref a) (.tuple ds)
  | dct {a : Addr} {xs : List (Key × V)} {ds : List (PD × PD)} : FzD A H a xs → xs.length ≤ sizeLine → RepKs K A H xs ds → RepD K A H (.ref a) (.dict ds)
inductive RepDs (K : PySem.W.Frag) (A : Addr → Prop) (H : Hp) : List V → List PD → Prop
  | nil : RepDs K A H [] []
  | cons {x : V} {xs : List V} {d : PD} {ds : List PD} : RepD K A H x d → RepDs K A H xs ds → RepDs K A H (x :: xs) (d :: ds)
inductive RepKs (K : PySem.W.Frag) (A : Addr → Prop) (H : Hp) : List (Key × V) → List (PD × PD) → Prop
  | nil : RepKs K A H [] []
  | cons {k : Key} {x : V} {xs : List (Key × V)} {d : PD} {ds : List (PD × PD)} (hk : ∀ z, k = .inr z → z.length ≤ sizeLine ∧ ascOk z = true) : RepD K A H x d → RepKs K A H xs ds → RepKs K A H ((k, x) :: xs) ((kD k, d) :: ds)
end
/-- kept, or a dict that is locked meanwhile -/
def Held (o : HO) (x : Option HO) : Prop := x = some o ∨ ∃ kvs ob, o = .dK kvs ∧ x = some (.frz ob (.dK kvs))
def Keep (A : Addr → Prop) (H H' : Hp) : Prop := ∀ a o, ¬ A a → H a = some o → Held o (H' a)
theorem Keep.rd {A : Addr → Prop} {H H' : Hp} (k : Keep A H H') {a : Addr} {u : HO} (h : Rd H a u) (n : ¬ A a) : Rd H' a u := by
  rcases h with h | ⟨o, h⟩
  · rcases k a u n h with e | ⟨kvs, ob, rfl, e⟩
    · exact .inl e
    · exact .inr ⟨ob, e⟩
  · rcases k a _ n h with e | ⟨kvs, ob, e, _⟩
    · exact .inr ⟨o, e⟩
    · cases e
theorem Keep.tup {A : Addr → Prop} {H H' : Hp} (k : Keep A H H') {a : Addr} {xs : List V} (h : H a = some (.tup xs)) (n : ¬ A a) : H' a = some (.tup xs) := by
  rcases k a _ n h with e | ⟨_, _, e, _⟩
  · exact e
  · cases e
theorem rd_some {H : Hp} {a : Addr} {u : HO} (h : Rd H a u) : H a ≠ none := by
  rcases h with h | ⟨o, h⟩ <;> rw [h] <;> exact fun e => nomatch e
section
variable {K : PySem.W.Frag} {A A' : Addr → Prop} {H H' : Hp}
theorem notA (n : ∀ a, A' a → A a ∨ H a = none) {a : Addr} {u : HO} (h : Rd H a u) (na : ¬ A a) : ¬ A' a := fun z => (n a z).elim na (rd_some h)
theorem FzL.grow (k : Keep A H H') (n : ∀ a, A' a → A a ∨ H a = none) {a : Addr} {xs : List V} (h : FzL A H a xs) : FzL A' H' a xs := ⟨k.rd h.1 h.2, notA n h.1 h.2⟩
theorem FzT.grow (k : Keep A H H') (n : ∀ a, A' a → A a ∨ H a = none) {a : Addr} {xs : List V} (h : FzT K A H a xs) : FzT K A' H' a xs := h.elim (fun z => .inl ⟨k.tup z.1 z.2, notA n (.inl z.1) z.2⟩) .inr
theorem FzD.grow (k : Keep A H H') (n : ∀ a, A' a → A a ∨ H a = none) {a : Addr} {xs : List (Key × V)} (h : FzD A H a xs) : FzD A' H' a xs := ⟨k.rd h.1 h.2, notA n h.1 h.2⟩
mutual
theorem RepD.grow (k : Keep A H H') (n : ∀ a, A' a → A a ∨ H a = none) : ∀ (d : PD) (x : V), RepD K A H x d → RepD K A' H' x d
  | .none, _, .non => .non
  | .bool _, _, .bl b => .bl b
  | .int _, _, .int i => .int i
  | .str _, _, .str x h o => .str x h o
  | .list ds, _, .lst f z r => .lst (f.grow k n) z (RepDs.grow k n ds _ r)
  | .tuple ds, _, .tup f z r => .tup (f.grow k n) z (RepDs.grow k n ds _ r)
  | .dict ds, _, .dct f z r => .dct (f.grow k n) z (RepKs.grow k n ds _ r)
theorem RepDs.grow (k : Keep A H H') (n : ∀ a, A' a → A a ∨ H a = none) : ∀ (ds : List PD) (xs : List V), RepDs K A H xs ds → RepDs K A' H' xs ds
  | [], _, .nil => .nil
  | d :: ds, _, .cons h t => .cons (RepD.grow k n d _ h) (RepDs.grow k n ds _ t)
theorem RepKs.grow (k : Keep A H H') (n : ∀ a, A' a → A a ∨ H a = none) : ∀ (ds : List (PD × PD)) (xs : List (Key × V)), RepKs K A H xs ds → RepKs K A' H' xs ds
  | [], _, .nil => .nil
  | (_, d) :: ds, _, .cons hk h t => .cons hk (RepD.grow k n d _ h) (RepKs.grow k n ds _ t)
end
theorem RepDs.length : ∀ {xs : List V} {ds : List PD}, RepDs K A H xs ds → xs.length = ds.length
  | _, _, .nil => rfl
  | _, _, .cons _ t => congrArg (· + 1) t.length
theorem RepKs.length : ∀ {xs : List (Key × V)} {ds : List (PD × PD)}, RepKs K A H xs ds → xs.length = ds.length
  | _, _, .nil => rfl
  | _, _, .cons _ _ t => congrArg (· + 1) t.length
theorem RepDs.get : ∀ {xs : List V} {ds : List PD}, RepDs K A H xs ds → ∀ {i : Nat} {d : PD}, ds[i]? = some d → ∃ x, xs[i]? = some x ∧ RepD K A H x d
  | _, _, .nil, _, _, e => by simp at e
  | _, _, .cons h t, 0, _, e => by simp at e; subst e; exact ⟨_, rfl, h⟩
  | _, _, .cons h t, i + 1, _, e => by
    obtain ⟨x, h1, h2⟩ := t.get (i := i) (by simpa using e)
    exact ⟨x, by simpa using h1, h2⟩
theorem RepDs.app : ∀ {xs ys : List V} {ds es : List PD}, RepDs K A H xs ds → RepDs K A H ys es → RepDs K A H (xs ++ ys) (ds ++ es)
  | _, _, _, _, .nil, s => s
  | _, _, _, _, .cons h t, s => .cons h (t.app s)
theorem RepDs.take : ∀ {xs : List V} {ds : List PD} (n : Nat), RepDs K A H xs ds → RepDs K A H (xs.take n) (ds.take n)
  | _, _, 0, _ => by simp; exact .nil
  | _, _, _ + 1, .nil => .nil
  | _, _, n + 1, .cons h t => .cons h (t.take n)
theorem RepDs.drop : ∀ {xs : List V} {ds : List PD} (n : Nat), RepDs K A H xs ds → RepDs K A H (xs.drop n) (ds.drop n)
  | _, _, 0, r => r
  | _, _, _ + 1, .nil => .nil
  | _, _, n + 1, .cons h t => t.drop n
theorem RepDs.rev {xs : List V} {ds : List PD} (h : RepDs K A H xs ds) : RepDs K A H xs.reverse ds.reverse := by
  have go : ∀ {xs : List V} {ds : List PD}, RepDs K A H xs ds → RepDs K A H xs.reverse ds.reverse := by
    intro xs
    induction xs with
    | nil => intro ds h; cases h; exact .nil
    | cons x r ih =>
      intro ds h
      cases h with
      | cons h t =>
        rw [List.reverse_cons, List.reverse_cons]
        exact (ih t).app (.cons h .nil)
  exact go h
end
/-- where the objects stand; addresses that are set apart meanwhile (a list that a comprehension fills) -/
structure Ph where
  l : List Addr
  z : List Addr
def Ph.push (φ : Ph) (p : Addr) : Ph := ⟨φ.l ++ [p], φ.z⟩
/-- the addresses of objects that may change -/
def Lv (φ : Ph) (h : Hs) (a : Addr) : Prop := ∃ (i : Nat) (o : AO), φ.l[i]? = some a ∧ h[i]? = some o ∧ o ≠ .dead
def Al (φ : Ph) (h : Hs) (a : Addr) : Prop := Lv φ h a ∨ a ∈ φ.z
structure Gr0 (φ : Ph) (h : Hs) (H : Hp) (φ' : Ph) (h' : Hs) (H' : Hp) : Prop where
  pre : ∃ ψ, φ'.l = φ.l ++ ψ
  keep : Keep (Al φ h) H H'
  new : ∀ a, Al φ' h' a → Al φ h a ∨ H a = none
structure Grow (φ : Ph) (h : Hs) (H : Hp) (φ' : Ph) (h' : Hs) (H' : Hp) : Prop extends Gr0 φ h H φ' h' H' where
  z : φ'.z = φ.z
  zk : ∀ a ∈ φ.z, H' a = H a
def RepV (W : Wo) (φ : Ph) (h : Hs) (H : Hp) (x : V) : Val → Prop
  | .d d => RepD W.K (Al φ h) H x d
  | .r i => ∃ a, φ.l[i]? = some a ∧ x = .ref a
abbrev RepVs (W : Wo) (φ : Ph) (h : Hs) (H : Hp) : List V → List Val → Prop := Paired (RepV W φ h H)
def ObR (W : Wo) (φ : Ph) (h : Hs) (H : Hp) (a : Addr) : AO → Prop
  | .lst xs => ∃ vs, H a = some (.lst vs) ∧ vs.length ≤ sizeLine ∧ RepVs W φ h H vs xs
  | .dct kvs => ∃ ws : List (Key × V), H a = some (.dK ws) ∧ ws.length ≤ sizeLine ∧ Paired (fun p q => p.1 = q.1 ∧ (∀ z, p.1 = .inr z → z.length ≤ sizeLine ∧ ascOk z = true) ∧ RepV W φ h H p.2 q.2) ws kvs
  | .ins c fs => ∃ (dx : Addr) (ws : List (Str × V)), H a = some (.ins (W.cl c) dx ws) ∧ ws.length < 500 ∧ Paired (fun p q => p.1 = q.1 ∧ RepV W φ h H p.2 q.2) ws fs
  | .dtt kvs => TkOk W.K ∧ ∃ ws : List (List Key × V), H a = some (.dT ws) ∧ ws.length ≤ sizeLine ∧ Paired (fun p q => p.1 = q.1 ∧ RepV W φ h H p.2 q.2) ws kvs
  | .dead => True
structure AbsH (W : Wo) (φ : Ph) (h : Hs) (H : Hp) : Prop where
  len : φ.l.length = h.length
  inj : ∀ (i j : Nat) (a : Addr) (o u : AO), φ.l[i]? = some a → φ.l[j]? = some a → h[i]? = some o → h[j]? = some u → o ≠ .dead → u ≠ .dead → i = j
  ob : ∀ (i : Nat) (a : Addr) (o : AO), φ.l[i]? = some a → h[i]? = some o → ObR W φ h H a o
  zs : ∀ a ∈ φ.z, H a ≠ none
  zd : ∀ a ∈ φ.z, ¬ Lv φ h a
structure AbsS (W : Wo) (φ : Ph) (h : Hs) (H : Hp) (σ : St) (s : Sg) : Prop where
  len : σ.length = s.length
  at_ : ∀ (i : Nat) (v : Val), s[i]? = some (some v) → ∃ x, σ[i]? = some (some x) ∧ RepV W φ h H x v
section
variable {W : Wo} {φ φ' φ2 : Ph} {h h' h2 : Hs} {H H' H2 : Hp}
theorem Gr0.refl : Gr0 φ h H φ h H := ⟨⟨[], by simp⟩, fun _ _ _ e => .inl e, fun _ z => .inl z⟩
theorem Grow.refl : Grow φ h H φ h H := ⟨Gr0.refl, rfl, fun _ _ => rfl⟩
theorem Held.trans {o : HO} {x : Option HO} {y : Option HO} (h : Held o x) (k : ∀ u, x = some u → Held u y) : Held o y := by
  rcases h with rfl | ⟨kvs, ob, rfl, rfl⟩
  · exact k _ rfl
  · rcases k _ rfl with e | ⟨_, _, e, _⟩
    · exact .inr ⟨kvs, ob, rfl, e⟩
    · cases e
theorem Held.some {o : HO} {x : Option HO} (h : Held o x) : x ≠ none := by
  rcases h with rfl | ⟨_, _, _, rfl⟩ <;> exact fun e => nomatch e
theorem Gr0.trans (a : Gr0 φ h H φ' h' H') (b : Gr0 φ' h' H' φ2 h2 H2) : Gr0 φ h H φ2 h2 H2 := by
  obtain ⟨⟨p, e1⟩, k1, n1⟩ := a
  obtain ⟨⟨q, e2⟩, k2, n2⟩ := b
  refine ⟨⟨p ++ q, by rw [e2, e1, List.append_assoc]⟩, fun c o nc e => ?_, fun c z => ?_⟩
  · have x := k1 c o nc e
    refine x.trans fun u eu => k2 c u (fun z => ?_) eu
    rcases n1 c z with z | z
    · exact nc z
    · rw [e] at z; cases z
  · rcases n2 c z with z | z
    · exact n1 c z
    · by_cases ha : Al φ h c
      · exact .inl ha
      · refine .inr ?_
        cases eh : H c with
        | none => rfl
        | some o => exact absurd z (k1 c o ha eh).some
theorem Grow.trans (a : Grow φ h H φ' h' H') (b : Grow φ' h' H' φ2 h2 H2) : Grow φ h H φ2 h2 H2 :=
  ⟨a.toGr0.trans b.toGr0, b.z.trans a.z, fun c hc => (b.zk c (by rw [a.z]; exact hc)).trans (a.zk c hc)⟩
theorem Gr0.at_ (a : Gr0 φ h H φ' h' H') {i : Nat} {x : Addr} (e : φ.l[i]? = some x) : φ'.l[i]? = some x := by
  obtain ⟨⟨p, e1⟩, _, _⟩ := a
  rw [e1, List.getElem?_append_left (List.getElem?_eq_some_iff.mp e).1, e]
theorem RepV.grow0 (g : Gr0 φ h H φ' h' H') {x : V} : ∀ {v : Val}, RepV W φ h H x v → RepV W φ' h' H' x v
  | .d d, r => RepD.grow g.keep g.new d x r
  | .r _, ⟨a, e, z⟩ => ⟨a, g.at_ e, z⟩
theorem RepV.grow (g : Grow φ h H φ' h' H') {x : V} {v : Val} (r : RepV W φ h H x v) : RepV W φ' h' H' x v := r.grow0 g.toGr0
theorem paired_imp {α β : Type} {F G : α → β → Prop} (f : ∀ a b, F a b → G a b) : ∀ {xs : List α} {ys : List β}, Paired F xs ys → Paired G xs ys
  | _, _, .nil => .nil
  | _, _, .cons r t => .cons (f _ _ r) (paired_imp f t)
theorem RepVs.grow0 (g : Gr0 φ h H φ' h' H') {xs : List V} {vs : List Val} (r : RepVs W φ h H xs vs) : RepVs W φ' h' H' xs vs := paired_imp (fun _ _ z => z.grow0 g) r
theorem RepVs.grow (g : Grow φ h H φ' h' H') {xs : List V} {vs : List Val} (r : RepVs W φ h H xs vs) : RepVs W φ' h' H' xs vs := RepVs.grow0 g.toGr0 r
theorem AbsS.grow0 (g : Gr0 φ h H φ' h' H') {σ : St} {s : Sg} (a : AbsS W φ h H σ s) : AbsS W φ' h' H' σ s := ⟨a.len, fun i v e => by
  obtain ⟨x, e1, r⟩ := a.at_ i v e
  exact ⟨x, e1, r.grow0 g⟩⟩
theorem AbsS.grow (g : Grow φ h H φ' h' H') {σ : St} {s : Sg} (a : AbsS W φ h H σ s) : AbsS W φ' h' H' σ s := a.grow0 g.toGr0
theorem ObR.grow0 (g : Gr0 φ h H φ' h' H') {a : Addr} (e : H' a = H a) : ∀ {o : AO}, ObR W φ h H a o → ObR W φ' h' H' a o
  | .lst _, ⟨vs, e1, z, r⟩ => ⟨vs, e.trans e1, z, RepVs.grow0 g r⟩
  | .dct _, ⟨ws, e1, z, r⟩ => ⟨ws, e.trans e1, z, paired_imp (fun _ _ q => ⟨q.1, q.2.1, q.2.2.grow0 g⟩) r⟩
  | .ins _ _, ⟨dx, ws, e1, z, r⟩ => ⟨dx, ws, e.trans e1, z, paired_imp (fun _ _ q => ⟨q.1, q.2.grow0 g⟩) r⟩
  | .dtt _, ⟨t, ws, e1, z, r⟩ => ⟨t, ws, e.trans e1, z, paired_imp (fun _ _ q => ⟨q.1, q.2.grow0 g⟩) r⟩
  | .dead, _ => trivial
theorem AbsH.alive (a : AbsH W φ h H) {i : Nat} {o : AO} (e : h[i]? = some o) : ∃ x, φ.l[i]? = some x ∧ ObR W φ h H x o := by
  have hi : i < φ.l.length := by rw [a.len]; exact (List.getElem?_eq_some_iff.mp e).1
  exact ⟨φ.l[i], List.getElem?_eq_getElem hi, a.ob i _ o (List.getElem?_eq_getElem hi) e⟩
theorem ObR.there {a : Addr} : ∀ {o : AO}, o ≠ .dead → ObR W φ h H a o → H a ≠ none
  | .lst _, _, ⟨vs, e1, _⟩ => by rw [e1]; exact fun e => nomatch e
  | .dct _, _, ⟨vs, e1, _⟩ => by rw [e1]; exact fun e => nomatch e
  | .ins _ _, _, ⟨_, vs, e1, _⟩ => by rw [e1]; exact fun e => nomatch e
  | .dtt _, _, ⟨_, vs, e1, _⟩ => by rw [e1]; exact fun e => nomatch e
  | .dead, n, _ => absurd rfl n
theorem AbsH.lv (a : AbsH W φ h H) {x : Addr} (z : Lv φ h x) : H x ≠ none := by
  obtain ⟨i, o, e1, e2, n⟩ := z
  exact (a.ob i x o e1 e2).there n
theorem AbsH.al (a : AbsH W φ h H) {x : Addr} (z : Al φ h x) : H x ≠ none := z.elim a.lv (a.zs x)
/-- a new object that is not tracked by number -/
theorem Grow.fresh (a : AbsH W φ h H) {p : Addr} {o : HO} (hp : H p = none) : Grow φ h H φ h (upd H p o) :=
  ⟨⟨⟨[], by simp⟩, fun b u _ e => .inl (by rw [upd_ne (ne_of_none e hp)]; exact e), fun _ z => .inl z⟩, rfl, fun b hb => upd_ne fun e => a.zs b hb (by rw [e]; exact hp)⟩
theorem AbsH.fresh (a : AbsH W φ h H) {p : Addr} {o : HO} (hp : H p = none) : AbsH W φ h (upd H p o) :=
  ⟨a.len, a.inj, fun i x u e1 e2 => by
    by_cases n : u = .dead
    · subst n; trivial
    · have t := (a.ob i x u e1 e2).there n
      exact (a.ob i x u e1 e2).grow0 (Grow.fresh a hp).toGr0 (upd_ne fun z => t (by rw [z]; exact hp)),
  fun b hb => by
    have t := a.zs b hb
    rw [upd_ne fun e => t (by rw [e]; exact hp)]
    exact t, a.zd⟩
theorem AbsH.nal (a : AbsH W φ h H) {p : Addr} (hp : H p = none) : ¬ Al φ h p := fun z => a.al z hp
/-- a new object with a number -/
theorem lv_snoc (len : φ.l.length = h.length) {p x : Addr} {o : AO} (z : Lv (φ.push p) (h ++ [o]) x) : Lv φ h x ∨ x = p := by
  obtain ⟨i, u, e1, e2, n⟩ := z
  have e1 : (φ.l ++ [p])[i]? = some x := e1
  by_cases hi : i < φ.l.length
  · rw [List.getElem?_append_left hi] at e1
    rw [List.getElem?_append_left (len ▸ hi)] at e2
    exact .inl ⟨i, u, e1, e2, n⟩
  · rw [List.getElem?_append_right (Nat.le_of_not_lt hi)] at e1
    have := List.mem_of_getElem? e1
    simp at this
    exact .inr this
theorem Gr0.adopt (a : AbsH W φ h H) {p : Addr} {o : AO} : ∀ x, Al (φ.push p) (h ++ [o]) x → Al φ h x ∨ x = p := fun x z => by
  rcases z with z | z
  · exact (lv_snoc a.len z).imp .inl id
  · exact .inl (.inr z)
theorem Grow.alloc (a : AbsH W φ h H) {p : Addr} {o : AO} {u : HO} (hp : H p = none) : Grow φ h H (φ.push p) (h ++ [o]) (upd H p u) :=
  ⟨⟨⟨[p], rfl⟩, fun b v _ e => .inl (by rw [upd_ne (ne_of_none e hp)]; exact e), fun x z => (Gr0.adopt a x z).imp id fun e => by rw [e]; exact hp⟩, rfl, fun b hb => upd_ne fun e => a.zs b hb (by rw [e]; exact hp)⟩
/-- an object that stands there gets a number -/
theorem AbsH.adopt {H0 : Hp} {p : Addr} {o : AO} (a : AbsH W φ h H0) (g : Gr0 φ h H0 (φ.push p) (h ++ [o]) H) (same : ∀ x, x ≠ p → H x = H0 x) (np : ¬ Al φ h p) (there : H p ≠ none) (r : ObR W (φ.push p) (h ++ [o]) H p o) : AbsH W (φ.push p) (h ++ [o]) H := by
  have at1 : ∀ i x v, (φ.l ++ [p])[i]? = some x → (h ++ [o])[i]? = some v → (φ.l[i]? = some x ∧ h[i]? = some v) ∨ (i = φ.l.length ∧ x = p ∧ v = o) := fun i x v e1 e2 => by
    by_cases hi : i < φ.l.length
    · rw [List.getElem?_append_left hi] at e1
      rw [List.getElem?_append_left (a.len ▸ hi)] at e2
      exact .inl ⟨e1, e2⟩
    · rw [List.getElem?_append_right (Nat.le_of_not_lt hi)] at e1
      rw [List.getElem?_append_right (by rw [← a.len]; exact Nat.le_of_not_lt hi)] at e2
      have k1 := List.mem_of_getElem? e1
      have k2 := List.mem_of_getElem? e2
      have k3 := (List.getElem?_eq_some_iff.mp e1).1
      simp at k1 k2 k3
      exact .inr ⟨by omega, k1, k2⟩
  refine ⟨by simp [Ph.push, a.len], fun i j x v w e1 e2 e3 e4 n1 n2 => ?_, fun i x v e1 e2 => ?_, fun b hb => ?_, fun b hb z => ?_⟩
  · rcases at1 i x v e1 e3 with ⟨f1, f2⟩ | ⟨f1, f2, f3⟩
    · rcases at1 j x w e2 e4 with ⟨g1, g2⟩ | ⟨g1, g2, g3⟩
      · exact a.inj i j x v w f1 g1 f2 g2 n1 n2
      · subst g2
        exact absurd (.inl ⟨i, v, f1, f2, n1⟩) np
    · rcases at1 j x w e2 e4 with ⟨g1, g2⟩ | ⟨g1, g2, g3⟩
      · subst f2
        exact absurd (.inl ⟨j, w, g1, g2, n2⟩) np
      · rw [f1, g1]
  · rcases at1 i x v e1 e2 with ⟨f1, f2⟩ | ⟨f1, f2, f3⟩
    · by_cases n : v = .dead
      · subst n; trivial
      · refine (a.ob i x v f1 f2).grow0 g (same x fun z => np ?_)
        rw [← z]
        exact .inl ⟨i, v, f1, f2, n⟩
    · subst f2; subst f3; exact r
  · have nb : b ≠ p := fun z => np (by rw [← z]; exact .inr hb)
    rw [same b nb]
    exact a.zs b hb
  · rcases lv_snoc a.len z with z | z
    · exact a.zd b hb z
    · exact np (by rw [← z]; exact .inr hb)
theorem AbsH.alloc (a : AbsH W φ h H) {p : Addr} {o : AO} {u : HO} (hp : H p = none) (r : ObR W (φ.push p) (h ++ [o]) (upd H p u) p o) : AbsH W (φ.push p) (h ++ [o]) (upd H p u) :=
  a.adopt (Grow.alloc a hp).toGr0 (fun x n => upd_ne n) (a.nal hp) (by rw [upd_same]; exact fun e => nomatch e) r
/-- an object is changed -/
theorem lv_set {i : Nat} {o : AO} {x : Addr} (live : ∀ u, h[i]? = some u → u ≠ .dead) (z : Lv φ (h.set i o) x) : Lv φ h x := by
  obtain ⟨j, u, e1, e2, n⟩ := z
  by_cases hj : i = j
  · subst hj
    have hl : i < h.length := by
      have := (List.getElem?_eq_some_iff.mp e2).1
      simpa using this
    exact ⟨i, h[i], e1, List.getElem?_eq_getElem hl, live _ (List.getElem?_eq_getElem hl)⟩
  · rw [List.getElem?_set_ne hj] at e2
    exact ⟨j, u, e1, e2, n⟩
theorem al_set {i : Nat} {o : AO} {x : Addr} (live : ∀ u, h[i]? = some u → u ≠ .dead) (z : Al φ (h.set i o) x) : Al φ h x := z.imp (lv_set live) id
theorem Grow.write (a : AbsH W φ h H) {i : Nat} {p : Addr} {o w : AO} {u : HO} (ep : φ.l[i]? = some p) (eo : h[i]? = some o) (n : o ≠ .dead) : Grow φ h H φ (h.set i w) (upd H p u) :=
  ⟨⟨⟨[], by simp⟩, fun b v nb e => .inl (by rw [upd_ne (show b ≠ p from fun z => nb (by rw [z]; exact .inl ⟨i, o, ep, eo, n⟩))]; exact e), fun x z => .inl (al_set (fun v e => by rw [eo] at e; cases e; exact n) z)⟩, rfl,
    fun b hb => upd_ne fun e => a.zd b hb (by rw [e]; exact ⟨i, o, ep, eo, n⟩)⟩
theorem AbsH.write (a : AbsH W φ h H) {i : Nat} {p : Addr} {o w : AO} {u : HO} (ep : φ.l[i]? = some p) (eo : h[i]? = some o) (n : o ≠ .dead) (r : ObR W φ (h.set i w) (upd H p u) p w) : AbsH W φ (h.set i w) (upd H p u) := by
  have hl : i < h.length := (List.getElem?_eq_some_iff.mp eo).1
  have at1 : ∀ j v, (h.set i w)[j]? = some v → (j = i ∧ v = w) ∨ (j ≠ i ∧ h[j]? = some v) := fun j v e => by
    by_cases hj : i = j
    · subst hj
      rw [List.getElem?_set_self hl] at e
      cases e; exact .inl ⟨rfl, rfl⟩
    · rw [List.getElem?_set_ne hj] at e
      exact .inr ⟨fun z => hj z.symm, e⟩
  refine ⟨by simp [a.len], fun j k x v z e1 e2 e3 e4 n1 n2 => ?_, fun j x v e1 e2 => ?_, fun b hb => ?_, fun b hb z => a.zd b hb (lv_set (fun v e => by rw [eo] at e; cases e; exact n) z)⟩
  · rcases at1 j v e3 with ⟨rfl, rfl⟩ | ⟨g1, g2⟩
    · rcases at1 k z e4 with ⟨rfl, rfl⟩ | ⟨g3, g4⟩
      · rfl
      · exact a.inj _ k x o z e1 e2 eo g4 n n2
    · rcases at1 k z e4 with ⟨rfl, rfl⟩ | ⟨g3, g4⟩
      · exact a.inj j _ x v o e1 e2 g2 eo n1 n
      · exact a.inj j k x v z e1 e2 g2 g4 n1 n2
  · rcases at1 j v e2 with ⟨rfl, rfl⟩ | ⟨g1, g2⟩
    · rw [ep] at e1; cases e1; exact r
    · by_cases nd : v = .dead
      · subst nd; trivial
      · refine (a.ob j x v e1 g2).grow0 (Grow.write a ep eo n).toGr0 (upd_ne fun z => g1 ?_)
        subst z
        exact a.inj j i x v o e1 ep g2 eo nd n
  · rw [upd_ne fun e => a.zd b hb (by rw [e]; exact ⟨i, o, ep, eo, n⟩)]
    exact a.zs b hb
/-- an object changes no more -/
theorem Grow.kill {i : Nat} {o : AO} (eo : h[i]? = some o) (n : o ≠ .dead) : Grow φ h H φ (h.set i .dead) H :=
  ⟨⟨⟨[], by simp⟩, fun b v nb e => .inl e, fun x z => .inl (al_set (fun v e => by rw [eo] at e; cases e; exact n) z)⟩, rfl, fun _ _ => rfl⟩
theorem AbsH.kill (a : AbsH W φ h H) {i : Nat} {o : AO} (eo : h[i]? = some o) (n : o ≠ .dead) : AbsH W φ (h.set i .dead) H := by
  have hl : i < h.length := (List.getElem?_eq_some_iff.mp eo).1
  have at1 : ∀ (j : Nat) (v : AO), v ≠ .dead → (h.set i .dead)[j]? = some v → h[j]? = some v := fun j v nv e => by
    by_cases hj : i = j
    · subst hj
      rw [List.getElem?_set_self hl] at e
      cases e; exact absurd rfl nv
    · rw [List.getElem?_set_ne hj] at e
      exact e
  refine ⟨by simp [a.len], fun j k x v z e1 e2 e3 e4 n1 n2 => a.inj j k x v z e1 e2 (at1 j v n1 e3) (at1 k z n2 e4) n1 n2, fun j x v e1 e2 => ?_, a.zs, fun b hb z => a.zd b hb (lv_set (fun v e => by rw [eo] at e; cases e; exact n) z)⟩
  by_cases nd : v = .dead
  · subst nd; trivial
  · exact (a.ob j x v e1 (at1 j v nd e2)).grow0 (Grow.kill eo n).toGr0 rfl
theorem notAl_kill (a : AbsH W φ h H) {i : Nat} {p : Addr} {o : AO} (ep : φ.l[i]? = some p) (eo : h[i]? = some o) (n : o ≠ .dead) : ¬ Al φ (h.set i .dead) p := fun z => by
  rcases z with ⟨j, u, e1, e2, nu⟩ | z
  · have hl : i < h.length := (List.getElem?_eq_some_iff.mp eo).1
    by_cases hj : i = j
    · subst hj
      rw [List.getElem?_set_self hl] at e2
      cases e2; exact nu rfl
    · rw [List.getElem?_set_ne hj] at e2
      exact hj (a.inj i j p o u ep e1 eo e2 n nu)
  · exact a.zd p z ⟨i, o, ep, eo, n⟩
/-! ### an address set apart -/
def Ph.cons (φ : Ph) (D : Addr) : Ph := ⟨φ.l, D :: φ.z⟩
theorem lv_cons {D x : Addr} : Lv (φ.cons D) h x ↔ Lv φ h x := Iff.rfl
theorem al_cons {D x : Addr} : Al (φ.cons D) h x ↔ Al φ h x ∨ x = D := by
  constructor
  · rintro (z | z)
    · exact .inl (.inl z)
    · rcases List.mem_cons.mp z with z | z
      · exact .inr z
      · exact .inl (.inr z)
  · rintro ((z | z) | z)
    · exact .inl z
    · exact .inr (List.mem_cons_of_mem _ z)
    · exact .inr (by rw [z]; exact List.mem_cons_self ..)
theorem Gr0.apart (a : AbsH W φ h H) {D : Addr} {o : HO} (hD : H D = none) : Gr0 φ h H (φ.cons D) h (upd H D o) :=
  ⟨⟨[], by simp [Ph.cons]⟩, fun b u _ e => .inl (by rw [upd_ne (ne_of_none e hD)]; exact e), fun x z => (al_cons.mp z).imp id fun e => by rw [e]; exact hD⟩
theorem AbsH.apart (a : AbsH W φ h H) {D : Addr} {o : HO} (hD : H D = none) : AbsH W (φ.cons D) h (upd H D o) := by
  have nl : ¬ Lv φ h D := fun z => a.lv z hD
  refine ⟨a.len, a.inj, fun i x u e1 e2 => ?_, fun b hb => ?_, fun b hb z => ?_⟩
  · by_cases n : u = .dead
    · subst n; trivial
    · exact (a.ob i x u e1 e2).grow0 (Gr0.apart a hD) (upd_ne fun z => nl (by rw [← z]; exact ⟨i, u, e1, e2, n⟩))
  · by_cases e : b = D
    · rw [e, upd_same]; exact fun z => nomatch z
    · rw [upd_ne e]
      exact a.zs b ((List.mem_cons.mp hb).resolve_left e)
  · rcases List.mem_cons.mp hb with rfl | hb
    · exact nl z
    · exact a.zd b hb z
/-- what stands apart is changed -/
theorem Gr0.stir {D : Addr} {o : HO} (hD : D ∈ φ.z) : Gr0 φ h H φ h (upd H D o) :=
  ⟨⟨[], by simp⟩, fun b u nb e => .inl (by rw [upd_ne (show b ≠ D from fun z => nb (by rw [z]; exact .inr hD))]; exact e), fun _ z => .inl z⟩
theorem AbsH.stir (a : AbsH W φ h H) {D : Addr} {o : HO} (hD : D ∈ φ.z) : AbsH W φ h (upd H D o) := by
  refine ⟨a.len, a.inj, fun i x u e1 e2 => ?_, fun b hb => ?_, a.zd⟩
  · by_cases n : u = .dead
    · subst n; trivial
    · exact (a.ob i x u e1 e2).grow0 (Gr0.stir hD) (upd_ne fun z => a.zd D hD (by rw [← z]; exact ⟨i, u, e1, e2, n⟩))
  · by_cases e : b = D
    · rw [e, upd_same]; exact fun z => nomatch z
    · rw [upd_ne e]
      exact a.zs b hb
/-- it comes back -/
theorem Gr0.back {D : Addr} : Gr0 (φ.cons D) h H φ h H :=
  ⟨⟨[], by simp [Ph.cons]⟩, fun b u _ e => .inl e, fun x z => .inl (al_cons.mpr (.inl z))⟩
theorem AbsH.back {D : Addr} (a : AbsH W (φ.cons D) h H) : AbsH W φ h H :=
  ⟨a.len, a.inj, fun i x u e1 e2 => (a.ob i x u e1 e2).grow0 Gr0.back rfl, fun b hb => a.zs b (List.mem_cons_of_mem _ hb), fun b hb => a.zd b (List.mem_cons_of_mem _ hb)⟩
end
end Nv
set_option Elab.async false
set_option linter.all false
set_option maxRecDepth 100000
/-! N3: readings out of N1's functions; the operators. -/
namespace Nv
open PySem L2 PyProof.Rows

section
variable (W : Wo)
def teOf (m : Sg → M Val) : TE := fun σ H Q => ∃ φ h s, AbsH W φ h H ∧ AbsS W φ h H σ s ∧ ∃ v h', m s h = .ok v h' ∧
  ∀ x φ' H', Grow φ h H φ' h' H' → AbsH W φ' h' H' → RepV W φ' h' H' x v → Q x H'
def ttOf (m : Sg → M Bool) : TT := fun σ H Q => ∃ φ h s, AbsH W φ h H ∧ AbsS W φ h H σ s ∧ ∃ b h', m s h = .ok b h' ∧
  ∀ φ' H', Grow φ h H φ' h' H' → AbsH W φ' h' H' → Q b H'
def taOf (m : Sg → M (List Val)) : TA := fun σ H Q => ∃ φ h s, AbsH W φ h H ∧ AbsS W φ h H σ s ∧ ∃ vs h', m s h = .ok vs h' ∧
  ∀ xs φ' H', Grow φ h H φ' h' H' → AbsH W φ' h' H' → RepVs W φ' h' H' xs vs → Q xs H'
/-- what is wanted of a result of a step from h -/
def Wnt (φ : Ph) (h : Hs) (H : Hp) (v : Val) (h' : Hs) (Q : VK) : Prop := ∀ x φ' H', Grow φ h H φ' h' H' → AbsH W φ' h' H' → RepV W φ' h' H' x v → Q x H'
def R1S (r : V → Hp → VK → Prop) (f : Val → M Val) : Prop := ∀ (φ : Ph) (h : Hs) (H : Hp) (x : V) (v z : Val) (h' : Hs) (Q : VK), AbsH W φ h H → RepV W φ h H x v → f v h = .ok z h' → Wnt W φ h H z h' Q → r x H Q
def R2S (r : R2) (f : Val → Val → M Val) : Prop := ∀ (φ : Ph) (h : Hs) (H : Hp) (x y : V) (v w z : Val) (h' : Hs) (Q : VK), AbsH W φ h H → RepV W φ h H x v → RepV W φ h H y w → f v w h = .ok z h' → Wnt W φ h H z h' Q → r x y H Q
def RCS (r : List V → Hp → VK → Prop) (f : List Val → M Val) : Prop := ∀ (φ : Ph) (h : Hs) (H : Hp) (xs : List V) (vs : List Val) (z : Val) (h' : Hs) (Q : VK), AbsH W φ h H → RepVs W φ h H xs vs → f vs h = .ok z h' → Wnt W φ h H z h' Q → r xs H Q
end
theorem PE.imp {X : Cx} {e : Expr} {t t' : TE} (p : PE X e t) (f : ∀ σ H Q, t' σ H Q → t σ H Q) : PE X e t' := ⟨fun pins s σ H Q I h => p.run pins s σ H Q I (f _ _ _ h)⟩
theorem PT.imp {X : Cx} {e : Expr} {t t' : TT} (p : PT X e t) (f : ∀ σ H Q, t' σ H Q → t σ H Q) : PT X e t' := ⟨fun pins s σ H Q I h => p.run pins s σ H Q I (f _ _ _ h)⟩
theorem PA.imp {X : Cx} {e : List Expr} {t t' : TA} (p : PA X e t) (f : ∀ σ H Q, t' σ H Q → t σ H Q) : PA X e t' := ⟨fun pos pins s σ H Q I h => p.run pos pins s σ H Q I (f _ _ _ h)⟩
theorem PS.imp {X : Cx} {e : Stmt} {t t' : TS} (p : PS X e t) (f : ∀ D σ H, t' D σ H → t D σ H) : PS X e t' := ⟨fun pins s σ H Q I h => p.run pins s σ H Q I (f _ _ _ h)⟩
theorem PSs.imp {X : Cx} {e : List Stmt} {t t' : TS} (p : PSs X e t) (f : ∀ D σ H, t' D σ H → t D σ H) : PSs X e t' := ⟨fun pins s σ H Q I h => p.run pins s σ H Q I (f _ _ _ h)⟩
theorem PI.imp {X : Cx} {tg e : Expr} {t t' : TI} (p : PI X tg e t) (f : ∀ σ H Q, t' σ H Q → t σ H Q) : PI X tg e t' := ⟨fun pins s σ H Q I h => p.run pins s σ H Q I (f _ _ _ h)⟩
section
variable {W : Wo} {φ φ' : Ph} {h h' : Hs} {H H' : Hp}
/-- nothing was made -/
theorem Wnt.same {v : Val} {Q : VK} (k : Wnt W φ h H v h Q) (a : AbsH W φ h H) {x : V} (r : RepV W φ h H x v) : Q x H := k x φ H Grow.refl a r
theorem Wnt.int {i : Int} {Q : VK} (k : Wnt W φ h H (.d (.int i)) h Q) (a : AbsH W φ h H) : Q (.int i) H := k.same a (show RepD _ _ _ _ _ from .int i)
theorem Wnt.bl {b : Bool} {Q : VK} (k : Wnt W φ h H (.d (.bool b)) h Q) (a : AbsH W φ h H) : Q (.bl b) H := k.same a (show RepD _ _ _ _ _ from .bl b)
theorem Wnt.str {z : Str} {Q : VK} (k : Wnt W φ h H (.d (.str z)) h Q) (a : AbsH W φ h H) (l : z.length ≤ sizeLine) (o : ascOk z = true) : Q (.str z) H := k.same a (show RepD _ _ _ _ _ from .str z l o)
theorem Wnt.non {Q : VK} (k : Wnt W φ h H (.d .none) h Q) (a : AbsH W φ h H) : Q .non H := k.same a (show RepD _ _ _ _ _ from .non)
/-- a new tuple, list of data -/
theorem Wnt.tup {ds : List PD} {Q : VK} (k : Wnt W φ h H (.d (.tuple ds)) h Q) (a : AbsH W φ h H) {xs : List V} (l : xs.length ≤ sizeLine) (r : RepDs W.K (Al φ h) H xs ds) {p : Addr} (hp : H p = none) : Q (.ref p) (upd H p (.tup xs)) := by
  have g : Grow φ h H φ h (upd H p (.tup xs)) := Grow.fresh a hp
  exact k (.ref p) φ _ g (a.fresh hp) (show RepD _ _ _ _ _ from .tup (.inl ⟨upd_same, a.nal hp⟩) l (RepDs.grow g.keep g.new ds xs r))
theorem Wnt.lst {ds : List PD} {Q : VK} (k : Wnt W φ h H (.d (.list ds)) h Q) (a : AbsH W φ h H) {xs : List V} (l : xs.length ≤ sizeLine) (r : RepDs W.K (Al φ h) H xs ds) {p : Addr} (hp : H p = none) : Q (.ref p) (upd H p (.lst xs)) := by
  have g : Grow φ h H φ h (upd H p (.lst xs)) := Grow.fresh a hp
  exact k (.ref p) φ _ g (a.fresh hp) (show RepD _ _ _ _ _ from .lst ⟨.inl upd_same, a.nal hp⟩ l (RepDs.grow g.keep g.new ds xs r))
/-- lists of values that are data -/
theorem dats_inv : ∀ {vs : List Val} {ds : List PD}, dats vs = some ds → vs = ds.map Val.d
  | [], ds, e => by cases e; rfl
  | .d x :: r, ds, e => by
    simp only [dats, Option.map_eq_some_iff] at e
    obtain ⟨t, e1, rfl⟩ := e
    rw [List.map_cons, dats_inv e1]
  | .r _ :: _, _, e => by cases e
theorem dats_map : ∀ ds : List PD, dats (ds.map Val.d) = some ds
  | [] => rfl
  | d :: ds => by rw [List.map_cons, dats, dats_map ds]; rfl
theorem repVs_d : ∀ {ds : List PD} {xs : List V}, RepVs W φ h H xs (ds.map Val.d) → RepDs W.K (Al φ h) H xs ds
  | [], _, .nil => .nil
  | _ :: _, _, .cons r t => .cons r (repVs_d t)
theorem repDs_v : ∀ {ds : List PD} {xs : List V}, RepDs W.K (Al φ h) H xs ds → RepVs W φ h H xs (ds.map Val.d)
  | _, _, .nil => .nil
  | _, _, .cons r t => .cons r (repDs_v t)
theorem RepVs.length {xs : List V} {vs : List Val} (r : RepVs W φ h H xs vs) : xs.length = vs.length := Paired.length r
/-- the new list of mkL -/
theorem mkL_want {m : Bool} {vs : List Val} {v : Val} {Q : VK} (e : mkL m vs h = .ok v h') (k : Wnt W φ h H v h' Q) (a : AbsH W φ h H) {xs : List V} (l : xs.length ≤ sizeLine) (r : RepVs W φ h H xs vs) {p : Addr} (hp : H p = none) : Q (.ref p) (upd H p (.lst xs)) := by
  have obj : ∀ {h' : Hs} {v : Val}, Res.ok (.r h.length) (h ++ [.lst vs]) = Res.ok v h' → Wnt W φ h H v h' Q → Q (.ref p) (upd H p (.lst xs)) := by
    intro h' v e k
    cases e
    have g : Grow φ h H (φ.push p) (h ++ [AO.lst vs]) (upd H p (.lst xs)) := Grow.alloc a hp
    refine k (.ref p) (φ.push p) _ g (a.alloc hp ⟨xs, upd_same, l, r.grow g⟩) ⟨p, ?_, rfl⟩
    show (φ.l ++ [p])[h.length]? = some p
    rw [← a.len, List.getElem?_append_right (Nat.le_refl _)]
    simp
  cases m with
  | true => exact obj (h' := h') (v := v) e k
  | false =>
    cases hd : dats vs with
    | some ds =>
      rw [dats_inv hd] at r
      simp only [mkL, hd] at e
      cases e
      exact k.lst a l (repVs_d r) hp
    | none =>
      simp only [mkL, hd] at e
      exact obj (h' := h') (v := v) e k
/-- the items that a list or tuple shows -/
inductive SqV (K : PySem.W.Frag) (H : Hp) : V → List V → Prop
  | lst {a : Addr} {xs : List V} : Rd H a (.lst xs) → SqV K H (.ref a) xs
  | tup {a : Addr} {xs : List V} : SqT K H a xs → SqV K H (.ref a) xs
theorem itemsO_inv {o : AO} {xs : List Val} (e : itemsO o h = .ok xs h') : h' = h ∧ o = .lst xs := by
  cases o with
  | lst ys => cases e; exact ⟨rfl, rfl⟩
  | dct => cases e
  | ins => cases e
  | dtt => cases e
  | dead => cases e
theorem seqOf_r {i : Nat} {vs : List Val} (e : seqOf (.r i) h = .ok vs h') : h[i]? = some (.lst vs) ∧ h = h' := by
  obtain ⟨o, h1, e1, e2⟩ := bind_inv (show (getO i >>= fun o => itemsO o) h = .ok vs h' from e)
  obtain ⟨rfl, eo⟩ := getO_inv e1
  obtain ⟨rfl, rfl⟩ := itemsO_inv e2
  exact ⟨eo, rfl⟩
theorem seqOf_inv (a : AbsH W φ h H) {x : V} {v : Val} {vs : List Val} (r : RepV W φ h H x v) (e : seqOf v h = .ok vs h') :
    h' = h ∧ ∃ p xs, x = .ref p ∧ xs.length ≤ sizeLine ∧ RepVs W φ h H xs vs ∧ (((∀ ds, v ≠ .d (.tuple ds)) ∧ Rd H p (.lst xs)) ∨ (∃ ds, v = .d (.tuple ds) ∧ SqT W.K H p xs)) := by
  cases v with
  | d y =>
    have r' : RepD W.K (Al φ h) H x y := r
    cases r' with
    | lst f l r2 =>
      have e' : Res.ok _ h = Res.ok vs h' := e
      cases e'
      exact ⟨rfl, _, _, rfl, l, repDs_v r2, .inl ⟨(fun _ z => nomatch z), f.1⟩⟩
    | tup f l r2 =>
      have e' : Res.ok _ h = Res.ok vs h' := e
      cases e'
      exact ⟨rfl, _, _, rfl, l, repDs_v r2, .inr ⟨_, rfl, f.sq⟩⟩
    | non => exact nomatch (show Res.bad = Res.ok vs h' from e)
    | bl => exact nomatch (show Res.bad = Res.ok vs h' from e)
    | int => exact nomatch (show Res.bad = Res.ok vs h' from e)
    | str => exact nomatch (show Res.bad = Res.ok vs h' from e)
    | dct => exact nomatch (show Res.bad = Res.ok vs h' from e)
  | r i =>
    obtain ⟨p, ep, ex⟩ := r
    obtain ⟨eo, rfl⟩ := seqOf_r e
    obtain ⟨ws, e1, l, r⟩ := a.ob i p _ ep eo
    exact ⟨rfl, p, ws, ex, l, r, .inl ⟨(fun _ z => nomatch z), .inl e1⟩⟩
/-! ### data for the layer's ==  -/
theorem strOk_of {x : Str} (h : ascOk x = true) : PyData.strOk x = true := by
  unfold ascOk at h
  unfold PyData.strOk
  rw [Array.all_eq_true] at *
  intro i hi
  have := h i hi
  simp only [decide_eq_true_eq] at *
  omega
mutual
theorem RepD.can {K : PySem.W.Frag} {A : Addr → Prop} : ∀ (d : PD) (x : V), RepD K A H x d → d.hasDict = false → d.canLay0 = true
  | .none, _, _, _ => by simp [PyData.canLay0]
  | .bool _, _, _, _ => by simp [PyData.canLay0]
  | .int _, _, _, _ => by simp [PyData.canLay0]
  | .str _, _, .str x _ o, _ => by simpa [PyData.canLay0] using strOk_of o
  | .list ds, _, .lst f _ r, c => by
    have := RepDs.can ds _ r (by simpa [PyData.hasDict] using c)
    simpa [PyData.canLay0] using this
  | .tuple ds, _, .tup f _ r, c => by
    have := RepDs.can ds _ r (by simpa [PyData.hasDict] using c)
    simpa [PyData.canLay0] using this
  | .dict _, _, _, c => by simp [PyData.hasDict] at c
theorem RepDs.can {K : PySem.W.Frag} {A : Addr → Prop} : ∀ (ds : List PD) (xs : List V), RepDs K A H xs ds → PyData.hasDictAll ds = false → PyData.canLayAll0 ds = true
  | [], _, .nil, _ => by simp [PyData.canLayAll0]
  | d :: ds, _, .cons r t, c => by
    simp only [PyData.hasDictAll, Bool.or_eq_false_iff] at c
    simp only [PyData.canLayAll0, Bool.and_eq_true]
    exact ⟨RepD.can d _ r c.1, RepDs.can ds _ t c.2⟩
end
mutual
theorem RepD.dp {K : PySem.W.Frag} {A : Addr → Prop} : ∀ (d : PD) (x : V), RepD K A H x d → d.hasDict = false → Dp K H x d
  | .none, _, .non, _ => .non
  | .bool _, _, .bl b, _ => .bl b
  | .int _, _, .int i, _ => .int i
  | .str _, _, .str x _ _, _ => .str x
  | .list ds, _, .lst f _ r, c => .lst f.sq (RepDs.dp ds _ r (by simpa [PyData.hasDict] using c))
  | .tuple ds, _, .tup f _ r, c => .tup f.sq (RepDs.dp ds _ r (by simpa [PyData.hasDict] using c))
  | .dict _, _, _, c => by simp [PyData.hasDict] at c
theorem RepDs.dp {K : PySem.W.Frag} {A : Addr → Prop} : ∀ (ds : List PD) (xs : List V), RepDs K A H xs ds → PyData.hasDictAll ds = false → DpAll K H xs ds
  | [], _, .nil, _ => .nil
  | d :: ds, _, .cons r t, c => by
    simp only [PyData.hasDictAll, Bool.or_eq_false_iff] at c
    exact .cons (RepD.dp d _ r c.1) (RepDs.dp ds _ t c.2)
end
end
end Nv
set_option Elab.async false
set_option linter.all false
set_option maxRecDepth 100000
/-! N4e: a dict compared with what is none (printed by mk4e.py). -/
namespace Nv
open PySem PySem.SeqAt PySem.AutoSeq1 PySem.MeetsSeq PySem.MeetsSeq2 PySem.MeetsSeq3
def IsDc (h : Heap) (d : Addr) : Prop := ∃ o, h.get? d = some o ∧ o.cls = .type "dict" ∧ ∃ es n, o.data = .dict es n
theorem dv_eq_none (d : Addr) (c : Value) (es : Array DictEntry) (n : Nat) (dd : Option Addr) (sl : Array (Option Value)) :
    Meets (Builtin.«NoneType.__eq__» ⟨[.none, .ref d], []⟩) (fun _ R s => s.heap.get? d = some ⟨c, dd, .dict es n, sl⟩ ∧ R (.ok (.ret .notImplemented)) s) :=
  .of_wp fun prog w A R s h => by
    obtain ⟨hp, g, q, tk, os⟩ := s
    obtain ⟨hl, h⟩ := h
    wp_walk using wpAny_loadPart' hl, wpAny_load hl
    exact ⟨_, rfl, h⟩
theorem dv_eq_bool (b : Bool) (d : Addr) (c : Value) (es : Array DictEntry) (n : Nat) (dd : Option Addr) (sl : Array (Option Value)) :
    Meets (Builtin.«int.__eq__» ⟨[.bool b, .ref d], []⟩) (fun _ R s => s.heap.get? d = some ⟨c, dd, .dict es n, sl⟩ ∧ R (.ok (.ret .notImplemented)) s) :=
  .of_wp fun prog w A R s h => by
    obtain ⟨hp, g, q, tk, os⟩ := s
    obtain ⟨hl, h⟩ := h
    wp_walk using wpAny_loadPart' hl, wpAny_load hl
    exact ⟨_, rfl, h⟩
theorem dv_eq_int (b : Int) (u : Tok) (d : Addr) (c : Value) (es : Array DictEntry) (n : Nat) (dd : Option Addr) (sl : Array (Option Value)) :
    Meets (Builtin.«int.__eq__» ⟨[.int b u, .ref d], []⟩) (fun _ R s => s.heap.get? d = some ⟨c, dd, .dict es n, sl⟩ ∧ R (.ok (.ret .notImplemented)) s) :=
  .of_wp fun prog w A R s h => by
    obtain ⟨hp, g, q, tk, os⟩ := s
    obtain ⟨hl, h⟩ := h
    wp_walk using wpAny_loadPart' hl, wpAny_load hl
    exact ⟨_, rfl, h⟩
theorem dv_eq_str (b : Str) (u : Tok) (d : Addr) (c : Value) (es : Array DictEntry) (n : Nat) (dd : Option Addr) (sl : Array (Option Value)) :
    Meets (Builtin.«str.__eq__» ⟨[.str b u, .ref d], []⟩) (fun _ R s => s.heap.get? d = some ⟨c, dd, .dict es n, sl⟩ ∧ R (.ok (.ret .notImplemented)) s) :=
  .of_wp fun prog w A R s h => by
    obtain ⟨hp, g, q, tk, os⟩ := s
    obtain ⟨hl, h⟩ := h
    wp_walk using wpAny_loadPart' hl, wpAny_load hl
    exact ⟨_, rfl, h⟩
theorem dv_eq_list (l : Addr) (xs : Array Value) (m : Nat) (dl : Option Addr) (sl2 : Array (Option Value)) (d : Addr) (es : Array DictEntry) (n : Nat) (dd : Option Addr) (sl : Array (Option Value)) :
    Meets (Builtin.«list.__eq__» ⟨[.ref l, .ref d], []⟩) (fun _ R s => s.heap.get? l = some ⟨.type "list", dl, .seq xs m, sl2⟩ ∧ s.heap.get? d = some ⟨.type "dict", dd, .dict es n, sl⟩ ∧ R (.ok (.ret .notImplemented)) s) :=
  .of_wp fun prog w A R s h => by
    obtain ⟨hp, g, q, tk, os⟩ := s
    obtain ⟨hl, hb, h⟩ := h
    have f1 := F.sub_dict_list
    have f2 := F.sub_list_list
    wp_walk using wpAny_loadPart' hl, wpAny_load hl, wpAny_loadPart' hb, wpAny_load hb
    exact ⟨_, rfl, h⟩
theorem dv_eq_tuple (l : Addr) (xs : Array Value) (m : Nat) (dl : Option Addr) (sl2 : Array (Option Value)) (d : Addr) (es : Array DictEntry) (n : Nat) (dd : Option Addr) (sl : Array (Option Value)) :
    Meets (Builtin.«tuple.__eq__» ⟨[.ref l, .ref d], []⟩) (fun _ R s => s.heap.get? l = some ⟨.type "tuple", dl, .seq xs m, sl2⟩ ∧ s.heap.get? d = some ⟨.type "dict", dd, .dict es n, sl⟩ ∧ R (.ok (.ret .notImplemented)) s) :=
  .of_wp fun prog w A R s h => by
    obtain ⟨hp, g, q, tk, os⟩ := s
    obtain ⟨hl, hb, h⟩ := h
    have f1 := F.sub_dict_tuple
    have f2 := F.sub_tuple_tuple
    wp_walk using wpAny_loadPart' hl, wpAny_load hl, wpAny_loadPart' hb, wpAny_load hb
    exact ⟨_, rfl, h⟩
theorem dw_eq {prog : Program} {w : World} {A : Around} {E : Value → Shared → Prop} {s : Shared} {Q : Value → Shared → Prop} {d : Addr} {v : Value} {T : String} (hT : s.TypeIs (.ref d) "dict") (hv : s.TypeIs v T) (hs : isSubtype (.type T) (.type "dict") = pure false) (hq : Q .notImplemented s) :
    wpAny (model prog w) A (call (.builtin "dict.__eq__") [.ref d, v]) Q E s := by
  refine wpAny_call_entry F.slot_dict_eq hT F.entry_dict_eq ?_ (F.args_dict_eq_2 _ _)
  show wpAny _ _ (Builtin.Dict.dictSlotArgs "__eq__" ⟨[.ref d, v], []⟩ >>= _) _ _ s
  unfold Builtin.Dict.dictSlotArgs
  refine wpAny_bind (wpAny_bind (wpAny_notOrdered_dict hT ?_))
  show wpAny _ _ (pure (Value.ref d, v)) _ _ s
  refine wpAny_pure (wpAny_bind (wpAny_isInstance hv hs ?_))
  rw [if_pos (by rfl)]
  exact wpAny_bind (wpAny_rule (wpAny_bind (wpAny_pure (wpAny_pure ⟨_, rfl, hq⟩))))
theorem dv_ne_none (d : Addr) (c : Value) (es : Array DictEntry) (n : Nat) (dd : Option Addr) (sl : Array (Option Value)) :
    Meets (Builtin.«NoneType.__ne__» ⟨[.none, .ref d], []⟩) (fun _ R s => s.heap.get? d = some ⟨c, dd, .dict es n, sl⟩ ∧ R (.ok (.ret .notImplemented)) s) :=
  .of_wp fun prog w A R s h => by
    obtain ⟨hp, g, q, tk, os⟩ := s
    obtain ⟨hl, h⟩ := h
    wp_walk using wpAny_loadPart' hl, wpAny_load hl
    exact ⟨_, rfl, h⟩
theorem dv_ne_bool (b : Bool) (d : Addr) (c : Value) (es : Array DictEntry) (n : Nat) (dd : Option Addr) (sl : Array (Option Value)) :
    Meets (Builtin.«int.__ne__» ⟨[.bool b, .ref d], []⟩) (fun _ R s => s.heap.get? d = some ⟨c, dd, .dict es n, sl⟩ ∧ R (.ok (.ret .notImplemented)) s) :=
  .of_wp fun prog w A R s h => by
    obtain ⟨hp, g, q, tk, os⟩ := s
    obtain ⟨hl, h⟩ := h
    wp_walk using wpAny_loadPart' hl, wpAny_load hl
    exact ⟨_, rfl, h⟩
theorem dv_ne_int (b : Int) (u : Tok) (d : Addr) (c : Value) (es : Array DictEntry) (n : Nat) (dd : Option Addr) (sl : Array (Option Value)) :
    Meets (Builtin.«int.__ne__» ⟨[.int b u, .ref d], []⟩) (fun _ R s => s.heap.get? d = some ⟨c, dd, .dict es n, sl⟩ ∧ R (.ok (.ret .notImplemented)) s) :=
  .of_wp fun prog w A R s h => by
    obtain ⟨hp, g, q, tk, os⟩ := s
    obtain ⟨hl, h⟩ := h
    wp_walk using wpAny_loadPart' hl, wpAny_load hl
    exact ⟨_, rfl, h⟩
theorem dv_ne_str (b : Str) (u : Tok) (d : Addr) (c : Value) (es : Array DictEntry) (n : Nat) (dd : Option Addr) (sl : Array (Option Value)) :
    Meets (Builtin.«str.__ne__» ⟨[.str b u, .ref d], []⟩) (fun _ R s => s.heap.get? d = some ⟨c, dd, .dict es n, sl⟩ ∧ R (.ok (.ret .notImplemented)) s) :=
  .of_wp fun prog w A R s h => by
    obtain ⟨hp, g, q, tk, os⟩ := s
    obtain ⟨hl, h⟩ := h
    wp_walk using wpAny_loadPart' hl, wpAny_load hl
    exact ⟨_, rfl, h⟩
theorem dv_ne_list (l : Addr) (xs : Array Value) (m : Nat) (dl : Option Addr) (sl2 : Array (Option Value)) (d : Addr) (es : Array DictEntry) (n : Nat) (dd : Option Addr) (sl : Array (Option Value)) :
    Meets (Builtin.«list.__ne__» ⟨[.ref l, .ref d], []⟩) (fun _ R s => s.heap.get? l = some ⟨.type "list", dl, .seq xs m, sl2⟩ ∧ s.heap.get? d = some ⟨.type "dict", dd, .dict es n, sl⟩ ∧ R (.ok (.ret .notImplemented)) s) :=
  .of_wp fun prog w A R s h => by
    obtain ⟨hp, g, q, tk, os⟩ := s
    obtain ⟨hl, hb, h⟩ := h
    have f1 := F.sub_dict_list
    have f2 := F.sub_list_list
    wp_walk using wpAny_loadPart' hl, wpAny_load hl, wpAny_loadPart' hb, wpAny_load hb
    exact ⟨_, rfl, h⟩
theorem dv_ne_tuple (l : Addr) (xs : Array Value) (m : Nat) (dl : Option Addr) (sl2 : Array (Option Value)) (d : Addr) (es : Array DictEntry) (n : Nat) (dd : Option Addr) (sl : Array (Option Value)) :
    Meets (Builtin.«tuple.__ne__» ⟨[.ref l, .ref d], []⟩) (fun _ R s => s.heap.get? l = some ⟨.type "tuple", dl, .seq xs m, sl2⟩ ∧ s.heap.get? d = some ⟨.type "dict", dd, .dict es n, sl⟩ ∧ R (.ok (.ret .notImplemented)) s) :=
  .of_wp fun prog w A R s h => by
    obtain ⟨hp, g, q, tk, os⟩ := s
    obtain ⟨hl, hb, h⟩ := h
    have f1 := F.sub_dict_tuple
    have f2 := F.sub_tuple_tuple
    wp_walk using wpAny_loadPart' hl, wpAny_load hl, wpAny_loadPart' hb, wpAny_load hb
    exact ⟨_, rfl, h⟩
theorem dw_ne {prog : Program} {w : World} {A : Around} {E : Value → Shared → Prop} {s : Shared} {Q : Value → Shared → Prop} {d : Addr} {v : Value} {T : String} (hT : s.TypeIs (.ref d) "dict") (hv : s.TypeIs v T) (hs : isSubtype (.type T) (.type "dict") = pure false) (hq : Q .notImplemented s) :
    wpAny (model prog w) A (call (.builtin "dict.__ne__") [.ref d, v]) Q E s := by
  refine wpAny_call_entry F.slot_dict_ne hT F.entry_dict_ne ?_ (F.args_dict_ne_2 _ _)
  show wpAny _ _ (Builtin.Dict.dictSlotArgs "__ne__" ⟨[.ref d, v], []⟩ >>= _) _ _ s
  unfold Builtin.Dict.dictSlotArgs
  refine wpAny_bind (wpAny_bind (wpAny_notOrdered_dict hT ?_))
  show wpAny _ _ (pure (Value.ref d, v)) _ _ s
  refine wpAny_pure (wpAny_bind (wpAny_isInstance hv hs ?_))
  rw [if_pos (by rfl)]
  exact wpAny_bind (wpAny_rule (wpAny_bind (wpAny_pure (wpAny_pure ⟨_, rfl, hq⟩))))
section
variable {A : Around} {s : Shared}
theorem RcAt.d_none {d : Addr} (hd : IsDc s.heap d) (hu : A.units < cLine) : RcAt A s (.ref d) (.none) false := fun prog w E Q h => by
  obtain ⟨⟨cls, dd, data, sl⟩, ho, hc, es, n, he⟩ := hd
  simp only at hc he
  subst hc he
  refine rc_eq_decline_or (k := false) ⟨_, ho, rfl⟩ rfl (by decide) F.sub_NoneType_dict F.slot_dict_eq F.slot_NoneType_eq_refl (fun _ hq => ?_) (fun _ hq => ?_) (fun _ hq => wpAny_of_eq (rfl : isSame (.ref d) (.none) = pure false) hq) (.inr hu) h
  · exact dw_eq ⟨_, ho, rfl⟩ rfl F.sub_NoneType_dict hq
  · exact call_meets F.slot_NoneType_eq_refl rfl F.entry_NoneType_eq (F.args_NoneType_eq_2 _ _) (dv_eq_none  d _ es n dd sl) ⟨ho, hq⟩
theorem RcAt.none_d {d : Addr} (hd : IsDc s.heap d) (hu : A.units < cLine) : RcAt A s (.none) (.ref d) false := fun prog w E Q h => by
  obtain ⟨⟨cls, dd, data, sl⟩, ho, hc, es, n, he⟩ := hd
  simp only at hc he
  subst hc he
  refine rc_eq_decline_or (k := false) rfl ⟨_, ho, rfl⟩ (by decide) F.sub_dict_NoneType F.slot_NoneType_eq F.slot_dict_eq_refl (fun _ hq => ?_) (fun _ hq => ?_) (fun _ hq => wpAny_of_eq (rfl : isSame (.none) (.ref d) = pure false) hq) (.inr hu) h
  · exact call_meets F.slot_NoneType_eq rfl F.entry_NoneType_eq (F.args_NoneType_eq_2 _ _) (dv_eq_none  d _ es n dd sl) ⟨ho, hq⟩
  · exact dw_eq ⟨_, ho, rfl⟩ rfl F.sub_NoneType_dict hq
theorem RcAt.d_bool {d : Addr} (b : Bool) (hd : IsDc s.heap d) (hu : A.units < cLine) : RcAt A s (.ref d) (.bool b) false := fun prog w E Q h => by
  obtain ⟨⟨cls, dd, data, sl⟩, ho, hc, es, n, he⟩ := hd
  simp only at hc he
  subst hc he
  refine rc_eq_decline_or (k := false) ⟨_, ho, rfl⟩ rfl (by decide) F.sub_bool_dict F.slot_dict_eq F.slot_bool_eq_refl (fun _ hq => ?_) (fun _ hq => ?_) (fun _ hq => wpAny_of_eq (rfl : isSame (.ref d) (.bool b) = pure false) hq) (.inr hu) h
  · exact dw_eq ⟨_, ho, rfl⟩ rfl F.sub_bool_dict hq
  · exact call_meets F.slot_bool_eq_refl rfl F.entry_int_eq (F.args_int_eq_2 _ _) (dv_eq_bool b d _ es n dd sl) ⟨ho, hq⟩
theorem RcAt.bool_d {d : Addr} (b : Bool) (hd : IsDc s.heap d) (hu : A.units < cLine) : RcAt A s (.bool b) (.ref d) false := fun prog w E Q h => by
  obtain ⟨⟨cls, dd, data, sl⟩, ho, hc, es, n, he⟩ := hd
  simp only at hc he
  subst hc he
  refine rc_eq_decline_or (k := false) rfl ⟨_, ho, rfl⟩ (by decide) F.sub_dict_bool F.slot_bool_eq F.slot_dict_eq_refl (fun _ hq => ?_) (fun _ hq => ?_) (fun _ hq => wpAny_of_eq (rfl : isSame (.bool b) (.ref d) = pure false) hq) (.inr hu) h
  · exact call_meets F.slot_bool_eq rfl F.entry_int_eq (F.args_int_eq_2 _ _) (dv_eq_bool b d _ es n dd sl) ⟨ho, hq⟩
  · exact dw_eq ⟨_, ho, rfl⟩ rfl F.sub_bool_dict hq
theorem RcAt.d_int {d : Addr} (b : Int) (u : Tok) (hd : IsDc s.heap d) (hu : A.units < cLine) : RcAt A s (.ref d) (.int b u) false := fun prog w E Q h => by
  obtain ⟨⟨cls, dd, data, sl⟩, ho, hc, es, n, he⟩ := hd
  simp only at hc he
  subst hc he
  refine rc_eq_decline_or (k := false) ⟨_, ho, rfl⟩ (typeIs_int s b u) (by decide) F.sub_int_dict F.slot_dict_eq F.slot_int_eq_refl (fun _ hq => ?_) (fun _ hq => ?_) (fun _ hq => wpAny_of_eq (rfl : isSame (.ref d) (.int b u) = pure false) hq) (.inr hu) h
  · exact dw_eq ⟨_, ho, rfl⟩ (typeIs_int s b u) F.sub_int_dict hq
  · exact call_meets F.slot_int_eq_refl (typeIs_int s b u) F.entry_int_eq (F.args_int_eq_2 _ _) (dv_eq_int b u d _ es n dd sl) ⟨ho, hq⟩
theorem RcAt.int_d {d : Addr} (b : Int) (u : Tok) (hd : IsDc s.heap d) (hu : A.units < cLine) : RcAt A s (.int b u) (.ref d) false := fun prog w E Q h => by
  obtain ⟨⟨cls, dd, data, sl⟩, ho, hc, es, n, he⟩ := hd
  simp only at hc he
  subst hc he
  refine rc_eq_decline_or (k := false) (typeIs_int s b u) ⟨_, ho, rfl⟩ (by decide) F.sub_dict_int F.slot_int_eq F.slot_dict_eq_refl (fun _ hq => ?_) (fun _ hq => ?_) (fun _ hq => wpAny_of_eq (rfl : isSame (.int b u) (.ref d) = pure false) hq) (.inr hu) h
  · exact call_meets F.slot_int_eq (typeIs_int s b u) F.entry_int_eq (F.args_int_eq_2 _ _) (dv_eq_int b u d _ es n dd sl) ⟨ho, hq⟩
  · exact dw_eq ⟨_, ho, rfl⟩ (typeIs_int s b u) F.sub_int_dict hq
theorem RcAt.d_str {d : Addr} (b : Str) (u : Tok) (hd : IsDc s.heap d) (hu : A.units < cLine) : RcAt A s (.ref d) (.str b u) false := fun prog w E Q h => by
  obtain ⟨⟨cls, dd, data, sl⟩, ho, hc, es, n, he⟩ := hd
  simp only at hc he
  subst hc he
  refine rc_eq_decline_or (k := false) ⟨_, ho, rfl⟩ (typeIs_str s b u) (by decide) F.sub_str_dict F.slot_dict_eq F.slot_str_eq_refl (fun _ hq => ?_) (fun _ hq => ?_) (fun _ hq => wpAny_of_eq (rfl : isSame (.ref d) (.str b u) = pure false) hq) (.inr hu) h
  · exact dw_eq ⟨_, ho, rfl⟩ (typeIs_str s b u) F.sub_str_dict hq
  · exact call_meets F.slot_str_eq_refl (typeIs_str s b u) F.entry_str_eq (F.args_str_eq_2 _ _) (dv_eq_str b u d _ es n dd sl) ⟨ho, hq⟩
theorem RcAt.str_d {d : Addr} (b : Str) (u : Tok) (hd : IsDc s.heap d) (hu : A.units < cLine) : RcAt A s (.str b u) (.ref d) false := fun prog w E Q h => by
  obtain ⟨⟨cls, dd, data, sl⟩, ho, hc, es, n, he⟩ := hd
  simp only at hc he
  subst hc he
  refine rc_eq_decline_or (k := false) (typeIs_str s b u) ⟨_, ho, rfl⟩ (by decide) F.sub_dict_str F.slot_str_eq F.slot_dict_eq_refl (fun _ hq => ?_) (fun _ hq => ?_) (fun _ hq => wpAny_of_eq (rfl : isSame (.str b u) (.ref d) = pure false) hq) (.inr hu) h
  · exact call_meets F.slot_str_eq (typeIs_str s b u) F.entry_str_eq (F.args_str_eq_2 _ _) (dv_eq_str b u d _ es n dd sl) ⟨ho, hq⟩
  · exact dw_eq ⟨_, ho, rfl⟩ (typeIs_str s b u) F.sub_str_dict hq
theorem dc_ne_list {d l : Addr} {xs : Array Value} (hd : IsDc s.heap d) (hl : s.heap.IsList l xs) : l ≠ d := fun e => by
  subst e
  obtain ⟨o, ho, hc, _⟩ := hd
  obtain ⟨o2, ho2, hc2, _⟩ := hl
  rw [ho] at ho2
  cases ho2
  rw [hc] at hc2
  exact absurd hc2 (by simp)
theorem RcAt.d_list {d l : Addr} {xs : Array Value} (hd : IsDc s.heap d) (hl : s.heap.IsList l xs) (hu : A.units < cLine) : RcAt A s (.ref d) (.ref l) false := fun prog w E Q h => by
  have hne := dc_ne_list hd hl
  obtain ⟨⟨cls, dd, data, sl⟩, ho, hc, es, n, he⟩ := hd
  obtain ⟨⟨cls2, dl, data2, sl2⟩, ho2, hc2, m, hx⟩ := hl
  simp only at hc he hc2 hx
  subst hc he hc2 hx
  refine rc_eq_decline_or (k := false) ⟨_, ho, rfl⟩ ⟨_, ho2, rfl⟩ (by decide) F.sub_list_dict F.slot_dict_eq F.slot_list_eq_refl (fun _ hq => ?_) (fun _ hq => ?_) (fun _ hq => wpAny_isSame_ref_other hne.symm ho ho2 (by simp) hq) (.inr hu) h
  · exact dw_eq ⟨_, ho, rfl⟩ ⟨_, ho2, rfl⟩ F.sub_list_dict hq
  · exact call_meets F.slot_list_eq_refl ⟨_, ho2, rfl⟩ F.entry_list_eq (F.args_list_eq_2 _ _) (dv_eq_list l xs m dl sl2 d es n dd sl) ⟨ho2, ho, hq⟩
theorem RcAt.list_d {d l : Addr} {xs : Array Value} (hd : IsDc s.heap d) (hl : s.heap.IsList l xs) (hu : A.units < cLine) : RcAt A s (.ref l) (.ref d) false := fun prog w E Q h => by
  have hne := dc_ne_list hd hl
  obtain ⟨⟨cls, dd, data, sl⟩, ho, hc, es, n, he⟩ := hd
  obtain ⟨⟨cls2, dl, data2, sl2⟩, ho2, hc2, m, hx⟩ := hl
  simp only at hc he hc2 hx
  subst hc he hc2 hx
  refine rc_eq_decline_or (k := false) ⟨_, ho2, rfl⟩ ⟨_, ho, rfl⟩ (by decide) F.sub_dict_list F.slot_list_eq F.slot_dict_eq_refl (fun _ hq => ?_) (fun _ hq => ?_) (fun _ hq => wpAny_isSame_ref_other' hne ho2 ho (by simp) hq) (.inr hu) h
  · exact call_meets F.slot_list_eq ⟨_, ho2, rfl⟩ F.entry_list_eq (F.args_list_eq_2 _ _) (dv_eq_list l xs m dl sl2 d es n dd sl) ⟨ho2, ho, hq⟩
  · exact dw_eq ⟨_, ho, rfl⟩ ⟨_, ho2, rfl⟩ F.sub_list_dict hq
theorem dc_ne_tuple {d l : Addr} {xs : Array Value} (hd : IsDc s.heap d) (hl : s.heap.IsTuple l xs) : l ≠ d := fun e => by
  subst e
  obtain ⟨o, ho, hc, _⟩ := hd
  obtain ⟨o2, ho2, hc2, _⟩ := hl
  rw [ho] at ho2
  cases ho2
  rw [hc] at hc2
  exact absurd hc2 (by simp)
theorem RcAt.d_tuple {d l : Addr} {xs : Array Value} (hd : IsDc s.heap d) (hl : s.heap.IsTuple l xs) (hu : A.units < cLine) : RcAt A s (.ref d) (.ref l) false := fun prog w E Q h => by
  have hne := dc_ne_tuple hd hl
  obtain ⟨⟨cls, dd, data, sl⟩, ho, hc, es, n, he⟩ := hd
  obtain ⟨⟨cls2, dl, data2, sl2⟩, ho2, hc2, m, hx⟩ := hl
  simp only at hc he hc2 hx
  subst hc he hc2 hx
  refine rc_eq_decline_or (k := false) ⟨_, ho, rfl⟩ ⟨_, ho2, rfl⟩ (by decide) F.sub_tuple_dict F.slot_dict_eq F.slot_tuple_eq_refl (fun _ hq => ?_) (fun _ hq => ?_) (fun _ hq => wpAny_isSame_ref_other hne.symm ho ho2 (by simp) hq) (.inr hu) h
  · exact dw_eq ⟨_, ho, rfl⟩ ⟨_, ho2, rfl⟩ F.sub_tuple_dict hq
  · exact call_meets F.slot_tuple_eq_refl ⟨_, ho2, rfl⟩ F.entry_tuple_eq (F.args_tuple_eq_2 _ _) (dv_eq_tuple l xs m dl sl2 d es n dd sl) ⟨ho2, ho, hq⟩
theorem RcAt.tuple_d {d l : Addr} {xs : Array Value} (hd : IsDc s.heap d) (hl : s.heap.IsTuple l xs) (hu : A.units < cLine) : RcAt A s (.ref l) (.ref d) false := fun prog w E Q h => by
  have hne := dc_ne_tuple hd hl
  obtain ⟨⟨cls, dd, data, sl⟩, ho, hc, es, n, he⟩ := hd
  obtain ⟨⟨cls2, dl, data2, sl2⟩, ho2, hc2, m, hx⟩ := hl
  simp only at hc he hc2 hx
  subst hc he hc2 hx
  refine rc_eq_decline_or (k := false) ⟨_, ho2, rfl⟩ ⟨_, ho, rfl⟩ (by decide) F.sub_dict_tuple F.slot_tuple_eq F.slot_dict_eq_refl (fun _ hq => ?_) (fun _ hq => ?_) (fun _ hq => wpAny_isSame_ref_other' hne ho2 ho (by simp) hq) (.inr hu) h
  · exact call_meets F.slot_tuple_eq ⟨_, ho2, rfl⟩ F.entry_tuple_eq (F.args_tuple_eq_2 _ _) (dv_eq_tuple l xs m dl sl2 d es n dd sl) ⟨ho2, ho, hq⟩
  · exact dw_eq ⟨_, ho, rfl⟩ ⟨_, ho2, rfl⟩ F.sub_tuple_dict hq
theorem RcNeAt.d_none {d : Addr} (hd : IsDc s.heap d) (hu : A.units < cLine) : RcNeAt A s (.ref d) (.none) true := fun prog w E Q h => by
  obtain ⟨⟨cls, dd, data, sl⟩, ho, hc, es, n, he⟩ := hd
  simp only at hc he
  subst hc he
  refine rc_ne_decline_or (k := false) ⟨_, ho, rfl⟩ rfl (by decide) F.sub_NoneType_dict F.slot_dict_ne F.slot_NoneType_ne_refl (fun _ hq => ?_) (fun _ hq => ?_) (fun _ hq => wpAny_of_eq (rfl : isSame (.ref d) (.none) = pure false) hq) (.inr hu) h
  · exact dw_ne ⟨_, ho, rfl⟩ rfl F.sub_NoneType_dict hq
  · exact call_meets F.slot_NoneType_ne_refl rfl F.entry_NoneType_ne (F.args_NoneType_ne_2 _ _) (dv_ne_none  d _ es n dd sl) ⟨ho, hq⟩
theorem RcNeAt.none_d {d : Addr} (hd : IsDc s.heap d) (hu : A.units < cLine) : RcNeAt A s (.none) (.ref d) true := fun prog w E Q h => by
  obtain ⟨⟨cls, dd, data, sl⟩, ho, hc, es, n, he⟩ := hd
  simp only at hc he
  subst hc he
  refine rc_ne_decline_or (k := false) rfl ⟨_, ho, rfl⟩ (by decide) F.sub_dict_NoneType F.slot_NoneType_ne F.slot_dict_ne_refl (fun _ hq => ?_) (fun _ hq => ?_) (fun _ hq => wpAny_of_eq (rfl : isSame (.none) (.ref d) = pure false) hq) (.inr hu) h
  · exact call_meets F.slot_NoneType_ne rfl F.entry_NoneType_ne (F.args_NoneType_ne_2 _ _) (dv_ne_none  d _ es n dd sl) ⟨ho, hq⟩
  · exact dw_ne ⟨_, ho, rfl⟩ rfl F.sub_NoneType_dict hq
theorem RcNeAt.d_bool {d : Addr} (b : Bool) (hd : IsDc s.heap d) (hu : A.units < cLine) : RcNeAt A s (.ref d) (.bool b) true := fun prog w E Q h => by
  obtain ⟨⟨cls, dd, data, sl⟩, ho, hc, es, n, he⟩ := hd
  simp only at hc he
  subst hc he
  refine rc_ne_decline_or (k := false) ⟨_, ho, rfl⟩ rfl (by decide) F.sub_bool_dict F.slot_dict_ne F.slot_bool_ne_refl (fun _ hq => ?_) (fun _ hq => ?_) (fun _ hq => wpAny_of_eq (rfl : isSame (.ref d) (.bool b) = pure false) hq) (.inr hu) h
  · exact dw_ne ⟨_, ho, rfl⟩ rfl F.sub_bool_dict hq
  · exact call_meets F.slot_bool_ne_refl rfl F.entry_int_ne (F.args_int_ne_2 _ _) (dv_ne_bool b d _ es n dd sl) ⟨ho, hq⟩
theorem RcNeAt.bool_d {d : Addr} (b : Bool) (hd : IsDc s.heap d) (hu : A.units < cLine) : RcNeAt A s (.bool b) (.ref d) true := fun prog w E Q h => by
  obtain ⟨⟨cls, dd, data, sl⟩, ho, hc, es, n, he⟩ := hd
  simp only at hc he
  subst hc he
  refine rc_ne_decline_or (k := false) rfl ⟨_, ho, rfl⟩ (by decide) F.sub_dict_bool F.slot_bool_ne F.slot_dict_ne_refl (fun _ hq => ?_) (fun _ hq => ?_) (fun _ hq => wpAny_of_eq (rfl : isSame (.bool b) (.ref d) = pure false) hq) (.inr hu) h
  · exact call_meets F.slot_bool_ne rfl F.entry_int_ne (F.args_int_ne_2 _ _) (dv_ne_bool b d _ es n dd sl) ⟨ho, hq⟩
  · exact dw_ne ⟨_, ho, rfl⟩ rfl F.sub_bool_dict hq
theorem RcNeAt.d_int {d : Addr} (b : Int) (u : Tok) (hd : IsDc s.heap d) (hu : A.units < cLine) : RcNeAt A s (.ref d) (.int b u) true := fun prog w E Q h => by
  obtain ⟨⟨cls, dd, data, sl⟩, ho, hc, es, n, he⟩ := hd
  simp only at hc he
  subst hc he
  refine rc_ne_decline_or (k := false) ⟨_, ho, rfl⟩ (typeIs_int s b u) (by decide) F.sub_int_dict F.slot_dict_ne F.slot_int_ne_refl (fun _ hq => ?_) (fun _ hq => ?_) (fun _ hq => wpAny_of_eq (rfl : isSame (.ref d) (.int b u) = pure false) hq) (.inr hu) h
  · exact dw_ne ⟨_, ho, rfl⟩ (typeIs_int s b u) F.sub_int_dict hq
  · exact call_meets F.slot_int_ne_refl (typeIs_int s b u) F.entry_int_ne (F.args_int_ne_2 _ _) (dv_ne_int b u d _ es n dd sl) ⟨ho, hq⟩
theorem RcNeAt.int_d {d : Addr} (b : Int) (u : Tok) (hd : IsDc s.heap d) (hu : A.units < cLine) : RcNeAt A s (.int b u) (.ref d) true := fun prog w E Q h => by
  obtain ⟨⟨cls, dd, data, sl⟩, ho, hc, es, n, he⟩ := hd
  simp only at hc he
  subst hc he
  refine rc_ne_decline_or (k := false) (typeIs_int s b u) ⟨_, ho, rfl⟩ (by decide) F.sub_dict_int F.slot_int_ne F.slot_dict_ne_refl (fun _ hq => ?_) (fun _ hq => ?_) (fun _ hq => wpAny_of_eq (rfl : isSame (.int b u) (.ref d) = pure false) hq) (.inr hu) h
  · exact call_meets F.slot_int_ne (typeIs_int s b u) F.entry_int_ne (F.args_int_ne_2 _ _) (dv_ne_int b u d _ es n dd sl) ⟨ho, hq⟩
  · exact dw_ne ⟨_, ho, rfl⟩ (typeIs_int s b u) F.sub_int_dict hq
theorem RcNeAt.d_str {d : Addr} (b : Str) (u : Tok) (hd : IsDc s.heap d) (hu : A.units < cLine) : RcNeAt A s (.ref d) (.str b u) true := fun prog w E Q h => by
  obtain ⟨⟨cls, dd, data, sl⟩, ho, hc, es, n, he⟩ := hd
  simp only at hc he
  subst hc he
  refine rc_ne_decline_or (k := false) ⟨_, ho, rfl⟩ (typeIs_str s b u) (by decide) F.sub_str_dict F.slot_dict_ne F.slot_str_ne_refl (fun _ hq => ?_) (fun _ hq => ?_) (fun _ hq => wpAny_of_eq (rfl : isSame (.ref d) (.str b u) = pure false) hq) (.inr hu) h
  · exact dw_ne ⟨_, ho, rfl⟩ (typeIs_str s b u) F.sub_str_dict hq
  · exact call_meets F.slot_str_ne_refl (typeIs_str s b u) F.entry_str_ne (F.args_str_ne_2 _ _) (dv_ne_str b u d _ es n dd sl) ⟨ho, hq⟩
theorem RcNeAt.str_d {d : Addr} (b : Str) (u : Tok) (hd : IsDc s.heap d) (hu : A.units < cLine) : RcNeAt A s (.str b u) (.ref d) true := fun prog w E Q h => by
  obtain ⟨⟨cls, dd, data, sl⟩, ho, hc, es, n, he⟩ := hd
  simp only at hc he
  subst hc he
  refine rc_ne_decline_or (k := false) (typeIs_str s b u) ⟨_, ho, rfl⟩ (by decide) F.sub_dict_str F.slot_str_ne F.slot_dict_ne_refl (fun _ hq => ?_) (fun _ hq => ?_) (fun _ hq => wpAny_of_eq (rfl : isSame (.str b u) (.ref d) = pure false) hq) (.inr hu) h
  · exact call_meets F.slot_str_ne (typeIs_str s b u) F.entry_str_ne (F.args_str_ne_2 _ _) (dv_ne_str b u d _ es n dd sl) ⟨ho, hq⟩
  · exact dw_ne ⟨_, ho, rfl⟩ (typeIs_str s b u) F.sub_str_dict hq
theorem RcNeAt.d_list {d l : Addr} {xs : Array Value} (hd : IsDc s.heap d) (hl : s.heap.IsList l xs) (hu : A.units < cLine) : RcNeAt A s (.ref d) (.ref l) true := fun prog w E Q h => by
  have hne := dc_ne_list hd hl
  obtain ⟨⟨cls, dd, data, sl⟩, ho, hc, es, n, he⟩ := hd
  obtain ⟨⟨cls2, dl, data2, sl2⟩, ho2, hc2, m, hx⟩ := hl
  simp only at hc he hc2 hx
  subst hc he hc2 hx
  refine rc_ne_decline_or (k := false) ⟨_, ho, rfl⟩ ⟨_, ho2, rfl⟩ (by decide) F.sub_list_dict F.slot_dict_ne F.slot_list_ne_refl (fun _ hq => ?_) (fun _ hq => ?_) (fun _ hq => wpAny_isSame_ref_other hne.symm ho ho2 (by simp) hq) (.inr hu) h
  · exact dw_ne ⟨_, ho, rfl⟩ ⟨_, ho2, rfl⟩ F.sub_list_dict hq
  · exact call_meets F.slot_list_ne_refl ⟨_, ho2, rfl⟩ F.entry_list_ne (F.args_list_ne_2 _ _) (dv_ne_list l xs m dl sl2 d es n dd sl) ⟨ho2, ho, hq⟩
theorem RcNeAt.list_d {d l : Addr} {xs : Array Value} (hd : IsDc s.heap d) (hl : s.heap.IsList l xs) (hu : A.units < cLine) : RcNeAt A s (.ref l) (.ref d) true := fun prog w E Q h => by
  have hne := dc_ne_list hd hl
  obtain ⟨⟨cls, dd, data, sl⟩, ho, hc, es, n, he⟩ := hd
  obtain ⟨⟨cls2, dl, data2, sl2⟩, ho2, hc2, m, hx⟩ := hl
  simp only at hc he hc2 hx
  subst hc he hc2 hx
  refine rc_ne_decline_or (k := false) ⟨_, ho2, rfl⟩ ⟨_, ho, rfl⟩ (by decide) F.sub_dict_list F.slot_list_ne F.slot_dict_ne_refl (fun _ hq => ?_) (fun _ hq => ?_) (fun _ hq => wpAny_isSame_ref_other' hne ho2 ho (by simp) hq) (.inr hu) h
  · exact call_meets F.slot_list_ne ⟨_, ho2, rfl⟩ F.entry_list_ne (F.args_list_ne_2 _ _) (dv_ne_list l xs m dl sl2 d es n dd sl) ⟨ho2, ho, hq⟩
  · exact dw_ne ⟨_, ho, rfl⟩ ⟨_, ho2, rfl⟩ F.sub_list_dict hq
theorem RcNeAt.d_tuple {d l : Addr} {xs : Array Value} (hd : IsDc s.heap d) (hl : s.heap.IsTuple l xs) (hu : A.units < cLine) : RcNeAt A s (.ref d) (.ref l) true := fun prog w E Q h => by
  have hne := dc_ne_tuple hd hl
  obtain ⟨⟨cls, dd, data, sl⟩, ho, hc, es, n, he⟩ := hd
  obtain ⟨⟨cls2, dl, data2, sl2⟩, ho2, hc2, m, hx⟩ := hl
  simp only at hc he hc2 hx
  subst hc he hc2 hx
  refine rc_ne_decline_or (k := false) ⟨_, ho, rfl⟩ ⟨_, ho2, rfl⟩ (by decide) F.sub_tuple_dict F.slot_dict_ne F.slot_tuple_ne_refl (fun _ hq => ?_) (fun _ hq => ?_) (fun _ hq => wpAny_isSame_ref_other hne.symm ho ho2 (by simp) hq) (.inr hu) h
  · exact dw_ne ⟨_, ho, rfl⟩ ⟨_, ho2, rfl⟩ F.sub_tuple_dict hq
  · exact call_meets F.slot_tuple_ne_refl ⟨_, ho2, rfl⟩ F.entry_tuple_ne (F.args_tuple_ne_2 _ _) (dv_ne_tuple l xs m dl sl2 d es n dd sl) ⟨ho2, ho, hq⟩
theorem RcNeAt.tuple_d {d l : Addr} {xs : Array Value} (hd : IsDc s.heap d) (hl : s.heap.IsTuple l xs) (hu : A.units < cLine) : RcNeAt A s (.ref l) (.ref d) true := fun prog w E Q h => by
  have hne := dc_ne_tuple hd hl
  obtain ⟨⟨cls, dd, data, sl⟩, ho, hc, es, n, he⟩ := hd
  obtain ⟨⟨cls2, dl, data2, sl2⟩, ho2, hc2, m, hx⟩ := hl
  simp only at hc he hc2 hx
  subst hc he hc2 hx
  refine rc_ne_decline_or (k := false) ⟨_, ho2, rfl⟩ ⟨_, ho, rfl⟩ (by decide) F.sub_dict_tuple F.slot_tuple_ne F.slot_dict_ne_refl (fun _ hq => ?_) (fun _ hq => ?_) (fun _ hq => wpAny_isSame_ref_other' hne ho2 ho (by simp) hq) (.inr hu) h
  · exact call_meets F.slot_tuple_ne ⟨_, ho2, rfl⟩ F.entry_tuple_ne (F.args_tuple_ne_2 _ _) (dv_ne_tuple l xs m dl sl2 d es n dd sl) ⟨ho2, ho, hq⟩
  · exact dw_ne ⟨_, ho, rfl⟩ ⟨_, ho2, rfl⟩ F.sub_tuple_dict hq
theorem EqAt.d_none {d : Addr} (hd : IsDc s.heap d) (hu : A.units < cLine) : EqAt A s (.ref d) (.none) false := fun prog w E Q h => by
  unfold eqBool
  refine wpAny_holding (wpAny_ite_split (fun q => absurd (eq_of_beq q) nofun) fun _ => wpAny_bind (RcAt.d_none  hd hu prog w E _ (wpAny_truthy_bool h)))
theorem EqAt.none_d {d : Addr} (hd : IsDc s.heap d) (hu : A.units < cLine) : EqAt A s (.none) (.ref d) false := fun prog w E Q h => by
  unfold eqBool
  refine wpAny_holding (wpAny_ite_split (fun q => absurd (eq_of_beq q) nofun) fun _ => wpAny_bind (RcAt.none_d  hd hu prog w E _ (wpAny_truthy_bool h)))
theorem EqAt.d_bool {d : Addr} (b : Bool) (hd : IsDc s.heap d) (hu : A.units < cLine) : EqAt A s (.ref d) (.bool b) false := fun prog w E Q h => by
  unfold eqBool
  refine wpAny_holding (wpAny_ite_split (fun q => absurd (eq_of_beq q) nofun) fun _ => wpAny_bind (RcAt.d_bool b hd hu prog w E _ (wpAny_truthy_bool h)))
theorem EqAt.bool_d {d : Addr} (b : Bool) (hd : IsDc s.heap d) (hu : A.units < cLine) : EqAt A s (.bool b) (.ref d) false := fun prog w E Q h => by
  unfold eqBool
  refine wpAny_holding (wpAny_ite_split (fun q => absurd (eq_of_beq q) nofun) fun _ => wpAny_bind (RcAt.bool_d b hd hu prog w E _ (wpAny_truthy_bool h)))
theorem EqAt.d_int {d : Addr} (b : Int) (u : Tok) (hd : IsDc s.heap d) (hu : A.units < cLine) : EqAt A s (.ref d) (.int b u) false := fun prog w E Q h => by
  unfold eqBool
  refine wpAny_holding (wpAny_ite_split (fun q => absurd (eq_of_beq q) nofun) fun _ => wpAny_bind (RcAt.d_int b u hd hu prog w E _ (wpAny_truthy_bool h)))
theorem EqAt.int_d {d : Addr} (b : Int) (u : Tok) (hd : IsDc s.heap d) (hu : A.units < cLine) : EqAt A s (.int b u) (.ref d) false := fun prog w E Q h => by
  unfold eqBool
  refine wpAny_holding (wpAny_ite_split (fun q => absurd (eq_of_beq q) nofun) fun _ => wpAny_bind (RcAt.int_d b u hd hu prog w E _ (wpAny_truthy_bool h)))
theorem EqAt.d_str {d : Addr} (b : Str) (u : Tok) (hd : IsDc s.heap d) (hu : A.units < cLine) : EqAt A s (.ref d) (.str b u) false := fun prog w E Q h => by
  unfold eqBool
  refine wpAny_holding (wpAny_ite_split (fun q => absurd (eq_of_beq q) nofun) fun _ => wpAny_bind (RcAt.d_str b u hd hu prog w E _ (wpAny_truthy_bool h)))
theorem EqAt.str_d {d : Addr} (b : Str) (u : Tok) (hd : IsDc s.heap d) (hu : A.units < cLine) : EqAt A s (.str b u) (.ref d) false := fun prog w E Q h => by
  unfold eqBool
  refine wpAny_holding (wpAny_ite_split (fun q => absurd (eq_of_beq q) nofun) fun _ => wpAny_bind (RcAt.str_d b u hd hu prog w E _ (wpAny_truthy_bool h)))
theorem EqAt.d_list {d l : Addr} {xs : Array Value} (hd : IsDc s.heap d) (hl : s.heap.IsList l xs) (hu : A.units < cLine) : EqAt A s (.ref d) (.ref l) false := .of_refs (dc_ne_list hd hl).symm (RcAt.d_list hd hl hu)
theorem EqAt.list_d {d l : Addr} {xs : Array Value} (hd : IsDc s.heap d) (hl : s.heap.IsList l xs) (hu : A.units < cLine) : EqAt A s (.ref l) (.ref d) false := .of_refs (dc_ne_list hd hl) (RcAt.list_d hd hl hu)
theorem EqAt.d_tuple {d l : Addr} {xs : Array Value} (hd : IsDc s.heap d) (hl : s.heap.IsTuple l xs) (hu : A.units < cLine) : EqAt A s (.ref d) (.ref l) false := .of_refs (dc_ne_tuple hd hl).symm (RcAt.d_tuple hd hl hu)
theorem EqAt.tuple_d {d l : Addr} {xs : Array Value} (hd : IsDc s.heap d) (hl : s.heap.IsTuple l xs) (hu : A.units < cLine) : EqAt A s (.ref l) (.ref d) false := .of_refs (dc_ne_tuple hd hl) (RcAt.tuple_d hd hl hu)
end
end Nv
set_option Elab.async false
set_option linter.all false
set_option maxRecDepth 100000
set_option maxHeartbeats 0
/-! N4f: == of data with dicts in them, where no dict meets a dict. -/
namespace Nv
open PySem L2 PyProof.Rows
mutual
/-- what a value shows of data, dicts by their kind alone -/
inductive Dq (K : PySem.W.Frag) (H : Hp) : V → PD → Prop
  | non : Dq K H .non .none
  | bl (b : Bool) : Dq K H (.bl b) (.bool b)
  | int (i : Int) : Dq K H (.int i) (.int i)
  | str (x : Str) : Dq K H (.str x) (.str x)
  | lst {a : Addr} {xs : List V} {ds : List PD} : SqL K H a xs → Dqs K H xs ds → Dq K H (.ref a) (.list ds)
  | tup {a : Addr} {xs : List V} {ds : List PD} : SqT K H a xs → Dqs K H xs ds → Dq K H (.ref a) (.tuple ds)
  | dct {a : Addr} {kvs : List (Key × V)} {ds : List (PD × PD)} : Rd H a (.dK kvs) → Dq K H (.ref a) (.dict ds)
inductive Dqs (K : PySem.W.Frag) (H : Hp) : List V → List PD → Prop
  | nil : Dqs K H [] []
  | cons {x : V} {xs : List V} {d : PD} {ds : List PD} : Dq K H x d → Dqs K H xs ds → Dqs K H (x :: xs) (d :: ds)
end
section
variable {X : Cx} {pins : List (Addr × Obj)} {σ : L2.St} {H : Hp} {s : Shared} {K : PySem.W.Frag} {A : Addr → Prop}
mutual
theorem RepD.dq : ∀ (d : PD) (x : V), RepD K A H x d → Dq K H x d
  | .none, _, .non => .non
  | .bool _, _, .bl b => .bl b
  | .int _, _, .int i => .int i
  | .str _, _, .str x _ _ => .str x
  | .list ds, _, .lst f _ r => .lst (.inl f.1) (RepDs.dq ds _ r)
  | .tuple ds, _, .tup f _ r => .tup f.sq (RepDs.dq ds _ r)
  | .dict _, _, .dct f _ _ => .dct f.1
theorem RepDs.dq : ∀ (ds : List PD) (xs : List V), RepDs K A H xs ds → Dqs K H xs ds
  | [], _, .nil => .nil
  | d :: ds, _, .cons r t => .cons (RepD.dq d _ r) (RepDs.dq ds _ t)
end
theorem Dqs.length : ∀ {xs : List V} {ds : List PD}, Dqs K H xs ds → xs.length = ds.length
  | _, _, .nil => rfl
  | _, _, .cons _ t => congrArg (· + 1) t.length
mutual
theorem eqD_nd : ∀ d : PD, eqD d d = true → d.hasDict = false
  | .none, _ => rfl
  | .bool _, _ => rfl
  | .int _, _ => rfl
  | .str _, _ => rfl
  | .list xs, h => by
    have := eqDs_nd xs (by simpa [eqD] using h)
    simpa [PyData.hasDict] using this
  | .tuple xs, h => by
    have := eqDs_nd xs (by simpa [eqD] using h)
    simpa [PyData.hasDict] using this
  | .dict _, h => by simp [eqD] at h
theorem eqDs_nd : ∀ ds : List PD, eqDs ds ds = true → PyData.hasDictAll ds = false
  | [], _ => rfl
  | d :: ds, h => by
    have h' : eqD d d = true ∧ eqDs ds ds = true := by simpa [eqDs] using h
    simp only [PyData.hasDictAll, eqD_nd d h'.1, eqDs_nd ds h'.2]
    rfl
end
mutual
/-- one value shows one thing -/
theorem Dq.uniq (I : Inv X pins σ H s) : ∀ (d e : PD) (x : V), Dq X.K H x d → Dq X.K H x e → eqD d e = true → d = e
  | .none, e, _, .non, h, _ => by cases h; rfl
  | .bool _, e, _, .bl b, h, _ => by cases h; rfl
  | .int _, e, _, .int i, h, _ => by cases h; rfl
  | .str _, e, _, .str x, h, _ => by cases h; rfl
  | .list ds, e, _, .lst (a := a) q r, h, c => by
    cases h with
    | lst q2 r2 =>
      have := I.list_inj q q2
      subst this
      rw [Dqs.uniq I _ _ _ r r2 (by simpa [eqD] using c)]
    | tup q2 r2 =>
      obtain ⟨i1, _, ⟨o, n, e1, c1, _⟩, _⟩ := I.list q
      obtain ⟨i2, _, ⟨o2, e2, c2, _⟩, _⟩ := I.tuple q2
      rw [e1] at e2
      cases e2
      rw [c1] at c2
      exact absurd c2 (by simp)
    | dct q2 =>
      obtain ⟨i1, _, ⟨o, n, e1, c1, _⟩, _⟩ := I.list q
      obtain ⟨_, _, vs, _, o2, es, ep, e2, c2, _⟩ := dk_rd I.hok q2
      rw [e1] at e2
      cases e2
      have c3 := c2.1
      rw [c1] at c3
      exact absurd c3 (by simp)
  | .tuple ds, e, _, .tup (a := a) q r, h, c => by
    cases h with
    | tup q2 r2 =>
      have := I.tuple_inj q q2
      subst this
      rw [Dqs.uniq I _ _ _ r r2 (by simpa [eqD] using c)]
    | lst q2 r2 =>
      obtain ⟨i1, _, ⟨o, n, e1, c1, _⟩, _⟩ := I.list q2
      obtain ⟨i2, _, ⟨o2, e2, c2, _⟩, _⟩ := I.tuple q
      rw [e1] at e2
      cases e2
      rw [c1] at c2
      exact absurd c2 (by simp)
    | dct q2 =>
      obtain ⟨i1, _, ⟨o, e1, c1, _⟩, _⟩ := I.tuple q
      obtain ⟨_, _, vs, _, o2, es, ep, e2, c2, _⟩ := dk_rd I.hok q2
      rw [e1] at e2
      cases e2
      have c3 := c2.1
      rw [c1] at c3
      exact absurd c3 (by simp)
  | .dict _, e, _, .dct q, h, c => by
    cases h with
    | lst q2 r2 =>
      obtain ⟨i1, _, ⟨o, n, e1, c1, _⟩, _⟩ := I.list q2
      obtain ⟨_, _, vs, _, o2, es, ep, e2, c2, _⟩ := dk_rd I.hok q
      rw [e1] at e2
      cases e2
      have c3 := c2.1
      rw [c1] at c3
      exact absurd c3 (by simp)
    | tup q2 r2 =>
      obtain ⟨i1, _, ⟨o, e1, c1, _⟩, _⟩ := I.tuple q2
      obtain ⟨_, _, vs, _, o2, es, ep, e2, c2, _⟩ := dk_rd I.hok q
      rw [e1] at e2
      cases e2
      have c3 := c2.1
      rw [c1] at c3
      exact absurd c3 (by simp)
    | dct => simp [eqD] at c
theorem Dqs.uniq (I : Inv X pins σ H s) : ∀ (ds es : List PD) (xs : List V), Dqs X.K H xs ds → Dqs X.K H xs es → eqDs ds es = true → ds = es
  | [], _, _, .nil, h, _ => by cases h; rfl
  | d :: ds, _, _, .cons r t, h, c => by
    cases h with
    | @cons _ _ e es r2 t2 =>
      have c' : eqD d e = true ∧ eqDs ds es = true := by simpa [eqDs] using c
      rw [Dq.uniq I _ _ _ r r2 c'.1, Dqs.uniq I _ _ _ t t2 c'.2]
end
/-- how a value stands -/
inductive Kv (s : Shared) : Value → PD → Prop
  | non : Kv s .none .none
  | bl (b : Bool) : Kv s (.bool b) (.bool b)
  | int (i : Int) (t : Tok) : Kv s (.int i t) (.int i)
  | str (x : Str) (t : Tok) : Kv s (.str x t) (.str x)
  | lst {l : Addr} {its : Array Value} {ds : List PD} (h : s.heap.IsList l its) : Kv s (.ref l) (.list ds)
  | tup {l : Addr} {its : Array Value} {ds : List PD} (h : s.heap.IsTuple l its) : Kv s (.ref l) (.tuple ds)
  | dct {l : Addr} {ds : List (PD × PD)} (h : IsDc s.heap l) : Kv s (.ref l) (.dict ds)
theorem Dq.kv (I : Inv X pins σ H s) {d : PD} {x : V} {u : Value} (h : Dq X.K H x d) (r : RelV x u) : Kv s u d := by
  cases h with
  | non => cases r; exact .non
  | bl b => cases r; exact .bl b
  | int i => obtain ⟨t, rfl⟩ := r; exact .int i t
  | str x => obtain ⟨t, rfl⟩ := r; exact .str x t
  | lst q _ =>
    cases r
    obtain ⟨its, _, p, _⟩ := I.list q
    exact .lst p.isList
  | tup q _ =>
    cases r
    obtain ⟨its, _, p, _⟩ := I.tuple q
    exact .tup (show s.heap.IsTuple _ its.toArray from p)
  | dct q =>
    cases r
    obtain ⟨_, _, vs, _, o, es, ep, e, c, dt, _⟩ := dk_rd I.hok q
    exact .dct ⟨o, e, c.1, es, ep, dt⟩
mutual
theorem eqv_same : ∀ d : PD, d.hasDict = false → PyData.eqv d d = true
  | .none, _ => rfl
  | .bool b, _ => by simp [PyData.eqv]
  | .int i, _ => by simp [PyData.eqv]
  | .str x, _ => by simp [PyData.eqv]
  | .list xs, h => by
    show PyData.eqvAll xs xs = true
    exact eqvs_same xs (by simpa [PyData.hasDict] using h)
  | .tuple xs, h => by
    show PyData.eqvAll xs xs = true
    exact eqvs_same xs (by simpa [PyData.hasDict] using h)
  | .dict _, h => by simp [PyData.hasDict] at h
theorem eqvs_same : ∀ xs : List PD, PyData.hasDictAll xs = false → PyData.eqvAll xs xs = true
  | [], _ => rfl
  | x :: xs, h => by
    simp only [PyData.hasDictAll, Bool.or_eq_false_iff] at h
    show (PyData.eqv x x && PyData.eqvAll xs xs) = true
    rw [eqv_same x h.1, eqvs_same xs h.2]
    rfl
end
open PySem.SeqAt in
theorem eq_flat {d e : PD} {u v : Value} {B : Around} (k1 : Kv s u d) (k2 : Kv s v e) (hu : B.units < cLine) (n1 : ∀ xs ys, d = .list xs → e ≠ .list ys) (n2 : ∀ xs ys, d = .tuple xs → e ≠ .tuple ys) (n3 : ∀ xs ys, d = .dict xs → e ≠ .dict ys) : EqAt B s u v (PyData.eqv d e) := by
  cases k1 <;> cases k2 <;> simp only [PyData.eqv] <;> first
    | with_reducible exact EqAt.same _
    | with_reducible exact EqAt.bool_bool _ _ | with_reducible exact EqAt.int_int _ _ _ _ | with_reducible exact EqAt.str_str _ _ _ _ | with_reducible exact EqAt.bool_int _ _ _ | with_reducible exact EqAt.int_bool _ _ _
    | with_reducible exact EqAt.none_bool _ | with_reducible exact EqAt.none_int _ _ | with_reducible exact EqAt.none_str _ _ | with_reducible exact EqAt.bool_none _ | with_reducible exact EqAt.bool_str _ _ _ | with_reducible exact EqAt.int_none _ _ | with_reducible exact EqAt.int_str _ _ _ _ | with_reducible exact EqAt.str_none _ _ | with_reducible exact EqAt.str_bool _ _ _ | with_reducible exact EqAt.str_int _ _ _ _
    | with_reducible exact EqAt.list_none ‹_› hu | with_reducible exact EqAt.none_list ‹_› hu | with_reducible exact EqAt.list_bool _ ‹_› hu | with_reducible exact EqAt.bool_list _ ‹_› hu | with_reducible exact EqAt.list_int _ _ ‹_› hu | with_reducible exact EqAt.int_list _ _ ‹_› hu | with_reducible exact EqAt.list_str _ _ ‹_› hu | with_reducible exact EqAt.str_list _ _ ‹_› hu
    | with_reducible exact EqAt.tuple_none ‹_› hu | with_reducible exact EqAt.none_tuple ‹_› hu | with_reducible exact EqAt.tuple_bool _ ‹_› hu | with_reducible exact EqAt.bool_tuple _ ‹_› hu | with_reducible exact EqAt.tuple_int _ _ ‹_› hu | with_reducible exact EqAt.int_tuple _ _ ‹_› hu | with_reducible exact EqAt.tuple_str _ _ ‹_› hu | with_reducible exact EqAt.str_tuple _ _ ‹_› hu
    | with_reducible exact EqAt.list_tuple ‹_› ‹_› hu | with_reducible exact EqAt.tuple_list ‹_› ‹_› hu
    | with_reducible exact EqAt.d_none ‹_› hu | with_reducible exact EqAt.none_d ‹_› hu | with_reducible exact EqAt.d_bool _ ‹_› hu | with_reducible exact EqAt.bool_d _ ‹_› hu | with_reducible exact EqAt.d_int _ _ ‹_› hu | with_reducible exact EqAt.int_d _ _ ‹_› hu | with_reducible exact EqAt.d_str _ _ ‹_› hu | with_reducible exact EqAt.str_d _ _ ‹_› hu
    | with_reducible exact EqAt.d_list ‹_› ‹_› hu | with_reducible exact EqAt.list_d ‹_› ‹_› hu | with_reducible exact EqAt.d_tuple ‹_› ‹_› hu | with_reducible exact EqAt.tuple_d ‹_› ‹_› hu
    | with_reducible exact absurd rfl (n1 _ _ rfl) | with_reducible exact absurd rfl (n2 _ _ rfl) | with_reducible exact absurd rfl (n3 _ _ rfl)
open PySem.SeqAt in
theorem rc_flat {d e : PD} {u v : Value} {B : Around} (k1 : Kv s u d) (k2 : Kv s v e) (hu : B.units < cLine) (n1 : ∀ xs ys, d = .list xs → e ≠ .list ys) (n2 : ∀ xs ys, d = .tuple xs → e ≠ .tuple ys) (n3 : ∀ xs ys, d = .dict xs → e ≠ .dict ys) : RcAt B s u v (PyData.eqv d e) := by
  cases k1 <;> cases k2 <;> simp only [PyData.eqv] <;> first
    | with_reducible exact RcAt.none_none
    | with_reducible exact RcAt.bool_bool _ _ | with_reducible exact RcAt.int_int _ _ _ _ | with_reducible exact RcAt.str_str _ _ _ _ | with_reducible exact RcAt.bool_int _ _ _ | with_reducible exact RcAt.int_bool _ _ _
    | with_reducible exact RcAt.none_bool _ | with_reducible exact RcAt.none_int _ _ | with_reducible exact RcAt.none_str _ _ | with_reducible exact RcAt.bool_none _ | with_reducible exact RcAt.bool_str _ _ _ | with_reducible exact RcAt.int_none _ _ | with_reducible exact RcAt.int_str _ _ _ _ | with_reducible exact RcAt.str_none _ _ | with_reducible exact RcAt.str_bool _ _ _ | with_reducible exact RcAt.str_int _ _ _ _
    | with_reducible exact RcAt.list_none ‹_› hu | with_reducible exact RcAt.none_list ‹_› hu | with_reducible exact RcAt.list_bool _ ‹_› hu | with_reducible exact RcAt.bool_list _ ‹_› hu | with_reducible exact RcAt.list_int _ _ ‹_› hu | with_reducible exact RcAt.int_list _ _ ‹_› hu | with_reducible exact RcAt.list_str _ _ ‹_› hu | with_reducible exact RcAt.str_list _ _ ‹_› hu
    | with_reducible exact RcAt.tuple_none ‹_› hu | with_reducible exact RcAt.none_tuple ‹_› hu | with_reducible exact RcAt.tuple_bool _ ‹_› hu | with_reducible exact RcAt.bool_tuple _ ‹_› hu | with_reducible exact RcAt.tuple_int _ _ ‹_› hu | with_reducible exact RcAt.int_tuple _ _ ‹_› hu | with_reducible exact RcAt.tuple_str _ _ ‹_› hu | with_reducible exact RcAt.str_tuple _ _ ‹_› hu
    | with_reducible exact RcAt.list_tuple ‹_› ‹_› hu | with_reducible exact RcAt.tuple_list ‹_› ‹_› hu
    | with_reducible exact RcAt.d_none ‹_› hu | with_reducible exact RcAt.none_d ‹_› hu | with_reducible exact RcAt.d_bool _ ‹_› hu | with_reducible exact RcAt.bool_d _ ‹_› hu | with_reducible exact RcAt.d_int _ _ ‹_› hu | with_reducible exact RcAt.int_d _ _ ‹_› hu | with_reducible exact RcAt.d_str _ _ ‹_› hu | with_reducible exact RcAt.str_d _ _ ‹_› hu
    | with_reducible exact RcAt.d_list ‹_› ‹_› hu | with_reducible exact RcAt.list_d ‹_› ‹_› hu | with_reducible exact RcAt.d_tuple ‹_› ‹_› hu | with_reducible exact RcAt.tuple_d ‹_› ‹_› hu
    | with_reducible exact absurd rfl (n1 _ _ rfl) | with_reducible exact absurd rfl (n2 _ _ rfl) | with_reducible exact absurd rfl (n3 _ _ rfl)
open PySem.SeqAt in
theorem ne_flat {d e : PD} {u v : Value} {B : Around} (k1 : Kv s u d) (k2 : Kv s v e) (hu : B.units < cLine) (n1 : ∀ xs ys, d = .list xs → e ≠ .list ys) (n2 : ∀ xs ys, d = .tuple xs → e ≠ .tuple ys) (n3 : ∀ xs ys, d = .dict xs → e ≠ .dict ys) : RcNeAt B s u v (!PyData.eqv d e) := by
  cases k1 <;> cases k2 <;> simp only [PyData.eqv, Bool.not_false, Bool.not_true] <;> first
    | with_reducible exact RcNeAt.none_none
    | with_reducible exact RcNeAt.bool_bool _ _ | with_reducible exact RcNeAt.int_int _ _ _ _ | with_reducible exact RcNeAt.str_str _ _ _ _ | with_reducible exact RcNeAt.bool_int _ _ _ | with_reducible exact RcNeAt.int_bool _ _ _
    | with_reducible exact RcNeAt.none_bool _ | with_reducible exact RcNeAt.none_int _ _ | with_reducible exact RcNeAt.none_str _ _ | with_reducible exact RcNeAt.bool_none _ | with_reducible exact RcNeAt.bool_str _ _ _ | with_reducible exact RcNeAt.int_none _ _ | with_reducible exact RcNeAt.int_str _ _ _ _ | with_reducible exact RcNeAt.str_none _ _ | with_reducible exact RcNeAt.str_bool _ _ _ | with_reducible exact RcNeAt.str_int _ _ _ _
    | with_reducible exact RcNeAt.list_none ‹_› hu | with_reducible exact RcNeAt.none_list ‹_› hu | with_reducible exact RcNeAt.list_bool _ ‹_› hu | with_reducible exact RcNeAt.bool_list _ ‹_› hu | with_reducible exact RcNeAt.list_int _ _ ‹_› hu | with_reducible exact RcNeAt.int_list _ _ ‹_› hu | with_reducible exact RcNeAt.list_str _ _ ‹_› hu | with_reducible exact RcNeAt.str_list _ _ ‹_› hu
    | with_reducible exact RcNeAt.tuple_none ‹_› hu | with_reducible exact RcNeAt.none_tuple ‹_› hu | with_reducible exact RcNeAt.tuple_bool _ ‹_› hu | with_reducible exact RcNeAt.bool_tuple _ ‹_› hu | with_reducible exact RcNeAt.tuple_int _ _ ‹_› hu | with_reducible exact RcNeAt.int_tuple _ _ ‹_› hu | with_reducible exact RcNeAt.tuple_str _ _ ‹_› hu | with_reducible exact RcNeAt.str_tuple _ _ ‹_› hu
    | with_reducible exact RcNeAt.list_tuple ‹_› ‹_› hu | with_reducible exact RcNeAt.tuple_list ‹_› ‹_› hu
    | with_reducible exact RcNeAt.d_none ‹_› hu | with_reducible exact RcNeAt.none_d ‹_› hu | with_reducible exact RcNeAt.d_bool _ ‹_› hu | with_reducible exact RcNeAt.bool_d _ ‹_› hu | with_reducible exact RcNeAt.d_int _ _ ‹_› hu | with_reducible exact RcNeAt.int_d _ _ ‹_› hu | with_reducible exact RcNeAt.d_str _ _ ‹_› hu | with_reducible exact RcNeAt.str_d _ _ ‹_› hu
    | with_reducible exact RcNeAt.d_list ‹_› ‹_› hu | with_reducible exact RcNeAt.list_d ‹_› ‹_› hu | with_reducible exact RcNeAt.d_tuple ‹_› ‹_› hu | with_reducible exact RcNeAt.tuple_d ‹_› ‹_› hu
    | with_reducible exact absurd rfl (n1 _ _ rfl) | with_reducible exact absurd rfl (n2 _ _ rfl) | with_reducible exact absurd rfl (n3 _ _ rfl)
theorem Dqs.items (I : Inv X pins σ H s) : ∀ {xs : List V} {ds : List PD} {us : List Value}, Dqs X.K H xs ds → Vals xs us → us.length = ds.length
  | _, _, _, .nil, .nil => rfl
  | _, _, _, .cons _ t, .cons _ r => congrArg (· + 1) (Dqs.items I t r)
mutual
theorem eq_dq (I : Inv X pins σ H s) : ∀ (d e : PD) (x y : V) (u v : Value) (B : Around), Dq X.K H x d → Dq X.K H y e → RelV x u → RelV y v → eqD d e = true → B.units + min d.depth e.depth < cLine → SeqAt.EqAt B s u v (PyData.eqv d e)
  | .list xs, .list ys, _, _, _, _, B, .lst (a := l) q1 r1, .lst (a := l') q2 r2, ru, rv, c, hu => by
    cases ru
    cases rv
    have c' : eqDs xs ys = true := by simpa [eqD] using c
    obtain ⟨its, w1, p1, _⟩ := I.list q1
    obtain ⟨its2, w2, p2, _⟩ := I.list q2
    have n1 := Dqs.items I r1 w1
    have n2 := Dqs.items I r2 w2
    show SeqAt.EqAt B s (.ref l) (.ref l') (PyData.eqvAll xs ys)
    by_cases hll : l = l'
    · subst hll
      have e := Dq.uniq I (.list xs) (.list ys) _ (.lst q1 r1) (.lst q2 r2) c
      injection e with e
      subst e
      rw [eqvs_same xs (eqDs_nd xs c')]
      exact SeqAt.EqAt.same _
    · by_cases hsz : its.toArray.size = its2.toArray.size
      · have hsz' : xs.length = ys.length := by rw [← n1, ← n2]; simpa using hsz
        rw [← SeqAt.eqvAll_same_length hsz', show xs.length = its.toArray.size by simp [n1]]
        exact SeqAt.EqAt.of_refs hll (SeqAt.RcAt.lists p1.isList p2.isList hsz (SeqAt.room_here hu) fun j j1 j2 => by
          have := eq_dqs I xs ys _ _ its its2 B.in1 r1 r2 w1 w2 c' (SeqAt.room_in hu) j (by simpa using j1) (by simpa using j2)
          simpa using this)
      · rw [SeqAt.eqvAll_other_length (fun z => hsz (by simp [n1, n2, z]))]
        exact SeqAt.EqAt.of_refs hll (SeqAt.RcAt.lists_lengths p1.isList p2.isList (by simpa using hsz) (SeqAt.room_here hu))
  | .tuple xs, .tuple ys, _, _, _, _, B, .tup (a := l) q1 r1, .tup (a := l') q2 r2, ru, rv, c, hu => by
    cases ru
    cases rv
    have c' : eqDs xs ys = true := by simpa [eqD] using c
    obtain ⟨its, w1, p1, _⟩ := I.tuple q1
    obtain ⟨its2, w2, p2, _⟩ := I.tuple q2
    have n1 := Dqs.items I r1 w1
    have n2 := Dqs.items I r2 w2
    show SeqAt.EqAt B s (.ref l) (.ref l') (PyData.eqvAll xs ys)
    by_cases hll : l = l'
    · subst hll
      have e := Dq.uniq I (.tuple xs) (.tuple ys) _ (.tup q1 r1) (.tup q2 r2) c
      injection e with e
      subst e
      rw [eqvs_same xs (eqDs_nd xs c')]
      exact SeqAt.EqAt.same _
    · rw [← SeqAt.eqvAll_eq xs ys, show xs.length = its.toArray.size by simp [n1], show ys.length = its2.toArray.size by simp [n2]]
      exact SeqAt.EqAt.of_refs hll (SeqAt.RcAt.tuples (show s.heap.IsTuple l its.toArray from p1) (show s.heap.IsTuple l' its2.toArray from p2) (SeqAt.room_here hu) fun j j1 j2 => by
        have := eq_dqs I xs ys _ _ its its2 B.in1 r1 r2 w1 w2 c' (SeqAt.room_in hu) j (by simpa using j1) (by simpa using j2)
        simpa using this)
  | .list xs, .tuple _, _, _, _, _, B, h1, h2, ru, rv, c, hu => eq_flat (h1.kv I ru) (h2.kv I rv) (SeqAt.room_here hu) (fun _ _ _ z => nomatch z) (fun _ _ z => nomatch z) (fun _ _ z => nomatch z)
  | .list xs, .none, _, _, _, _, B, h1, h2, ru, rv, c, hu => eq_flat (h1.kv I ru) (h2.kv I rv) (SeqAt.room_here hu) (fun _ _ _ z => nomatch z) (fun _ _ z => nomatch z) (fun _ _ z => nomatch z)
  | .list xs, .bool _, _, _, _, _, B, h1, h2, ru, rv, c, hu => eq_flat (h1.kv I ru) (h2.kv I rv) (SeqAt.room_here hu) (fun _ _ _ z => nomatch z) (fun _ _ z => nomatch z) (fun _ _ z => nomatch z)
  | .list xs, .int _, _, _, _, _, B, h1, h2, ru, rv, c, hu => eq_flat (h1.kv I ru) (h2.kv I rv) (SeqAt.room_here hu) (fun _ _ _ z => nomatch z) (fun _ _ z => nomatch z) (fun _ _ z => nomatch z)
  | .list xs, .str _, _, _, _, _, B, h1, h2, ru, rv, c, hu => eq_flat (h1.kv I ru) (h2.kv I rv) (SeqAt.room_here hu) (fun _ _ _ z => nomatch z) (fun _ _ z => nomatch z) (fun _ _ z => nomatch z)
  | .list xs, .dict _, _, _, _, _, B, h1, h2, ru, rv, c, hu => eq_flat (h1.kv I ru) (h2.kv I rv) (SeqAt.room_here hu) (fun _ _ _ z => nomatch z) (fun _ _ z => nomatch z) (fun _ _ z => nomatch z)
  | .tuple xs, .list _, _, _, _, _, B, h1, h2, ru, rv, c, hu => eq_flat (h1.kv I ru) (h2.kv I rv) (SeqAt.room_here hu) (fun _ _ z => nomatch z) (fun _ _ _ z => nomatch z) (fun _ _ z => nomatch z)
  | .tuple xs, .none, _, _, _, _, B, h1, h2, ru, rv, c, hu => eq_flat (h1.kv I ru) (h2.kv I rv) (SeqAt.room_here hu) (fun _ _ z => nomatch z) (fun _ _ _ z => nomatch z) (fun _ _ z => nomatch z)
  | .tuple xs, .bool _, _, _, _, _, B, h1, h2, ru, rv, c, hu => eq_flat (h1.kv I ru) (h2.kv I rv) (SeqAt.room_here hu) (fun _ _ z => nomatch z) (fun _ _ _ z => nomatch z) (fun _ _ z => nomatch z)
  | .tuple xs, .int _, _, _, _, _, B, h1, h2, ru, rv, c, hu => eq_flat (h1.kv I ru) (h2.kv I rv) (SeqAt.room_here hu) (fun _ _ z => nomatch z) (fun _ _ _ z => nomatch z) (fun _ _ z => nomatch z)
  | .tuple xs, .str _, _, _, _, _, B, h1, h2, ru, rv, c, hu => eq_flat (h1.kv I ru) (h2.kv I rv) (SeqAt.room_here hu) (fun _ _ z => nomatch z) (fun _ _ _ z => nomatch z) (fun _ _ z => nomatch z)
  | .tuple xs, .dict _, _, _, _, _, B, h1, h2, ru, rv, c, hu => eq_flat (h1.kv I ru) (h2.kv I rv) (SeqAt.room_here hu) (fun _ _ z => nomatch z) (fun _ _ _ z => nomatch z) (fun _ _ z => nomatch z)
  | .none, _, _, _, _, _, B, h1, h2, ru, rv, c, hu => eq_flat (h1.kv I ru) (h2.kv I rv) (SeqAt.room_here hu) (fun _ _ z => nomatch z) (fun _ _ z => nomatch z) (fun _ _ z => nomatch z)
  | .bool _, _, _, _, _, _, B, h1, h2, ru, rv, c, hu => eq_flat (h1.kv I ru) (h2.kv I rv) (SeqAt.room_here hu) (fun _ _ z => nomatch z) (fun _ _ z => nomatch z) (fun _ _ z => nomatch z)
  | .int _, _, _, _, _, _, B, h1, h2, ru, rv, c, hu => eq_flat (h1.kv I ru) (h2.kv I rv) (SeqAt.room_here hu) (fun _ _ z => nomatch z) (fun _ _ z => nomatch z) (fun _ _ z => nomatch z)
  | .str _, _, _, _, _, _, B, h1, h2, ru, rv, c, hu => eq_flat (h1.kv I ru) (h2.kv I rv) (SeqAt.room_here hu) (fun _ _ z => nomatch z) (fun _ _ z => nomatch z) (fun _ _ z => nomatch z)
  | .dict _, _, _, _, _, _, B, h1, h2, ru, rv, c, hu => eq_flat (h1.kv I ru) (h2.kv I rv) (SeqAt.room_here hu) (fun _ _ z => nomatch z) (fun _ _ z => nomatch z) (fun xs ys z w => by subst w; simp [eqD] at c)
theorem eq_dqs (I : Inv X pins σ H s) : ∀ (ds es : List PD) (xs ys : List V) (us vs : List Value) (B : Around), Dqs X.K H xs ds → Dqs X.K H ys es → Vals xs us → Vals ys vs → eqDs ds es = true → B.units + min (PyData.depthAll ds) (PyData.depthAll es) < cLine →
    ∀ j (h1 : j < us.length) (h2 : j < vs.length), SeqAt.EqAt B s us[j] vs[j] (SeqAt.pairEq ds es j)
  | [], _, _, _, _, _, _, .nil, _, .nil, _, _, _, j, h1, _ => absurd h1 (Nat.not_lt_zero _)
  | _ :: _, [], _, _, _, _, _, _, .nil, _, .nil, _, _, j, _, h2 => absurd h2 (Nat.not_lt_zero _)
  | d :: ds, e :: es, _, _, _, _, B, .cons r1 t1, .cons r2 t2, .cons v1 w1, .cons v2 w2, c, hu, j, h1, h2 => by
    have c' : eqD d e = true ∧ eqDs ds es = true := by simpa [eqDs] using c
    cases j with
    | zero => exact eq_dq I d e _ _ _ _ B r1 r2 v1 v2 c'.1 (SeqAt.room_head hu)
    | succ j => exact eq_dqs I ds es _ _ _ _ B t1 t2 w1 w2 c'.2 (SeqAt.room_tail hu) j (Nat.lt_of_succ_lt_succ h1) (Nat.lt_of_succ_lt_succ h2)
end
/-- == at the top -/
theorem rc_dq (I : Inv X pins σ H s) {d e : PD} {x y : V} {u v : Value} {B : Around} (h1 : Dq X.K H x d) (h2 : Dq X.K H y e) (ru : RelV x u) (rv : RelV y v) (c : eqD d e = true) (hu : B.units + min d.depth e.depth < cLine) : SeqAt.RcAt B s u v (PyData.eqv d e) := by
  by_cases n1 : ∃ xs ys, d = .list xs ∧ e = .list ys
  · obtain ⟨xs, ys, rfl, rfl⟩ := n1
    cases h1 with
    | lst q1 r1 =>
      cases h2 with
      | lst q2 r2 =>
        cases ru
        cases rv
        have c' : eqDs xs ys = true := by simpa [eqD] using c
        obtain ⟨its, w1, p1, _⟩ := I.list q1
        obtain ⟨its2, w2, p2, _⟩ := I.list q2
        have m1 := Dqs.items I r1 w1
        have m2 := Dqs.items I r2 w2
        show SeqAt.RcAt B s _ _ (PyData.eqvAll xs ys)
        by_cases hsz : its.toArray.size = its2.toArray.size
        · have hsz' : xs.length = ys.length := by rw [← m1, ← m2]; simpa using hsz
          rw [← SeqAt.eqvAll_same_length hsz', show xs.length = its.toArray.size by simp [m1]]
          exact SeqAt.RcAt.lists p1.isList p2.isList hsz (SeqAt.room_here hu) fun j j1 j2 => by
            have := eq_dqs I xs ys _ _ its its2 B.in1 r1 r2 w1 w2 c' (SeqAt.room_in hu) j (by simpa using j1) (by simpa using j2)
            simpa using this
        · rw [SeqAt.eqvAll_other_length (fun z => hsz (by simp [m1, m2, z]))]
          exact SeqAt.RcAt.lists_lengths p1.isList p2.isList (by simpa using hsz) (SeqAt.room_here hu)
  · by_cases n2 : ∃ xs ys, d = .tuple xs ∧ e = .tuple ys
    · obtain ⟨xs, ys, rfl, rfl⟩ := n2
      cases h1 with
      | tup q1 r1 =>
        cases h2 with
        | tup q2 r2 =>
          cases ru
          cases rv
          have c' : eqDs xs ys = true := by simpa [eqD] using c
          obtain ⟨its, w1, p1, _⟩ := I.tuple q1
          obtain ⟨its2, w2, p2, _⟩ := I.tuple q2
          have m1 := Dqs.items I r1 w1
          have m2 := Dqs.items I r2 w2
          show SeqAt.RcAt B s _ _ (PyData.eqvAll xs ys)
          rw [← SeqAt.eqvAll_eq xs ys, show xs.length = its.toArray.size by simp [m1], show ys.length = its2.toArray.size by simp [m2]]
          exact SeqAt.RcAt.tuples (show s.heap.IsTuple _ its.toArray from p1) (show s.heap.IsTuple _ its2.toArray from p2) (SeqAt.room_here hu) fun j j1 j2 => by
            have := eq_dqs I xs ys _ _ its its2 B.in1 r1 r2 w1 w2 c' (SeqAt.room_in hu) j (by simpa using j1) (by simpa using j2)
            simpa using this
    · exact rc_flat (h1.kv I ru) (h2.kv I rv) (SeqAt.room_here hu) (fun xs ys z w => n1 ⟨xs, ys, z, w⟩) (fun xs ys z w => n2 ⟨xs, ys, z, w⟩) (fun xs ys z w => by subst z w; simp [eqD] at c)
theorem rcNe_dq (I : Inv X pins σ H s) {d e : PD} {x y : V} {u v : Value} {B : Around} (h1 : Dq X.K H x d) (h2 : Dq X.K H y e) (ru : RelV x u) (rv : RelV y v) (c : eqD d e = true) (hu : B.units + min d.depth e.depth < cLine) : SeqAt.RcNeAt B s u v (!PyData.eqv d e) := by
  by_cases n1 : ∃ xs ys, d = .list xs ∧ e = .list ys
  · obtain ⟨xs, ys, rfl, rfl⟩ := n1
    cases h1 with
    | lst q1 r1 =>
      cases h2 with
      | lst q2 r2 =>
        cases ru
        cases rv
        have c' : eqDs xs ys = true := by simpa [eqD] using c
        obtain ⟨its, w1, p1, _⟩ := I.list q1
        obtain ⟨its2, w2, p2, _⟩ := I.list q2
        have m1 := Dqs.items I r1 w1
        have m2 := Dqs.items I r2 w2
        show SeqAt.RcNeAt B s _ _ (!PyData.eqvAll xs ys)
        by_cases hsz : its.toArray.size = its2.toArray.size
        · have hsz' : xs.length = ys.length := by rw [← m1, ← m2]; simpa using hsz
          rw [← SeqAt.eqvAll_same_length hsz', show xs.length = its.toArray.size by simp [m1]]
          exact SeqAt.RcNeAt.lists p1.isList p2.isList hsz (SeqAt.room_here hu) fun j j1 j2 => by
            have := eq_dqs I xs ys _ _ its its2 B.in1 r1 r2 w1 w2 c' (SeqAt.room_in hu) j (by simpa using j1) (by simpa using j2)
            simpa using this
        · rw [SeqAt.eqvAll_other_length (fun z => hsz (by simp [m1, m2, z]))]
          exact SeqAt.RcNeAt.lists_lengths p1.isList p2.isList (by simpa using hsz) (SeqAt.room_here hu)
  · by_cases n2 : ∃ xs ys, d = .tuple xs ∧ e = .tuple ys
    · obtain ⟨xs, ys, rfl, rfl⟩ := n2
      cases h1 with
      | tup q1 r1 =>
        cases h2 with
        | tup q2 r2 =>
          cases ru
          cases rv
          have c' : eqDs xs ys = true := by simpa [eqD] using c
          obtain ⟨its, w1, p1, _⟩ := I.tuple q1
          obtain ⟨its2, w2, p2, _⟩ := I.tuple q2
          have m1 := Dqs.items I r1 w1
          have m2 := Dqs.items I r2 w2
          show SeqAt.RcNeAt B s _ _ (!PyData.eqvAll xs ys)
          rw [← SeqAt.eqvAll_eq xs ys, show xs.length = its.toArray.size by simp [m1], show ys.length = its2.toArray.size by simp [m2]]
          exact SeqAt.RcNeAt.tuples (show s.heap.IsTuple _ its.toArray from p1) (show s.heap.IsTuple _ its2.toArray from p2) (SeqAt.room_here hu) fun j j1 j2 => by
            have := eq_dqs I xs ys _ _ its its2 B.in1 r1 r2 w1 w2 c' (SeqAt.room_in hu) j (by simpa using j1) (by simpa using j2)
            simpa using this
    · exact ne_flat (h1.kv I ru) (h2.kv I rv) (SeqAt.room_here hu) (fun xs ys z w => n1 ⟨xs, ys, z, w⟩) (fun xs ys z w => n2 ⟨xs, ys, z, w⟩) (fun xs ys z w => by subst z w; simp [eqD] at c)
end
section
variable {X : Cx}
def rEqD (K : PySem.W.Frag) (b : Bool) : R2 := fun x y H Q => ∃ d e, Dq K H x d ∧ Dq K H y e ∧ eqD d e = true ∧ min d.depth e.depth ≤ 60 ∧ Q (.bl (if b then PyData.eqv d e else !PyData.eqv d e)) H
theorem op_eqD (hu : X.A.units + 64 < cLine) : OpR X (compareOp .Eq) (rEqD X.K true) := by
  intro pins s σ H x y v u Q I rx ry ⟨d, e, h1, h2, c, dp, q⟩
  exact rc_dq I h1 h2 rx ry c (by omega) X.prog X.w X.xe _ ⟨.bl _, H, I, rfl, q⟩
theorem op_neD (hu : X.A.units + 64 < cLine) : OpR X (compareOp .NotEq) (rEqD X.K false) := by
  intro pins s σ H x y v u Q I rx ry ⟨d, e, h1, h2, c, dp, q⟩
  exact rcNe_dq I h1 h2 rx ry c (by omega) X.prog X.w X.xe _ ⟨.bl _, H, I, rfl, q⟩
/-- what a plain value shows -/
def flatV : Value → PD
  | .bool b => .bool b
  | .int i _ => .int i
  | .str x _ => .str x
  | _ => .none
theorem flat_kv {s : Shared} {u : Value} {d : PD} (k : Kv s u d) (f : flatD d = true) : flatV u = d := by
  cases k <;> first | rfl | cases f
theorem any_flat {s : Shared} {e : PD} : ∀ {us : List Value} {ds : List PD}, Paired (fun u d => Kv s u d) us ds → ds.all flatD = true → (us.any fun u => PyData.eqv (flatV u) e) = ds.any fun d => PyData.eqv d e
  | _, _, .nil, _ => rfl
  | _ :: _, _ :: _, .cons k t, f => by
    rw [List.all_cons, Bool.and_eq_true] at f
    rw [List.any_cons, List.any_cons, flat_kv k f.1, any_flat t f.2]
theorem Dqs.kvs {pins : List (Addr × Obj)} {σ : L2.St} {H : Hp} {s : Shared} (I : Inv X pins σ H s) : ∀ {xs : List V} {ds : List PD} {us : List Value}, Dqs X.K H xs ds → Vals xs us → Paired (fun u d => Kv s u d) us ds
  | _, _, _, .nil, .nil => .nil
  | _, _, _, .cons r t, .cons v w => .cons (r.kv I v) (Dqs.kvs I t w)
theorem paired_mem {α β : Type} {F : α → β → Prop} : ∀ {xs : List α} {ys : List β}, Paired F xs ys → ∀ x ∈ xs, ∃ y ∈ ys, F x y
  | _, _, .cons h t, x, m => by
    rcases List.mem_cons.mp m with rfl | m
    · exact ⟨_, List.mem_cons_self .., h⟩
    · obtain ⟨y, my, f⟩ := paired_mem t x m
      exact ⟨y, List.mem_cons_of_mem _ my, f⟩
def rInD (K : PySem.W.Frag) (b : Bool) : R2 := fun x y H Q => ∃ d ds, Dq K H x d ∧ (Dq K H y (.list ds) ∨ Dq K H y (.tuple ds)) ∧ ds.all flatD = true ∧ Q (.bl (if b then ds.any fun z => PyData.eqv z d else !ds.any fun z => PyData.eqv z d)) H
theorem flat_at {s : Shared} {u v : Value} {d e : PD} {B : Around} (k1 : Kv s u d) (k2 : Kv s v e) (hu : B.units < cLine) (f : flatD d = true) : SeqAt.EqAt B s u v (PyData.eqv (flatV u) e) := by
  rw [flat_kv k1 f]
  exact eq_flat k1 k2 hu (fun _ _ z => by subst z; cases f) (fun _ _ z => by subst z; cases f) (fun _ _ z => by subst z; cases f)
theorem op_inD (hu : X.A.units + 65 < cLine) : OpR X (compareOp .In) (rInD X.K true) := by
  intro pins s σ H x y v u Q I rx ry ⟨d, ds, h1, h2, f, q⟩
  rcases h2 with h2 | h2
  · cases h2 with
    | lst q2 r2 =>
      cases ry
      obtain ⟨its, w, p, _⟩ := I.list q2
      have kk := Dqs.kvs I r2 w
      refine SeqAt.in_listAt (fun u => PyData.eqv (flatV u) d) p.isList (fun z mz => ?_) ?_
      · obtain ⟨e, me, k⟩ := paired_mem kk z (by simpa using mz)
        exact flat_at k (h1.kv I rx) (by show X.A.units + 1 < cLine; omega) (List.all_eq_true.mp f e me)
      · rw [← Array.any_toList, show its.toArray.toList = its by simp, any_flat kk f]
        exact ⟨.bl _, H, I, rfl, q⟩
  · cases h2 with
    | tup q2 r2 =>
      cases ry
      obtain ⟨its, w, p, _⟩ := I.tuple q2
      have kk := Dqs.kvs I r2 w
      refine SeqAt.in_tupleAt (fun u => PyData.eqv (flatV u) d) (show s.heap.IsTuple _ its.toArray from p) (fun z mz => ?_) ?_
      · obtain ⟨e, me, k⟩ := paired_mem kk z (by simpa using mz)
        exact flat_at k (h1.kv I rx) (by show X.A.units + 1 < cLine; omega) (List.all_eq_true.mp f e me)
      · rw [← Array.any_toList, show its.toArray.toList = its by simp, any_flat kk f]
        exact ⟨.bl _, H, I, rfl, q⟩
theorem op_notInD (hu : X.A.units + 65 < cLine) : OpR X (compareOp .NotIn) (rInD X.K false) := by
  intro pins s σ H x y v u Q I rx ry ⟨d, ds, h1, h2, f, q⟩
  rcases h2 with h2 | h2
  · cases h2 with
    | lst q2 r2 =>
      cases ry
      obtain ⟨its, w, p, _⟩ := I.list q2
      have kk := Dqs.kvs I r2 w
      refine SeqAt.notIn_listAt (fun u => PyData.eqv (flatV u) d) p.isList (fun z mz => ?_) ?_
      · obtain ⟨e, me, k⟩ := paired_mem kk z (by simpa using mz)
        exact flat_at k (h1.kv I rx) (by show X.A.units + 1 < cLine; omega) (List.all_eq_true.mp f e me)
      · rw [← Array.any_toList, show its.toArray.toList = its by simp, any_flat kk f]
        exact ⟨.bl _, H, I, rfl, q⟩
  · cases h2 with
    | tup q2 r2 =>
      cases ry
      obtain ⟨its, w, p, _⟩ := I.tuple q2
      have kk := Dqs.kvs I r2 w
      refine SeqAt.notIn_tupleAt (fun u => PyData.eqv (flatV u) d) (show s.heap.IsTuple _ its.toArray from p) (fun z mz => ?_) ?_
      · obtain ⟨e, me, k⟩ := paired_mem kk z (by simpa using mz)
        exact flat_at k (h1.kv I rx) (by show X.A.units + 1 < cLine; omega) (List.all_eq_true.mp f e me)
      · rw [← Array.any_toList, show its.toArray.toList = its by simp, any_flat kk f]
        exact ⟨.bl _, H, I, rfl, q⟩
end
end Nv
set_option Elab.async false
set_option linter.all false
set_option maxRecDepth 100000
set_option exponentiation.threshold 5000
/-! N4: the operators keep their word. -/
namespace Nv
open PySem L2 PyProof.Rows

section
variable {W : Wo} {X : Cx} {φ φ' : Ph} {h h' : Hs} {H H' : Hp}
theorem ok_inj {α : Type} {a b : α} {h h' : Hs} (e : Res.ok a h = Res.ok b h') : a = b ∧ h = h' := by
  simpa only [Res.ok.injEq] using e
theorem ite_inv {α : Type} {c : Prop} [Decidable c] {m : M α} {b : α} (e : (if c then m else bad) h = .ok b h') : c ∧ m h = .ok b h' := by
  by_cases q : c
  · rw [if_pos q] at e; exact ⟨q, e⟩
  · rw [if_neg q] at e; cases e
theorem RepV.d {x : V} {d : PD} (r : RepV W φ h H x (.d d)) : RepD W.K (Al φ h) H x d := r
theorem RepD.int_inv {K : PySem.W.Frag} {A : Addr → Prop} {x : V} {i : Int} (r : RepD K A H x (.int i)) : x = .int i := by cases r; rfl
theorem RepD.bool_inv {K : PySem.W.Frag} {A : Addr → Prop} {x : V} {i : Bool} (r : RepD K A H x (.bool i)) : x = .bl i := by cases r; rfl
theorem RepD.str_inv {K : PySem.W.Frag} {A : Addr → Prop} {x : V} {z : Str} (r : RepD K A H x (.str z)) : x = .str z ∧ z.length ≤ sizeLine ∧ ascOk z = true := by cases r with | str _ a b => exact ⟨rfl, a, b⟩
theorem RepD.tup_inv {K : PySem.W.Frag} {A : Addr → Prop} {x : V} {ds : List PD} (r : RepD K A H x (.tuple ds)) : ∃ a xs, x = .ref a ∧ FzT K A H a xs ∧ xs.length ≤ sizeLine ∧ RepDs K A H xs ds := by cases r with | tup f l r => exact ⟨_, _, rfl, f, l, r⟩
theorem RepD.lst_inv {K : PySem.W.Frag} {A : Addr → Prop} {x : V} {ds : List PD} (r : RepD K A H x (.list ds)) : ∃ a xs, x = .ref a ∧ FzL A H a xs ∧ xs.length ≤ sizeLine ∧ RepDs K A H xs ds := by cases r with | lst f l r => exact ⟨_, _, rfl, f, l, r⟩
theorem RepD.dct_inv {K : PySem.W.Frag} {A : Addr → Prop} {x : V} {ds : List (PD × PD)} (r : RepD K A H x (.dict ds)) : ∃ a xs, x = .ref a ∧ FzD A H a xs ∧ xs.length ≤ sizeLine ∧ RepKs K A H xs ds := by cases r with | dct f l r => exact ⟨_, _, rfl, f, l, r⟩
theorem paired_app {α β : Type} {F : α → β → Prop} : ∀ {xs xs' : List α} {ys ys' : List β}, Paired F xs ys → Paired F xs' ys' → Paired F (xs ++ xs') (ys ++ ys')
  | _, _, _, _, .nil, s => s
  | _, _, _, _, .cons r t, s => .cons r (paired_app t s)
theorem strOk_app {x y : Str} (a : ascOk x = true) (b : ascOk y = true) : ascOk (x ++ y) = true := by
  have e : (x ++ y).cps = x.cps ++ y.cps := rfl
  unfold ascOk at *
  rw [e, Array.all_append, a, b]
  rfl
theorem len_app (x y : Str) : (x ++ y).length = x.length + y.length := by
  have e : (x ++ y).cps = x.cps ++ y.cps := rfl
  unfold Str.length
  rw [e, Array.size_append]

/-! ### + - * // % ** -/
/-- two lists, each read -/
def rCatR : R2 := fun x y H Q => ∃ l b xs zs, x = .ref l ∧ y = .ref b ∧ Rd H l (.lst xs) ∧ Rd H b (.lst zs) ∧ xs.length + zs.length ≤ sizeLine ∧ ∀ p, H p = none → Q (.ref p) (upd H p (.lst (xs ++ zs)))
theorem op_catR : OpR X (binaryOp .Add) rCatR := by
  intro pins s σ H x y v u Q I rx ry h
  obtain ⟨l, b, xs, zs, rfl, rfl, hH, hB, hz, q⟩ := h
  cases rx
  cases ry
  obtain ⟨z, its, n, r, e⟩ := hH.ok I.hok
  obtain ⟨z2, its2, n2, r2, e2⟩ := hB.ok I.hok
  have hl := r.length
  have hl2 := r2.length
  refine PySem.P.add_list e e2 ?_ (by rw [List.size_toArray, List.size_toArray]; omega)
  have ea : its.toArray ++ its2.toArray = (its ++ its2).toArray := by simp
  rw [ea]
  exact ⟨.ref _, _, I.lnew (t' := s.toks) (r.append r2) (by rw [List.length_append]; omega), rfl, q _ I.fresh⟩
/-- bool + int, bool - int -/
def rBI (f : Bool → Int → Int) : R2 := fun x y H Q => ∃ b j, x = .bl b ∧ y = .int j ∧ Q (.int (f b j)) H
theorem op_addB : OpR X (binaryOp .Add) (rBI fun b j => bi b + j) := by
  intro pins s σ H x y v u Q I rx ry ⟨b, j, e1, e2, q⟩
  subst e1 e2
  cases rx
  obtain ⟨t, rfl⟩ := ry
  exact PySem.IntBool.add_bool_int ⟨.int _, H, I.tok _, ⟨_, rfl⟩, q⟩
theorem op_subB : OpR X (binaryOp .Sub) (rBI fun b j => bi b - j) := by
  intro pins s σ H x y v u Q I rx ry ⟨b, j, e1, e2, q⟩
  subst e1 e2
  cases rx
  obtain ⟨t, rfl⟩ := ry
  exact PySem.IntBool.sub_bool_int ⟨.int _, H, I.tok _, ⟨_, rfl⟩, q⟩
def rAddAll (K : PySem.W.Frag) : R2 := fun x y H Q => ((((∃ i j, x = .int i ∧ y = .int j ∧ Q (.int (i + j)) H) ∨ (∃ i j, x = .str i ∧ y = .str j ∧ i.length + j.length ≤ sizeLine ∧ Q (.str (i ++ j)) H)) ∨ rCatA K x y H Q) ∨ rCatR x y H Q) ∨ rBI (fun b j => bi b + j) x y H Q
theorem op_addAll : OpR X (binaryOp .Add) (rAddAll X.K) := OpR.or (OpR.or (OpR.or (OpR.or op_add op_add_str) op_catA) op_catR) op_addB
theorem bad_ne {α : Type} {a : α} {P : Prop} (e : (Res.bad : Res α) = .ok a h) : P := nomatch e
local macro_rules | `(tactic| walk_at "two") => `(tactic| (cases v <;> (try (rename_i x; cases x)) <;> cases w <;> (try (rename_i y; cases y)) <;> first | (exact bad_ne e) | skip))
theorem s_bop_add {v w z : Val} (e : bop .add v w h = .ok z h') : (∃ i j, v = .d (.int i) ∧ w = .d (.int j) ∧ z = .d (.int (i + j)) ∧ h' = h) ∨
    (∃ x y : Str, v = .d (.str x) ∧ w = .d (.str y) ∧ x.length + y.length ≤ lim ∧ z = .d (.str (x ++ y)) ∧ h' = h) ∨
    (∃ x y : List PD, v = .d (.tuple x) ∧ w = .d (.tuple y) ∧ x.length + y.length ≤ lim ∧ z = .d (.tuple (x ++ y)) ∧ h' = h) ∨
    (∃ b j, v = .d (.bool b) ∧ w = .d (.int j) ∧ z = .d (.int (bi b + j)) ∧ h' = h) := by
  cases v <;> (try (rename_i x; cases x)) <;> cases w <;> (try (rename_i y; cases y)) <;> first | (exact bad_ne e) | skip
  · cases e
    exact .inr (.inr (.inr ⟨_, _, rfl, rfl, rfl, rfl⟩))
  · cases e
    exact .inl ⟨_, _, rfl, rfl, rfl, rfl⟩
  · obtain ⟨c, e⟩ := ite_inv e
    cases e
    exact .inr (.inl ⟨_, _, rfl, rfl, c, rfl, rfl⟩)
  · obtain ⟨c, e⟩ := ite_inv e
    cases e
    exact .inr (.inr (.inl ⟨_, _, rfl, rfl, c, rfl, rfl⟩))
theorem s_add {m : Bool} : R2S W (rAddAll W.K) (bopL m .add) := by
  intro φ h H x y v w z h' Q a rx ry e k
  cases L : (isL v && isL w) with
  | true =>
    simp only [bopL, L] at e
    obtain ⟨xs, h1, e1, f1⟩ := bind_inv e
    obtain ⟨ys, h2, e2, f2⟩ := bind_inv f1
    obtain ⟨c, f3⟩ := ite_inv f2
    obtain ⟨rfl, p, us, rfl, l1, r1, t1⟩ := seqOf_inv a rx e1
    obtain ⟨rfl, q, ws, rfl, l2, r2, t2⟩ := seqOf_inv a ry e2
    simp only [Bool.and_eq_true] at L
    have nt : ∀ {v : Val}, isL v = true → ∀ ds, v ≠ .d (.tuple ds) := fun hv ds z => by rw [z] at hv; exact nomatch hv
    have g1 := t1.elim (fun z => z.2) fun ⟨ds, z, _⟩ => absurd z (nt L.1 ds)
    have g2 := t2.elim (fun z => z.2) fun ⟨ds, z, _⟩ => absurd z (nt L.2 ds)
    have hl : us.length + ws.length ≤ sizeLine := by
      rw [RepVs.length r1, RepVs.length r2]; exact c
    exact .inl (.inr ⟨p, q, us, ws, rfl, rfl, g1, g2, hl, fun b hb => mkL_want f3 k a (by rw [List.length_append]; exact hl) (paired_app r1 r2) hb⟩)
  | false =>
    have e' : bop .add v w h = .ok z h' := by simpa only [bopL, L] using e
    rcases s_bop_add e' with ⟨i, j, rfl, rfl, rfl, rfl⟩ | ⟨i, j, rfl, rfl, c, rfl, rfl⟩ | ⟨i, j, rfl, rfl, c, rfl, rfl⟩ | ⟨b, j, rfl, rfl, rfl, rfl⟩
    · cases rx.d.int_inv
      cases ry.d.int_inv
      exact .inl (.inl (.inl (.inl ⟨i, j, rfl, rfl, k.int a⟩)))
    · obtain ⟨rfl, l1, o1⟩ := rx.d.str_inv
      obtain ⟨rfl, l2, o2⟩ := ry.d.str_inv
      exact .inl (.inl (.inl (.inr ⟨i, j, rfl, rfl, c, k.str a (by rw [len_app]; exact c) (strOk_app o1 o2)⟩)))
    · obtain ⟨p, us, rfl, f1, l1, r1⟩ := rx.d.tup_inv
      obtain ⟨q, ws, rfl, f2, l2, r2⟩ := ry.d.tup_inv
      have hl : us.length + ws.length ≤ sizeLine := by
        rw [RepDs.length r1, RepDs.length r2]; exact c
      refine .inl (.inl (.inr ⟨p, q, us, ws, rfl, rfl, f1.sq, f2.sq, hl, fun z => ?_, fun _ z => ?_, fun _ _ b hb => k.tup a (by rw [List.length_append]; exact hl) (r1.app r2) hb⟩))
      · subst z
        cases r1
        exact k.same a ry
      · subst z
        cases r2
        rw [List.append_nil] at k
        exact k.same a rx
    · cases rx.d.bool_inv
      cases ry.d.int_inv
      exact .inr ⟨b, j, rfl, rfl, k.int a⟩
theorem s_bop_int {o : Bop} {v w z : Val} (ne : o ≠ .add ∧ o ≠ .mul ∧ o ≠ .sub) (e : bop o v w h = .ok z h') : ∃ i j, v = .d (.int i) ∧ w = .d (.int j) := by
  cases o with
  | add => exact absurd rfl ne.1
  | sub => exact absurd rfl ne.2.2
  | mul => exact absurd rfl ne.2.1
  | fdiv => cases v <;> (try (rename_i x; cases x)) <;> cases w <;> (try (rename_i y; cases y)) <;> first | (exact bad_ne e) | exact ⟨_, _, rfl, rfl⟩
  | mod => cases v <;> (try (rename_i x; cases x)) <;> cases w <;> (try (rename_i y; cases y)) <;> first | (exact bad_ne e) | exact ⟨_, _, rfl, rfl⟩
  | pow => cases v <;> (try (rename_i x; cases x)) <;> cases w <;> (try (rename_i y; cases y)) <;> first | (exact bad_ne e) | exact ⟨_, _, rfl, rfl⟩
  | shl => cases v <;> (try (rename_i x; cases x)) <;> cases w <;> (try (rename_i y; cases y)) <;> first | (exact bad_ne e) | exact ⟨_, _, rfl, rfl⟩
  | band => cases v <;> (try (rename_i x; cases x)) <;> cases w <;> (try (rename_i y; cases y)) <;> first | (exact bad_ne e) | exact ⟨_, _, rfl, rfl⟩
  | bxor => cases v <;> (try (rename_i x; cases x)) <;> cases w <;> (try (rename_i y; cases y)) <;> first | (exact bad_ne e) | exact ⟨_, _, rfl, rfl⟩
def bopO : Bop → Operator
  | .add => .Add | .sub => .Sub | .mul => .Mult | .fdiv => .FloorDiv | .mod => .Mod | .pow => .Pow | .shl => .LShift | .band => .BitAnd | .bxor => .BitXor
theorem s_int2 {o : Bop} {m : Bool} {C : Int → Int → Prop} {g : Int → Int → Int} (ne : o ≠ .add ∧ o ≠ .mul ∧ o ≠ .sub) (f : ∀ i j h z h', bop o (.d (.int i)) (.d (.int j)) h = .ok z h' → C i j ∧ z = .d (.int (g i j)) ∧ h' = h) : R2S W (rI C fun i j => .int (g i j)) (bopL m o) := by
  intro φ h H x y v w z h' Q a rx ry e k
  have e' : bop o v w h = .ok z h' := by
    cases o with
    | add => exact absurd rfl ne.1
    | mul => exact absurd rfl ne.2.1
    | sub => exact absurd rfl ne.2.2
    | _ => exact e
  obtain ⟨i, j, rfl, rfl⟩ := s_bop_int ne e'
  obtain ⟨c, rfl, rfl⟩ := f i j h z h' e'
  cases rx.d.int_inv
  cases ry.d.int_inv
  exact ⟨i, j, rfl, rfl, c, k.int a⟩
theorem RepDs.rep {K : PySem.W.Frag} {A : Addr → Prop} {xs : List V} {ds : List PD} (r : RepDs K A H xs ds) : ∀ n : Nat, RepDs K A H (List.replicate n xs).flatten (List.replicate n ds).flatten
  | 0 => .nil
  | n + 1 => by
    rw [List.replicate_succ, List.replicate_succ, List.flatten_cons, List.flatten_cons]
    exact r.app (r.rep n)
/-- a text times an int -/
def rRepS : R2 := fun x y H Q => ∃ z k, x = .str z ∧ y = .int k ∧ (k ≤ 1000 ∧ -1000 ≤ k ∧ z.length ≤ 1000) ∧ Q (.str (repS k.toNat z)) H
theorem repS_fold (l : List Nat) (n : Nat) : (List.replicate n l.toArray).foldl (fun a b => a ++ b) #[] = (List.replicate n l).flatten.toArray := by
  have go : ∀ (n : Nat) (acc : List Nat), (List.replicate n l.toArray).foldl (fun a b => a ++ b) acc.toArray = (acc ++ (List.replicate n l).flatten).toArray := by
    intro n
    induction n with
    | zero => intro acc; simp
    | succ n ih =>
      intro acc
      rw [List.replicate_succ, List.foldl_cons, show acc.toArray ++ l.toArray = (acc ++ l).toArray by simp, ih, List.replicate_succ, List.flatten_cons, List.append_assoc]
  have := go n []
  rw [List.nil_append] at this
  exact this
theorem repS_len (n : Nat) (x : Str) : (repS n x).length = n * x.length := by
  unfold repS Str.length
  simp
theorem op_repS : OpR X (binaryOp .Mult) rRepS := by
  intro pins s σ H x y v u Q I rx ry h
  obtain ⟨z, k, rfl, rfl, ⟨h1, h2, h3⟩, q⟩ := h
  obtain ⟨t, rfl⟩ := rx
  obtain ⟨w, rfl⟩ := ry
  have ez : z.cps.toList.toArray = z.cps := by simp
  refine PySem.P.mul_str (by rw [decide_eq_false (by omega), decide_eq_false (by omega)]; rfl) (fun g1 g2 => ?_) (fun g1 g2 => ?_) ?_
  · have k0 : 0 < k := by omega
    have : (1000 : Int) * k ≤ 2 ^ 63 - 1 := by omega
    have hle := (Int.le_ediv_iff_mul_le k0 (a := 1000) (b := 2 ^ 63 - 1)).mpr this
    have h3' : (z.length : Int) ≤ 1000 := by omega
    exact Int.not_lt.mpr (Int.le_trans h3' hle)
  · have : z.length * k.toNat ≤ 1000 * 1000 := Nat.mul_le_mul h3 (by omega)
    unfold Builtin.Str.tooLong
    rw [sizeLine_eq]
    exact decide_eq_false (by omega)
  · by_cases g1 : k < 1
    · rw [if_pos g1]
      have e0 : repS k.toNat z = Str.empty := by
        have : k.toNat = 0 := by omega
        rw [this]
        rfl
      rw [e0] at q
      exact ⟨by decide, .str Str.empty, _, I.tok _, ⟨_, rfl⟩, q⟩
    · rw [if_neg g1]
      by_cases g2 : (k == 1 || z.length == 0) = true
      · rw [if_pos g2]
        have e0 : repS k.toNat z = z := by
          rcases Bool.or_eq_true _ _ |>.mp g2 with e | e
          · have : k.toNat = 1 := by have := eq_of_beq e; omega
            rw [this]
            unfold repS
            simp
          · have e : z.cps.size = 0 := eq_of_beq e
            have : z.cps = #[] := Array.eq_empty_of_size_eq_zero e
            unfold repS
            rw [this]
            cases z
            simp_all
        rw [e0] at q
        exact ⟨.str z, _, I, ⟨_, rfl⟩, q⟩
      · rw [if_neg g2]
        have e0 : (⟨(List.replicate k.toNat z.cps).foldl (· ++ ·) #[]⟩ : Str) = repS k.toNat z := by
          unfold repS
          rw [← repS_fold, ez]
        rw [e0]
        refine ⟨?_, .str _, _, I.tok _, ⟨_, rfl⟩, q⟩
        rw [repS_len, sizeLine_eq]
        have : k.toNat * z.length ≤ 1000 * 1000 := Nat.mul_le_mul (by omega) h3
        omega
/-- a list times an int, read -/
def rRepR : R2 := fun x y H Q => ∃ l k xs, x = .ref l ∧ y = .int k ∧ Rd H l (.lst xs) ∧ (k ≤ 1000 ∧ -1000 ≤ k ∧ xs.length ≤ 1000) ∧ ∀ p, H p = none → Q (.ref p) (upd H p (.lst (List.replicate k.toNat xs).flatten))
theorem rep_flat {α : Type} (l : List α) (n : Nat) : (List.replicate n l).flatten.length = n * l.length := by simp
theorem op_repR : OpR X (binaryOp .Mult) rRepR := by
  intro pins s σ H x y v u Q I rx ry h
  obtain ⟨l, k, xs, rfl, rfl, hR, ⟨k1, k2, k3⟩, q⟩ := h
  cases rx
  obtain ⟨t, rfl⟩ := ry
  obtain ⟨z, its, n, r, e⟩ := hR.ok I.hok
  have hl : xs.length = its.length := r.length
  have hm : its.toArray.size * k.toNat ≤ 1000000 := by
    rw [List.size_toArray, ← hl]
    exact Nat.le_trans (Nat.mul_le_mul k3 (Int.toNat_le.mpr k1)) (by decide)
  have c1 : ¬ its.toArray.size * k.toNat > (2 ^ 63 - 1) / 8 := by omega
  have c2 : ¬ (!Builtin.List.listFitsIndex k) = true := by rw [fitsIndex_both (by omega) (by omega)]; decide
  have c3 : ¬ Builtin.List.listTooLong (its.toArray.size * k.toNat) = true := by
    rw [notLongL (by rw [sizeLine_eq]; omega)]
    decide
  have new : (List.replicate (if its.toArray.isEmpty = true then 0 else k.toNat) its.toArray).foldl (fun a b => a ++ b) #[] = (List.replicate k.toNat its).flatten.toArray := by
    have go := fun m => foldl_rep its m []
    simp only [List.nil_append] at go
    rw [show (fun a b : Array Value => a ++ b) = fun x1 x2 => x1 ++ x2 from rfl, go]
    cases its with
    | nil => simp
    | cons a b => rw [if_neg (by simp)]
  refine wpAny_binaryOp_repeat_ref (T := "list") (U := "int") (by decide) ⟨_, e, rfl⟩ (fun s' => typeIs_int s' k t) noFill_list_mul PySem.F.fills_int_mul PySem.F.slot_int_rmul repeat_list PySem.F.slot_int_index.lookup ?_
  refine call_meets PySem.F.slot_int_rmul (typeIs_int s k t) PySem.F.entry_int_rmul (PySem.F.args_int_rmul_2 _ _) (int___rmul___int_list k t l its.toArray n) ⟨e, rfl, ⟨_, e, rfl⟩, ?_⟩
  refine call_meets PySem.F.slot_list_mul ⟨_, e, rfl⟩ PySem.F.entry_list_mul (PySem.F.args_list_mul_2 _ _) (AutoListH.list___mul___list_int_3 l its.toArray n k t c2 c1 c3) ⟨e, ?_⟩
  rw [new]
  refine ⟨.ref _, _, I.lnew (t' := s.toks) (r.rep k.toNat) ?_, rfl, q _ I.fresh⟩
  rw [rep_flat, sizeLine_eq]
  exact Nat.le_trans (Nat.mul_le_mul (Int.toNat_le.mpr k1) k3) (by decide)
theorem RepVs.rep {xs : List V} {vs : List Val} (r : RepVs W φ h H xs vs) : ∀ n : Nat, RepVs W φ h H (List.replicate n xs).flatten (List.replicate n vs).flatten
  | 0 => .nil
  | n + 1 => by
    rw [List.replicate_succ, List.replicate_succ, List.flatten_cons, List.flatten_cons]
    exact paired_app r (r.rep n)
theorem ft0 {P : Prop} (h : false = true) : P := nomatch h
theorem isI_inv {v : Val} {k : Int} (e : isI v = some k) : v = .d (.int k) := by
  cases v with
  | r => cases e
  | d v => cases v <;> simp [isI] at e <;> (try rw [e])
theorem asc_rep {z : Str} (o : ascOk z = true) (n : Nat) : ascOk (repS n z) = true := by
  unfold ascOk repS at *
  simp only [Array.all_eq_true', decide_eq_true_eq] at *
  intro c hc
  have hc : c ∈ (List.replicate n z.cps.toList).flatten := by simpa using hc
  obtain ⟨l, hl, hc⟩ := List.mem_flatten.mp hc
  rw [List.eq_of_mem_replicate hl] at hc
  exact o c (by simpa using hc)
theorem op_bop (hK : X.K = W.K) (o : Bop) (m : Bool) : ∃ r, OpR X (binaryOp (bopO o)) r ∧ R2S W r (bopL m o) := by
  cases o with
  | add => exact ⟨_, op_addAll, hK ▸ s_add⟩
  | sub =>
    refine ⟨_, OpR.or (op_sub (X := X)) op_subB, fun φ h H x y v w z h' Q a rx ry e k => ?_⟩
    have e' : bop .sub v w h = .ok z h' := e
    cases v <;> (try (rename_i x; cases x)) <;> cases w <;> (try (rename_i y; cases y)) <;> first | (exact bad_ne e') | skip
    · cases e'
      cases rx.d.bool_inv
      cases ry.d.int_inv
      exact .inr ⟨_, _, rfl, rfl, k.int a⟩
    · cases e'
      cases rx.d.int_inv
      cases ry.d.int_inv
      exact .inl ⟨_, _, rfl, rfl, k.int a⟩
  | mul =>
    refine ⟨_, OpR.or (OpR.or (OpR.or op_mulW op_repT) op_repS) op_repR, fun φ h H x y v w z h' Q a rx ry e k => ?_⟩
    have e0 : (match isL v, isI w with
      | true, some k => repL m v k
      | _, _ => bop .mul v w) h = .ok z h' := e
    have two : (∃ k, isL v = true ∧ isI w = some k ∧ repL m v k h = .ok z h') ∨ bop .mul v w h = .ok z h' := by
      cases h1 : isL v with
      | false => rw [h1] at e0; exact .inr e0
      | true =>
        cases h2 : isI w with
        | none => rw [h1, h2] at e0; exact .inr e0
        | some k => rw [h1, h2] at e0; exact .inl ⟨k, rfl, rfl, e0⟩
    rcases two with ⟨n, h1, h2, e1⟩ | e'
    · have := isI_inv h2
      subst this
      cases ry.d.int_inv
      obtain ⟨xs, i1, e3, e4⟩ := bind_inv (show (seqOf v >>= fun xs => if (n ≤ 1000 ∧ -1000 ≤ n) ∧ xs.length ≤ 1000 then mkL m (List.replicate n.toNat xs).flatten else bad) h = .ok z h' from e1)
      obtain ⟨c, e5⟩ := ite_inv e4
      have fin : ∀ {p : Addr} {us : List V}, x = .ref p → Rd H p (.lst us) → RepVs W φ h H us xs → i1 = h → rRepR x (.int n) H Q := by
        intro p us hx hR hr hi
        subst hi
        have hl := RepVs.length hr
        refine ⟨p, n, us, hx, rfl, hR, ⟨c.1.1, c.1.2, by rw [hl]; exact c.2⟩, fun b hb => mkL_want e5 k a ?_ (RepVs.rep hr _) hb⟩
        rw [rep_flat, hl]
        exact Nat.le_trans (Nat.mul_le_mul (Int.toNat_le.mpr c.1.1) c.2) (by decide)
      refine .inr ?_
      cases v with
      | r i =>
        obtain ⟨eo, rfl⟩ := seqOf_r e3
        obtain ⟨p, ep, rfl⟩ := rx
        obtain ⟨us, e6, l6, r6⟩ := a.ob i p _ ep eo
        exact fin rfl (.inl e6) r6 rfl
      | d v =>
        cases v <;> first | (exact ft0 h1) | skip
        obtain ⟨rfl, rfl⟩ := pure_inv e3
        obtain ⟨p, us, rfl, f1, l1, r1⟩ := rx.d.lst_inv
        exact fin rfl f1.1 (repDs_v r1) rfl
    cases v with
    | r => exact bad_ne e'
    | d v =>
      cases w with
      | r => cases v <;> exact bad_ne e'
      | d w =>
        cases v <;> cases w <;> first | (exact bad_ne e') | skip
        · obtain ⟨c, e2⟩ := ite_inv e'
          cases e2
          cases rx.d.int_inv
          cases ry.d.int_inv
          exact .inl (.inl (.inl ⟨_, _, rfl, rfl, wide_mul c.1 c.2 (by decide) (by decide) (by decide), k.int a⟩))
        · obtain ⟨c, e2⟩ := ite_inv e'
          cases e2
          obtain ⟨rfl, l1, o1⟩ := rx.d.str_inv
          cases ry.d.int_inv
          refine .inl (.inr ⟨_, _, rfl, rfl, c, k.str a ?_ (asc_rep o1 _)⟩)
          rw [repS_len]
          exact Nat.le_trans (Nat.mul_le_mul (Int.toNat_le.mpr c.1) c.2.2) (by decide)
        · obtain ⟨c, e2⟩ := ite_inv e'
          cases e2
          obtain ⟨p, us, rfl, f1, l1, r1⟩ := rx.d.tup_inv
          cases ry.d.int_inv
          have hl := r1.length
          refine .inl (.inl (.inr ⟨p, _, us, rfl, rfl, hK ▸ f1.sq, fun z => ?_, c.1.2, c.2.1, by rw [hl]; exact c.2.2, fun b hb => k.tup a ?_ (r1.rep _) hb⟩))
          · subst z
            cases r1
            cases c.1.1
          · rw [List.length_flatten, List.map_replicate, List.sum_replicate_nat, hl]
            have h1 := c.2.1
            have h2 := c.2.2
            exact Nat.le_trans (Nat.mul_le_mul (Int.toNat_le.mpr h1) h2) (by decide)
  | fdiv =>
    refine ⟨_, op_fdiv, s_int2 ⟨(by intro z; cases z), (by intro z; cases z), by intro z; cases z⟩ fun i j h z h' e => ?_⟩
    obtain ⟨c, e⟩ := ite_inv e
    cases e
    exact ⟨c, rfl, rfl⟩
  | mod =>
    refine ⟨_, op_mod, s_int2 ⟨(by intro z; cases z), (by intro z; cases z), by intro z; cases z⟩ fun i j h z h' e => ?_⟩
    obtain ⟨c, e⟩ := ite_inv e
    cases e
    exact ⟨c, rfl, rfl⟩
  | pow =>
    refine ⟨_, op_pow, s_int2 ⟨(by intro z; cases z), (by intro z; cases z), by intro z; cases z⟩ fun i j h z h' e => ?_⟩
    obtain ⟨c, e⟩ := ite_inv e
    cases e
    exact ⟨⟨c.1, by omega, c.2.2⟩, rfl, rfl⟩
  | shl =>
    refine ⟨rI (fun _ _ => False) fun i j => .int 0, fun pins s σ H x y v u Q I rx ry ⟨i, j, _, _, c, _⟩ => c.elim, s_int2 ⟨(by intro z; cases z), (by intro z; cases z), by intro z; cases z⟩ fun i j h z h' e => bad_ne e⟩
  | band =>
    refine ⟨rI (fun _ _ => False) fun i j => .int 0, fun pins s σ H x y v u Q I rx ry ⟨i, j, _, _, c, _⟩ => c.elim, s_int2 ⟨(by intro z; cases z), (by intro z; cases z), by intro z; cases z⟩ fun i j h z h' e => bad_ne e⟩
  | bxor =>
    refine ⟨rI (fun _ _ => False) fun i j => .int 0, fun pins s σ H x y v u Q I rx ry ⟨i, j, _, _, c, _⟩ => c.elim, s_int2 ⟨(by intro z; cases z), (by intro z; cases z), by intro z; cases z⟩ fun i j h z h' e => bad_ne e⟩
/-! ### comparisons -/
def copO : Cop → CmpOp
  | .eq => .Eq | .ne => .NotEq | .lt => .Lt | .le => .LtE | .gt => .Gt | .ge => .GtE | .is => .Is | .isnot => .IsNot | .isin => .In | .notin => .NotIn
def rEqM (K : PySem.W.Frag) (b : Bool) : R2 := fun x y H Q => ∃ d e, Dp K H x d ∧ Dp K H y e ∧ d.canLay0 = true ∧ e.canLay0 = true ∧ min d.depth e.depth ≤ 60 ∧ Q (.bl (if b then PyData.eqv d e else !PyData.eqv d e)) H
theorem op_eqM (hu : X.A.units + 64 < cLine) : OpR X (compareOp .Eq) (rEqM X.K true) := by
  intro pins s σ H x y v u Q I rx ry h
  obtain ⟨d, e, hd, he, s1, s2, s3, q⟩ := h
  obtain ⟨as, r1⟩ := Dp.reads I d x v hd rx
  obtain ⟨bs, r2⟩ := Dp.reads I e y u he ry
  exact SeqAt.compareEq_reads r1 r2 s1 s2 (by omega) ⟨.bl _, H, I, rfl, q⟩
theorem op_neM (hu : X.A.units + 64 < cLine) : OpR X (compareOp .NotEq) (rEqM X.K false) := by
  intro pins s σ H x y v u Q I rx ry h
  obtain ⟨d, e, hd, he, s1, s2, s3, q⟩ := h
  obtain ⟨as, r1⟩ := Dp.reads I d x v hd rx
  obtain ⟨bs, r2⟩ := Dp.reads I e y u he ry
  exact SeqAt.compareNe_reads r1 r2 s1 s2 (by omega) ⟨.bl _, H, I, rfl, q⟩
def rInM (K : PySem.W.Frag) (b : Bool) : R2 := fun x y H Q => ∃ d ds, Dp K H x d ∧ (Dp K H y (.list ds) ∨ Dp K H y (.tuple ds)) ∧ PyData.canLayAll0 ds = true ∧ d.canLay0 = true ∧ min (PyData.depthAll ds) d.depth ≤ 60 ∧ Q (.bl (if b then ds.any fun z => PyData.eqv z d else !ds.any fun z => PyData.eqv z d)) H
theorem op_inM (hu : X.A.units + 65 < cLine) : OpR X (compareOp .In) (rInM X.K true) := by
  intro pins s σ H x y v u Q I rx ry h
  obtain ⟨d, ds, hd, he, s1, s2, s3, q⟩ := h
  obtain ⟨as, r1⟩ := Dp.reads I d x v hd rx
  rcases he with he | he
  · obtain ⟨bs, r2⟩ := Dp.reads I _ y u he ry
    exact SeqAt.in_list_reads r2 r1 s1 s2 (by omega) ⟨.bl _, H, I, rfl, q⟩
  · obtain ⟨bs, r2⟩ := Dp.reads I _ y u he ry
    exact SeqAt.in_tuple_reads r2 r1 s1 s2 (by omega) ⟨.bl _, H, I, rfl, q⟩
theorem op_notInM (hu : X.A.units + 65 < cLine) : OpR X (compareOp .NotIn) (rInM X.K false) := by
  intro pins s σ H x y v u Q I rx ry h
  obtain ⟨d, ds, hd, he, s1, s2, s3, q⟩ := h
  obtain ⟨as, r1⟩ := Dp.reads I d x v hd rx
  rcases he with he | he
  · obtain ⟨bs, r2⟩ := Dp.reads I _ y u he ry
    exact SeqAt.notIn_list_reads r2 r1 s1 s2 (by omega) ⟨.bl _, H, I, rfl, q⟩
  · obtain ⟨bs, r2⟩ := Dp.reads I _ y u he ry
    exact SeqAt.notIn_tuple_reads r2 r1 s1 s2 (by omega) ⟨.bl _, H, I, rfl, q⟩
theorem eqOk_inv {a b : PD} (c : eqOk a b = true) : (a.hasDict = false ∧ b.hasDict = false ∧ min a.depth b.depth ≤ 60) ∨ (eqD a b = true ∧ min a.depth b.depth ≤ 60) := by
  simp only [eqOk, Bool.or_eq_true, Bool.and_eq_true, Bool.not_eq_true', decide_eq_true_eq] at c
  exact c.imp (fun c => ⟨c.1.1, c.1.2, c.2⟩) id
theorem inOk_inv {a : List PD} {b : PD} (c : inOk a b = true) : (PyData.hasDictAll a = false ∧ b.hasDict = false ∧ min (PyData.depthAll a) b.depth ≤ 60) ∨ a.all flatD = true := by
  simp only [inOk, Bool.or_eq_true, Bool.and_eq_true, Bool.not_eq_true', decide_eq_true_eq] at c
  exact c.imp (fun c => ⟨c.1.1, c.1.2, c.2⟩) id
theorem lstD_inv (a : AbsH W φ h H) {i : Nat} {x : V} {ds : List PD} (r : RepV W φ h H x (.r i)) (e : lstD i h = .ok ds h') : h' = h ∧ (PyData.hasDictAll ds = false → Dp W.K H x (.list ds) ∧ PyData.canLayAll0 ds = true) ∧ Dq W.K H x (.list ds) := by
  obtain ⟨o, h1, e1, e2⟩ := bind_inv (show (getO i >>= fun o => itemsO o >>= fun xs => optM (dats xs)) h = .ok ds h' from e)
  obtain ⟨rfl, eo⟩ := getO_inv e1
  obtain ⟨xs, h2, e3, e4⟩ := bind_inv e2
  obtain ⟨rfl, rfl⟩ := itemsO_inv e3
  obtain ⟨rfl, ed⟩ := optM_inv e4
  obtain ⟨p, ep, rfl⟩ := r
  obtain ⟨ws, e5, l, rr⟩ := a.ob i p _ ep eo
  rw [dats_inv ed] at rr
  have rd := repVs_d rr
  exact ⟨rfl, fun nd => ⟨.lst (.inl (.inl e5)) (RepDs.dp ds ws rd nd), RepDs.can ds ws rd nd⟩, .lst (.inl (.inl e5)) (RepDs.dq ds ws rd)⟩
theorem datV_inv (a : AbsH W φ h H) {x : V} {v : Val} {d : PD} (r : RepV W φ h H x v) (e : datV v h = .ok d h') : h' = h ∧ (d.hasDict = false → Dp W.K H x d ∧ d.canLay0 = true) ∧ Dq W.K H x d := by
  cases v with
  | d y =>
    obtain ⟨rfl, rfl⟩ := pure_inv e
    exact ⟨rfl, fun nd => ⟨RepD.dp _ x r nd, RepD.can _ x r nd⟩, RepD.dq _ x r⟩
  | r i =>
    obtain ⟨ds, h1, e1, e2⟩ := bind_inv (show (lstD i >>= fun ds => (pure (.list ds) : M PD)) h = .ok d h' from e)
    obtain ⟨rfl, k, kq⟩ := lstD_inv a r e1
    obtain ⟨rfl, rfl⟩ := pure_inv e2
    refine ⟨rfl, fun nd => ?_, kq⟩
    obtain ⟨k1, k2⟩ := k (by simpa [PyData.hasDict] using nd)
    exact ⟨k1, by simpa [PyData.canLay0] using k2⟩
/-- two data under a test -/
theorem s_eqM {o : Cop} {b : Bool} (f : ∀ v w, cop o v w = (datV v >>= fun d => datV w >>= fun e => if eqOk d e = true then bl (if b then PyData.eqv d e else !PyData.eqv d e) else bad)) : R2S W (fun x y H Q => rEqM W.K b x y H Q ∨ rEqD W.K b x y H Q) (cop o) := by
  intro φ h H x y v w z h' Q a rx ry e k
  rw [f] at e
  obtain ⟨d, i1, e1, e2⟩ := bind_inv e
  obtain ⟨d', i2, e3, e4⟩ := bind_inv e2
  obtain ⟨c, e5⟩ := ite_inv e4
  obtain ⟨rfl, k1, g1⟩ := datV_inv a rx e1
  obtain ⟨rfl, k2, g2⟩ := datV_inv a ry e3
  obtain ⟨rfl, rfl⟩ := pure_inv e5
  rcases eqOk_inv c with ⟨c1, c2, c3⟩ | ⟨c1, c2⟩
  · exact .inl ⟨d, d', (k1 c1).1, (k2 c2).1, (k1 c1).2, (k2 c2).2, c3, k.bl a⟩
  · exact .inr ⟨d, d', g1, g2, c1, c2, k.bl a⟩
theorem s_int_cmp {o : Cop} {p : Int → Int → Bool} (f : ∀ v w h z h', cop o v w h = .ok z h' → ∃ i j, v = .d (.int i) ∧ w = .d (.int j) ∧ z = .d (.bool (p i j)) ∧ h' = h) : R2S W (rI0 fun i j => .bl (p i j)) (cop o) := by
  intro φ h H x y v w z h' Q a rx ry e k
  obtain ⟨i, j, rfl, rfl, rfl, rfl⟩ := f v w h z h' e
  cases rx.d.int_inv
  cases ry.d.int_inv
  exact ⟨i, j, rfl, rfl, k.bl a⟩
/-! dicts whose keys are tuples -/
theorem keysOf_rep {K : PySem.W.Frag} {A : Addr → Prop} : ∀ {ds : List PD} {xs : List V} {ks : List Key}, RepDs K A H xs ds → keysOf ds = some ks → xs = ks.map kV
  | [], _, ks, .nil, e => by cases e; rfl
  | d :: ds, _, ks, .cons r t, e => by
    obtain ⟨k, e1, e2⟩ := Option.bind_eq_some_iff.mp (show (keyOf d).bind (fun k => (keysOf ds).map (k :: ·)) = some ks from e)
    obtain ⟨rest, e3, rfl⟩ := Option.map_eq_some_iff.mp e2
    rw [List.map_cons, keysOf_rep t e3]
    congr 1
    cases d <;> first | (cases e1; done) | skip
    · cases e1; exact r.int_inv
    · cases e1; exact r.str_inv.1
theorem last_rep {K : PySem.W.Frag} {A : Addr → Prop} {ds : List PD} {xs : List V} (r : RepDs K A H xs ds) (e : lastS ds = true) : ∃ z, xs.getLast? = some (.str z) := by
  unfold lastS at e
  cases q : ds.getLast? with
  | none => rw [q] at e; cases e
  | some d =>
    rw [q] at e
    cases d <;> first | (cases e; done) | skip
    rw [List.getLast?_eq_getElem?] at q
    obtain ⟨x, e1, r1⟩ := r.get q
    rw [List.getLast?_eq_getElem?, r.length]
    exact ⟨_, by rw [e1, r1.str_inv.1]⟩
theorem last_vals {xs : List V} {us : List Value} (r : Vals xs us) {z : Str} (e : xs.getLast? = some (.str z)) : ∃ t, us.getLast? = some (.str z t) := by
  rw [List.getLast?_eq_getElem?] at e
  have hl := Paired.length r
  obtain ⟨u, e1, t, rfl⟩ := (show ∃ u, us[xs.length - 1]? = some u ∧ RelV (.str z) u from by
    have go : ∀ {xs : List V} {us : List Value}, Vals xs us → ∀ {i : Nat} {x : V}, xs[i]? = some x → ∃ u, us[i]? = some u ∧ RelV x u := by
      intro xs
      induction xs with
      | nil => intro us r i x e; simp at e
      | cons y ys ih =>
        intro us r i x e
        cases r with
        | cons r t =>
          cases i with
          | zero => simp at e; subst e; exact ⟨_, rfl, r⟩
          | succ i =>
            obtain ⟨u, e1, e2⟩ := ih t (by simpa using e)
            exact ⟨u, by simpa using e1, e2⟩
    exact go r e)
  exact ⟨t, by rw [List.getLast?_eq_getElem?, ← hl]; exact e1⟩
theorem keyT_rep (tk : TkOk W.K) {A : Addr → Prop} {x : V} {d : PD} {ks : List Key} (r : RepD W.K A H x d) (e : keyT d = some ks) : ∃ b, x = .ref b ∧ H b = some (.tup (ks.map kV)) := by
  cases d <;> first | (cases e; done) | skip
  rename_i ds
  have e' : (if lastS ds = true then keysOf ds else none) = some ks := e
  by_cases c : lastS ds = true
  · rw [if_pos c] at e'
    obtain ⟨a, xs, rfl, f, l, rs⟩ := r.tup_inv
    have ex := keysOf_rep rs e'
    subst ex
    rcases f with f | ⟨o, its, n, e1, e2, e3, _, rv⟩
    · exact ⟨a, rfl, f.1⟩
    · exfalso
      obtain ⟨z, ez⟩ := last_rep rs c
      obtain ⟨t, et⟩ := last_vals rv ez
      have := tk a o e1
      unfold endS at this
      rw [e2, e3] at this
      simp only [et] at this
      cases this
  · rw [if_neg c] at e'
    cases e'
abbrev RepT (W : Wo) (φ : Ph) (h : Hs) (H : Hp) : List (List Key × V) → List (List Key × Val) → Prop := Paired (fun p q => p.1 = q.1 ∧ RepV W φ h H p.2 q.2)
theorem RepT.look {k : List Key} : ∀ {ws : List (List Key × V)} {kvs : List (List Key × Val)}, RepT W φ h H ws kvs → ∀ {v : Val}, lookT k kvs = some v → ∃ x, valV ws k = some x ∧ RepV W φ h H x v
  | _, _, .nil, v, e => by cases e
  | (p1, p2) :: ws, (j, x) :: kvs, .cons ⟨q1, q2⟩ t, v, e => by
    have q1 : p1 = j := q1
    subst q1
    have e : (if p1 = k then some x else lookT k kvs) = some v := e
    by_cases c : p1 = k
    · rw [if_pos c] at e
      cases e
      exact ⟨p2, valV_pos c, q2⟩
    · rw [if_neg c] at e
      obtain ⟨y, e1, e2⟩ := RepT.look t e
      exact ⟨y, by rw [valV_neg c]; exact e1, e2⟩
theorem RepT.look_none {k : List Key} : ∀ {ws : List (List Key × V)} {kvs : List (List Key × Val)}, RepT W φ h H ws kvs → lookT k kvs = none → valV ws k = none
  | _, _, .nil, e => valV_nil
  | (p1, p2) :: ws, (j, x) :: kvs, .cons ⟨q1, q2⟩ t, e => by
    have q1 : p1 = j := q1
    subst q1
    have e : (if p1 = k then some x else lookT k kvs) = none := e
    by_cases c : p1 = k
    · rw [if_pos c] at e
      cases e
    · rw [if_neg c] at e
      rw [valV_neg c]
      exact RepT.look_none t e
theorem op_in_d (hu : X.A.units + 1 < cLine) : OpR X (compareOp .In) (fun x y H Q => ∃ a o, y = .ref a ∧ DGet H a x o ∧ Q (.bl o.isSome) H) := by
  intro pins s σ H x y v u Q I rx ry h
  obtain ⟨a, o, rfl, g, q⟩ := h
  cases ry
  exact d_in hu I g rx fun s' I' => ⟨.bl _, _, I', rfl, q⟩
theorem op_notin_d (hu : X.A.units + 1 < cLine) : OpR X (compareOp .NotIn) (fun x y H Q => ∃ a o, y = .ref a ∧ DGet H a x o ∧ Q (.bl (!o.isSome)) H) := by
  intro pins s σ H x y v u Q I rx ry h
  obtain ⟨a, o, rfl, g, q⟩ := h
  cases ry
  exact d_notIn hu I g rx fun s' I' => ⟨.bl _, _, I', rfl, q⟩
/-- in of an object -/
theorem inR_inv (a : AbsH W φ h H) {i : Nat} {x y : V} {v : PD} {b : Bool} {o : AO} (rx : RepD W.K (Al φ h) H x v) (ry : RepV W φ h H y (.r i)) (eo : h[i]? = some o) (e : inR o v h = .ok b h') : h' = h ∧
    ((∃ ds, lstD i h = .ok ds h ∧ inOk ds v = true ∧ b = ds.any fun y => y.eqv v) ∨ ∃ p r, y = .ref p ∧ DGet H p x r ∧ b = r.isSome) := by
  have old : (itemsO o >>= fun xs => optM (dats xs) >>= fun ys => if inOk ys v = true then (pure (ys.any fun y => y.eqv v) : M Bool) else bad) h = .ok b h' → h' = h ∧ ((∃ ds, lstD i h = .ok ds h ∧ inOk ds v = true ∧ b = ds.any fun y => y.eqv v) ∨ ∃ p r, y = .ref p ∧ DGet H p x r ∧ b = r.isSome) := fun e => by
    obtain ⟨xs, h1, e1, e2⟩ := bind_inv e
    obtain ⟨rfl, rfl⟩ := itemsO_inv e1
    obtain ⟨ys, h2, e3, e4⟩ := bind_inv e2
    obtain ⟨rfl, e5⟩ := optM_inv e3
    obtain ⟨c, e6⟩ := ite_inv e4
    obtain ⟨rfl, rfl⟩ := pure_inv e6
    refine ⟨rfl, .inl ⟨ys, ?_, c, rfl⟩⟩
    show (getO i >>= fun o => itemsO o >>= fun xs => optM (dats xs)) _ = _
    rw [bind_ap, getO_ap eo, bnd_ok, bind_ap, show itemsO (.lst xs) _ = .ok xs _ from rfl, bnd_ok, e5]
    rfl
  cases o with
  | dtt kvs =>
    obtain ⟨q, h1, e1, e2⟩ := bind_inv (show (optM (keyT v) >>= fun q => (pure (lookT q kvs).isSome : M Bool)) h = .ok b h' from e)
    obtain ⟨rfl, e3⟩ := optM_inv e1
    obtain ⟨rfl, rfl⟩ := pure_inv e2
    obtain ⟨p, ep, rfl⟩ := ry
    obtain ⟨tk, ws, e5, l, rr⟩ := a.ob i p _ ep eo
    obtain ⟨bk, rfl, eb⟩ := keyT_rep tk rx e3
    refine ⟨rfl, .inr ⟨p, valV ws q, rfl, .t e5 eb, ?_⟩⟩
    cases c : lookT q kvs with
    | none => rw [RepT.look_none rr c]; rfl
    | some v => obtain ⟨x, e6, _⟩ := RepT.look rr c; rw [e6]; rfl
  | lst => exact old e
  | dct => exact old e
  | ins => exact old e
  | dead => exact old e
theorem op_cop (hK : X.K = W.K) (hu : X.A.units + 65 < cLine) (o : Cop) : ∃ r, OpR X (compareOp (copO o)) r ∧ R2S W r (cop o) := by
  cases o with
  | eq => exact ⟨_, OpR.or (op_eqM (by omega)) (op_eqD (by omega)), hK ▸ s_eqM fun v w => rfl⟩
  | ne => exact ⟨_, OpR.or (op_neM (by omega)) (op_neD (by omega)), hK ▸ s_eqM fun v w => rfl⟩
  | lt =>
    refine ⟨_, OpR.or op_lt op_lt_str, ?_⟩
    intro φ h H x y v w z h' Q a rx ry e k
    cases v <;> (try (rename_i x; cases x)) <;> cases w <;> (try (rename_i y; cases y)) <;> first | (exact bad_ne e) | skip
    · cases e
      cases rx.d.int_inv
      cases ry.d.int_inv
      exact .inl ⟨_, _, rfl, rfl, k.bl a⟩
    · cases e
      obtain ⟨rfl, _, _⟩ := rx.d.str_inv
      obtain ⟨rfl, _, _⟩ := ry.d.str_inv
      exact .inr ⟨_, _, rfl, rfl, k.bl a⟩
  | le =>
    refine ⟨_, op_le, s_int_cmp fun v w h z h' e => ?_⟩
    cases v <;> (try (rename_i x; cases x)) <;> cases w <;> (try (rename_i y; cases y)) <;> first | (exact bad_ne e) | skip
    cases e
    exact ⟨_, _, rfl, rfl, rfl, rfl⟩
  | gt =>
    refine ⟨_, op_gt, s_int_cmp fun v w h z h' e => ?_⟩
    cases v <;> (try (rename_i x; cases x)) <;> cases w <;> (try (rename_i y; cases y)) <;> first | (exact bad_ne e) | skip
    cases e
    exact ⟨_, _, rfl, rfl, rfl, rfl⟩
  | ge =>
    refine ⟨_, op_ge, s_int_cmp fun v w h z h' e => ?_⟩
    cases v <;> (try (rename_i x; cases x)) <;> cases w <;> (try (rename_i y; cases y)) <;> first | (exact bad_ne e) | skip
    cases e
    exact ⟨_, _, rfl, rfl, rfl, rfl⟩
  | is =>
    refine ⟨_, OpR.or op_isN op_isBl, ?_⟩
    intro φ h H x y v w z h' Q a rx ry e k
    cases w with
    | r => cases v <;> (try (rename_i x; cases x)) <;> exact bad_ne e
    | d w =>
      cases w with
      | bool b =>
        cases v <;> (try (rename_i x; cases x)) <;> first | (exact bad_ne e) | skip
        cases e
        cases rx.d.bool_inv
        cases ry.d.bool_inv
        exact .inr ⟨_, _, rfl, rfl, k.bl a⟩
      | none =>
        cases ry.d
        refine .inl ⟨rfl, ?_⟩
        cases v with
        | r i => obtain ⟨p, _, rfl⟩ := rx; cases e; exact k.bl a
        | d v =>
          have rx' := rx.d
          cases rx' <;> (cases e; exact k.bl a)
      | _ => cases v <;> (try (rename_i x; cases x)) <;> exact bad_ne e
  | isnot =>
    refine ⟨_, OpR.or op_notN op_notBl, ?_⟩
    intro φ h H x y v w z h' Q a rx ry e k
    cases w with
    | r => cases v <;> (try (rename_i x; cases x)) <;> exact bad_ne e
    | d w =>
      cases w with
      | bool b =>
        cases v <;> (try (rename_i x; cases x)) <;> first | (exact bad_ne e) | skip
        cases e
        cases rx.d.bool_inv
        cases ry.d.bool_inv
        exact .inr ⟨_, _, rfl, rfl, k.bl a⟩
      | none =>
        cases ry.d
        refine .inl ⟨rfl, ?_⟩
        cases v with
        | r i => obtain ⟨p, _, rfl⟩ := rx; cases e; exact k.bl a
        | d v =>
          have rx' := rx.d
          cases rx' <;> (cases e; exact k.bl a)
      | _ => cases v <;> (try (rename_i x; cases x)) <;> exact bad_ne e
  | isin =>
    refine ⟨_, OpR.or (OpR.or (OpR.or op_in_str (op_inM hu)) (op_inD hu)) (op_in_d (by omega)), ?_⟩
    intro φ h H x y v w z h' Q a rx ry e k
    have seqs : ∀ (d : PD) (ds : List PD), v = .d d → (w = .d (.list ds) ∨ w = .d (.tuple ds)) → (if inOk ds d = true then bl (ds.any fun y => y.eqv d) else bad) h = .ok z h' → rInM X.K true x y H Q ∨ rInD X.K true x y H Q := fun d ds e1 e2 e3 => by
      subst e1
      obtain ⟨c, e3⟩ := ite_inv e3
      cases e3
      rcases inOk_inv c with ⟨c1, c2, c3⟩ | c1
      case inr =>
        rcases e2 with rfl | rfl
        · exact .inr ⟨d, ds, hK ▸ RepD.dq d x rx, .inl (hK ▸ RepD.dq _ y ry), c1, k.bl a⟩
        · exact .inr ⟨d, ds, hK ▸ RepD.dq d x rx, .inr (hK ▸ RepD.dq _ y ry), c1, k.bl a⟩
      rcases e2 with rfl | rfl
      · have q := RepD.can _ y ry (by simpa [PyData.hasDict] using c1)
        exact .inl ⟨d, ds, hK ▸ RepD.dp d x rx c2, .inl (hK ▸ RepD.dp _ y ry (by simpa [PyData.hasDict] using c1)), by simpa [PyData.canLay0] using q, RepD.can d x rx c2, c3, k.bl a⟩
      · have q := RepD.can _ y ry (by simpa [PyData.hasDict] using c1)
        exact .inl ⟨d, ds, hK ▸ RepD.dp d x rx c2, .inr (hK ▸ RepD.dp _ y ry (by simpa [PyData.hasDict] using c1)), by simpa [PyData.canLay0] using q, RepD.can d x rx c2, c3, k.bl a⟩
    cases w with
    | r i =>
      cases v with
      | r => exact bad_ne e
      | d v =>
        have e' : (getO i >>= fun o => inR o v >>= fun b => bl (b)) h = .ok z h' := by cases v <;> exact e
        obtain ⟨o, h1, e1, e2⟩ := bind_inv e'
        obtain ⟨rfl, eo⟩ := getO_inv e1
        obtain ⟨b, h2, e3, e4⟩ := bind_inv e2
        obtain ⟨rfl, e5⟩ := inR_inv a rx ry eo e3
        obtain ⟨rfl, rfl⟩ := pure_inv e4
        rcases e5 with ⟨ds, e6, c, rfl⟩ | ⟨p, r, rfl, g, rfl⟩
        · obtain ⟨_, q, g⟩ := lstD_inv a ry e6
          rcases inOk_inv c with ⟨c1, c2, c3⟩ | c1
          · obtain ⟨q1, q2⟩ := q c1
            exact .inl (.inl (.inr ⟨v, ds, hK ▸ RepD.dp v x rx c2, .inl (hK ▸ q1), q2, RepD.can v x rx c2, c3, k.bl a⟩))
          · exact .inl (.inr ⟨v, ds, hK ▸ RepD.dq v x rx, .inl (hK ▸ g), c1, k.bl a⟩)
        · exact .inr ⟨p, r, rfl, g, k.bl a⟩
    | d w =>
      cases v with
      | r => cases w <;> exact bad_ne e
      | d v =>
        cases w with
        | list ds => exact .inl ((seqs v ds rfl (.inl rfl) (by cases v <;> exact e)).elim (fun z => .inl (.inr z)) .inr)
        | tuple ds => exact .inl ((seqs v ds rfl (.inr rfl) (by cases v <;> exact e)).elim (fun z => .inl (.inr z)) .inr)
        | str t =>
          cases v <;> first | (exact bad_ne e) | skip
          cases e
          obtain ⟨rfl, _, _⟩ := rx.d.str_inv
          obtain ⟨rfl, _, _⟩ := ry.d.str_inv
          exact .inl (.inl (.inl ⟨_, _, rfl, rfl, k.bl a⟩))
        | _ => cases v <;> exact bad_ne e
  | notin =>
    refine ⟨_, OpR.or (OpR.or (OpR.or L2.op_notin_str (op_notInM hu)) (op_notInD hu)) (op_notin_d (by omega)), ?_⟩
    intro φ h H x y v w z h' Q a rx ry e k
    have seqs : ∀ (d : PD) (ds : List PD), v = .d d → (w = .d (.list ds) ∨ w = .d (.tuple ds)) → (if inOk ds d = true then bl (!(ds.any fun y => y.eqv d)) else bad) h = .ok z h' → rInM X.K false x y H Q ∨ rInD X.K false x y H Q := fun d ds e1 e2 e3 => by
      subst e1
      obtain ⟨c, e3⟩ := ite_inv e3
      cases e3
      rcases inOk_inv c with ⟨c1, c2, c3⟩ | c1
      case inr =>
        rcases e2 with rfl | rfl
        · exact .inr ⟨d, ds, hK ▸ RepD.dq d x rx, .inl (hK ▸ RepD.dq _ y ry), c1, k.bl a⟩
        · exact .inr ⟨d, ds, hK ▸ RepD.dq d x rx, .inr (hK ▸ RepD.dq _ y ry), c1, k.bl a⟩
      rcases e2 with rfl | rfl
      · have q := RepD.can _ y ry (by simpa [PyData.hasDict] using c1)
        exact .inl ⟨d, ds, hK ▸ RepD.dp d x rx c2, .inl (hK ▸ RepD.dp _ y ry (by simpa [PyData.hasDict] using c1)), by simpa [PyData.canLay0] using q, RepD.can d x rx c2, c3, k.bl a⟩
      · have q := RepD.can _ y ry (by simpa [PyData.hasDict] using c1)
        exact .inl ⟨d, ds, hK ▸ RepD.dp d x rx c2, .inr (hK ▸ RepD.dp _ y ry (by simpa [PyData.hasDict] using c1)), by simpa [PyData.canLay0] using q, RepD.can d x rx c2, c3, k.bl a⟩
    cases w with
    | r i =>
      cases v with
      | r => exact bad_ne e
      | d v =>
        have e' : (getO i >>= fun o => inR o v >>= fun b => bl (!b)) h = .ok z h' := by cases v <;> exact e
        obtain ⟨o, h1, e1, e2⟩ := bind_inv e'
        obtain ⟨rfl, eo⟩ := getO_inv e1
        obtain ⟨b, h2, e3, e4⟩ := bind_inv e2
        obtain ⟨rfl, e5⟩ := inR_inv a rx ry eo e3
        obtain ⟨rfl, rfl⟩ := pure_inv e4
        rcases e5 with ⟨ds, e6, c, rfl⟩ | ⟨p, r, rfl, g, rfl⟩
        · obtain ⟨_, q, g⟩ := lstD_inv a ry e6
          rcases inOk_inv c with ⟨c1, c2, c3⟩ | c1
          · obtain ⟨q1, q2⟩ := q c1
            exact .inl (.inl (.inr ⟨v, ds, hK ▸ RepD.dp v x rx c2, .inl (hK ▸ q1), q2, RepD.can v x rx c2, c3, k.bl a⟩))
          · exact .inl (.inr ⟨v, ds, hK ▸ RepD.dq v x rx, .inl (hK ▸ g), c1, k.bl a⟩)
        · exact .inr ⟨p, r, rfl, g, k.bl a⟩
    | d w =>
      cases v with
      | r => cases w <;> exact bad_ne e
      | d v =>
        cases w with
        | list ds => exact .inl ((seqs v ds rfl (.inl rfl) (by cases v <;> exact e)).elim (fun z => .inl (.inr z)) .inr)
        | tuple ds => exact .inl ((seqs v ds rfl (.inr rfl) (by cases v <;> exact e)).elim (fun z => .inl (.inr z)) .inr)
        | str t =>
          cases v <;> first | (exact bad_ne e) | skip
          cases e
          obtain ⟨rfl, _, _⟩ := rx.d.str_inv
          obtain ⟨rfl, _, _⟩ := ry.d.str_inv
          exact .inl (.inl (.inl ⟨_, _, rfl, rfl, k.bl a⟩))
        | _ => cases v <;> exact bad_ne e
end
end Nv
set_option Elab.async false
set_option linter.all false
set_option maxRecDepth 100000
/-! N5: truth, items, built-in functions, methods. -/
namespace Nv
open PySem L2 PyProof.Rows

section
variable {W : Wo} {X : Cx} {φ φ' : Ph} {h h' : Hs} {H H' : Hp}
theorem RepDs.nil_iff {K : PySem.W.Frag} {A : Addr → Prop} {xs : List V} {ds : List PD} (r : RepDs K A H xs ds) : (!ds.isEmpty) = !xs.isEmpty := by
  cases r <;> rfl
theorem RepVs.nil_iff {xs : List V} {vs : List Val} (r : RepVs W φ h H xs vs) : (!vs.isEmpty) = !xs.isEmpty := by
  cases r <;> rfl
/-! ### truth -/
theorem truth_inv (a : AbsH W φ h H) {x : V} {v : Val} {b : Bool} (r : RepV W φ h H x v) (e : truth v h = .ok b h') : h' = h ∧ TruV W.K x H b := by
  cases v with
  | d d =>
    have r' := r.d
    cases r' with
    | non => cases e; exact ⟨rfl, rfl⟩
    | bl => cases e; exact ⟨rfl, rfl⟩
    | int => cases e; exact ⟨rfl, rfl⟩
    | str _ hx => cases e; exact ⟨rfl, hx, rfl⟩
    | lst f l r2 => cases e; exact ⟨rfl, .inl ⟨_, f.sq, r2.nil_iff⟩⟩
    | tup f l r2 => cases e; exact ⟨rfl, .inr (.inl ⟨_, f.sq, r2.nil_iff⟩)⟩
    | dct => exact bad_ne e
  | r i =>
    obtain ⟨p, ep, rfl⟩ := r
    obtain ⟨o, h1, e1, e2⟩ := bind_inv (show (getO i >>= fun o => truthO o) h = .ok b h' from e)
    obtain ⟨rfl, eo⟩ := getO_inv e1
    cases o with
    | lst xs =>
      cases e2
      obtain ⟨ws, f1, l, r⟩ := a.ob i p _ ep eo
      exact ⟨rfl, .inl ⟨ws, .inl (.inl f1), r.nil_iff⟩⟩
    | dct => exact bad_ne e2
    | ins => exact bad_ne e2
    | dtt => exact bad_ne e2
    | dead => exact bad_ne e2
/-! ### items -/
theorem RepDs.atI {K : PySem.W.Frag} {A : Addr → Prop} {xs : List V} {ds : List PD} (r : RepDs K A H xs ds) {i : Int} {d : PD} (e : L2.atI ds i = some d) : ∃ x, L2.atI xs i = some x ∧ RepD K A H x d := by
  unfold L2.atI at *
  rw [r.length]
  cases q : ixN ds.length i with
  | none => rw [q] at e; cases e
  | some j =>
    rw [q] at e
    exact r.get (i := j) e
theorem RepVs.get : ∀ {xs : List V} {vs : List Val}, RepVs W φ h H xs vs → ∀ {i : Nat} {v : Val}, vs[i]? = some v → ∃ x, xs[i]? = some x ∧ RepV W φ h H x v
  | _, _, .nil, _, _, e => by simp at e
  | _, _, .cons h t, 0, _, e => by simp at e; subst e; exact ⟨_, rfl, h⟩
  | _, _, .cons h t, i + 1, _, e => by
    obtain ⟨x, h1, h2⟩ := RepVs.get t (i := i) (by simpa using e)
    exact ⟨x, by simpa using h1, h2⟩
theorem RepVs.atI {xs : List V} {vs : List Val} (r : RepVs W φ h H xs vs) {i : Int} {v : Val} (e : L2.atI vs i = some v) : ∃ x, L2.atI xs i = some x ∧ RepV W φ h H x v := by
  unfold L2.atI at *
  rw [RepVs.length r]
  cases q : ixN vs.length i with
  | none => rw [q] at e; cases e
  | some j =>
    rw [q] at e
    exact RepVs.get r (i := j) e
/-- keys -/
theorem keyOf_inv {K : PySem.W.Frag} {A : Addr → Prop} {x : V} {d : PD} {k : Key} (r : RepD K A H x d) (e : keyOf d = some k) : x = kV k ∧ ∀ z, k = .inr z → z.length ≤ sizeLine ∧ ascOk z = true := by
  cases r with
  | int i => cases e; exact ⟨rfl, fun z q => nomatch q⟩
  | str x l o => cases e; exact ⟨rfl, fun z q => by cases q; exact ⟨l, o⟩⟩
  | non => cases e
  | bl => cases e
  | lst => cases e
  | tup => cases e
  | dct => cases e
theorem keyOf_kD (k : Key) : keyOf (kD k) = some k := by cases k <;> rfl
theorem RepKs.look {K : PySem.W.Frag} {A : Addr → Prop} {k : Key} : ∀ {xs : List (Key × V)} {ds : List (PD × PD)}, RepKs K A H xs ds → ∀ {d : PD}, lookD k ds = some d → ∃ x, valV xs k = some x ∧ RepD K A H x d
  | _, _, .nil, _, e => by cases e
  | _, _, .cons (k := j) hk r t, d, e => by
    simp only [lookD, keyOf_kD, Option.some.injEq] at e
    by_cases q : j = k
    · rw [if_pos q] at e
      cases e
      exact ⟨_, valV_pos q, r⟩
    · rw [if_neg q] at e
      obtain ⟨x, e1, r1⟩ := t.look e
      exact ⟨x, by rw [valV_neg q]; exact e1, r1⟩
theorem RepKs.look_none {K : PySem.W.Frag} {A : Addr → Prop} {k : Key} : ∀ {xs : List (Key × V)} {ds : List (PD × PD)}, RepKs K A H xs ds → lookD k ds = none → valV xs k = none
  | _, _, .nil, e => valV_nil
  | _, _, .cons (k := j) hk r t, e => by
    simp only [lookD, keyOf_kD, Option.some.injEq] at e
    by_cases q : j = k
    · rw [if_pos q] at e
      cases e
    · rw [if_neg q] at e
      rw [valV_neg q]
      exact t.look_none e
abbrev KeyOk (k : Key) : Prop := ∀ z, k = .inr z → z.length ≤ sizeLine ∧ ascOk z = true
abbrev RepW (W : Wo) (φ : Ph) (h : Hs) (H : Hp) : List (Key × V) → List (Key × Val) → Prop := Paired (fun p q => p.1 = q.1 ∧ (∀ z, p.1 = .inr z → z.length ≤ sizeLine ∧ ascOk z = true) ∧ RepV W φ h H p.2 q.2)
theorem RepW.look {k : Key} : ∀ {xs : List (Key × V)} {ds : List (Key × Val)}, RepW W φ h H xs ds → ∀ {d : Val}, look k ds = some d → ∃ x, valV xs k = some x ∧ RepV W φ h H x d
  | _, _, .nil, _, e => by cases e
  | _, _, .cons (a := p) (b := q) r t, d, e => by
    obtain ⟨j, x⟩ := p
    obtain ⟨j', y⟩ := q
    obtain ⟨e1, hk, r1⟩ := r
    simp only at e1 r1
    subst e1
    simp only [Nv.look] at e
    by_cases q : j = k
    · rw [if_pos q] at e
      cases e
      exact ⟨_, valV_pos q, r1⟩
    · rw [if_neg q] at e
      obtain ⟨x, e1, r2⟩ := RepW.look t e
      exact ⟨x, by rw [valV_neg q]; exact e1, r2⟩
theorem RepW.look_none {k : Key} : ∀ {xs : List (Key × V)} {ds : List (Key × Val)}, RepW W φ h H xs ds → Nv.look k ds = none → valV xs k = none
  | _, _, .nil, _ => rfl
  | _, _, .cons (a := p) (b := q) r t, e => by
    obtain ⟨j, x⟩ := p
    obtain ⟨j', y⟩ := q
    obtain ⟨e1, hk, r1⟩ := r
    simp only at e1 r1
    subst e1
    simp only [Nv.look] at e
    by_cases q : j = k
    · rw [if_pos q] at e
      cases e
    · rw [if_neg q] at e
      rw [valV_neg q]
      exact RepW.look_none t e
theorem RepW.any {k : Key} : ∀ {xs : List (Key × V)} {ds : List (Key × Val)}, RepW W φ h H xs ds → (xs.any fun kv => decide (kv.1 = k)) = (ds.any fun kv => decide (kv.1 = k))
  | _, _, .nil => rfl
  | _, _, .cons r t => by rw [List.any_cons, List.any_cons, RepW.any t, r.1]
theorem RepW.set {k : Key} {u : V} {v : Val} (rv : RepV W φ h H u v) : ∀ {xs : List (Key × V)} {ds : List (Key × Val)}, RepW W φ h H xs ds →
    RepW W φ h H (xs.map fun kv => if kv.1 = k then (kv.1, u) else kv) (ds.map fun kv => if kv.1 = k then (kv.1, v) else kv)
  | _, _, .nil => .nil
  | _, _, .cons (a := p) (b := q) r t => by
    refine .cons ?_ (RepW.set rv t)
    dsimp only
    by_cases c : p.1 = k
    · rw [if_pos c, if_pos (r.1 ▸ c)]
      exact ⟨r.1, r.2.1, rv⟩
    · rw [if_neg c, if_neg (r.1 ▸ c)]
      exact r
theorem RepW.put {k : Key} {u : V} {v : Val} (rv : RepV W φ h H u v) (hk : KeyOk k) {xs : List (Key × V)} {ds : List (Key × Val)} (r : RepW W φ h H xs ds) : RepW W φ h H (putK xs k u) (put k v ds) := by
  unfold putK Nv.put
  rw [RepW.any r]
  by_cases c : (ds.any fun kv => decide (kv.1 = k)) = true
  · rw [if_pos c, if_pos c]
    exact RepW.set rv r
  · rw [if_neg c, if_neg c]
    exact paired_app r (.cons ⟨rfl, hk, rv⟩ .nil)
theorem RepT.any {k : List Key} : ∀ {xs : List (List Key × V)} {ds : List (List Key × Val)}, RepT W φ h H xs ds → (xs.any fun kv => decide (kv.1 = k)) = (ds.any fun kv => decide (kv.1 = k))
  | _, _, .nil => rfl
  | _, _, .cons r t => by rw [List.any_cons, List.any_cons, RepT.any t, r.1]
theorem RepT.set {k : List Key} {u : V} {v : Val} (rv : RepV W φ h H u v) : ∀ {xs : List (List Key × V)} {ds : List (List Key × Val)}, RepT W φ h H xs ds →
    RepT W φ h H (xs.map fun kv => if kv.1 = k then (kv.1, u) else kv) (ds.map fun kv => if kv.1 = k then (kv.1, v) else kv)
  | _, _, .nil => .nil
  | _, _, .cons (a := p) (b := q) r t => by
    refine .cons ?_ (RepT.set rv t)
    dsimp only
    by_cases c : p.1 = k
    · rw [if_pos c, if_pos (r.1 ▸ c)]
      exact ⟨r.1, rv⟩
    · rw [if_neg c, if_neg (r.1 ▸ c)]
      exact r
theorem RepT.put {k : List Key} {u : V} {v : Val} (rv : RepV W φ h H u v) {xs : List (List Key × V)} {ds : List (List Key × Val)} (r : RepT W φ h H xs ds) : RepT W φ h H (putK xs k u) (putT k v ds) := by
  unfold putK Nv.putT
  rw [RepT.any r]
  by_cases c : (ds.any fun kv => decide (kv.1 = k)) = true
  · rw [if_pos c, if_pos c]
    exact RepT.set rv r
  · rw [if_neg c, if_neg c]
    exact paired_app r (.cons ⟨rfl, rv⟩ .nil)
/-! ### x[i] -/
def rIxDict : R2 := fun x y H Q => ∃ a v, x = .ref a ∧ DGet H a y (some v) ∧ Q v H
theorem ix_dict (hu : X.A.units + 1 < cLine) : IxR X rIxDict := by
  intro value slice pins s σ H x y v u Q I rx ry h hs
  obtain ⟨a, z, rfl, g, q⟩ := h
  cases rx
  exact tail_any (dict_typeIs I g) PySem.F.slot_dict_getitem.lookup (d_getItem hu I g ry fun w' s' I' rw' => ⟨z, H, I', rw', q⟩) hs
def rIxA (K : PySem.W.Frag) : R2 := fun x y H Q => rIx K x y H Q ∨ rIxDict x y H Q
theorem ix_all (hu : X.A.units + 1 < cLine) : IxR X (rIxA X.K) := ix_seq.or (ix_dict hu)
theorem atI_map {α β : Type} (f : α → β) (xs : List α) (i : Int) : L2.atI (xs.map f) i = (L2.atI xs i).map f := by
  unfold L2.atI
  rw [List.length_map]
  cases ixN xs.length i with
  | none => rfl
  | some j => simp
theorem asc_mem {x : Str} {c : Nat} (h : ascOk x = true) (m : c ∈ x.cps.toList) : c < 128 := by
  unfold ascOk at h
  rw [← Array.all_toList, List.all_eq_true] at h
  simpa using h c m
theorem asc_of {l : List Nat} (h : ∀ c ∈ l, c < 128) : ascOk ⟨l.toArray⟩ = true := by
  unfold ascOk
  rw [← Array.all_toList, List.all_eq_true]
  intro c hc
  simpa using h c (by simpa using hc)
theorem asc_one {c : Nat} (h : c < 128) : ascOk ⟨#[c]⟩ = true := asc_of (l := [c]) (by simpa using h)
theorem atI_mem {α : Type} {xs : List α} {i : Int} {v : α} (h : L2.atI xs i = some v) : v ∈ xs := by
  unfold L2.atI at h
  cases q : ixN xs.length i with
  | none => rw [q] at h; cases h
  | some j => rw [q] at h; exact List.mem_of_getElem? h
theorem s_ix : R2S W (rIxA W.K) ixV := by
  intro φ h H x y v w z h' Q a rx ry e k
  cases v with
  | r i =>
    cases w with
    | r => exact bad_ne e
    | d w =>
      obtain ⟨p, ep, rfl⟩ := rx
      obtain ⟨o, h1, e1, e2⟩ := bind_inv (show (getO i >>= fun o => ixO o w) h = .ok z h' from e)
      obtain ⟨rfl, eo⟩ := getO_inv e1
      cases o with
      | lst xs =>
        cases w <;> first | (exact bad_ne e2) | skip
        obtain ⟨rfl, e3⟩ := optM_inv e2
        cases ry.d.int_inv
        obtain ⟨ws, f1, l, r⟩ := a.ob i p _ ep eo
        obtain ⟨u, f2, r2⟩ := RepVs.atI r e3
        exact .inl (.inl ⟨p, ws, _, u, rfl, rfl, .inl (.inl f1), f2, k.same a r2⟩)
      | dct kvs =>
        obtain ⟨q, h2, e3, e4⟩ := bind_inv (show (optM (keyOf w) >>= fun q => optM (look q kvs)) _ = .ok z h' from e2)
        obtain ⟨rfl, e5⟩ := optM_inv e3
        obtain ⟨rfl, e6⟩ := optM_inv e4
        obtain ⟨ws, f1, l, r⟩ := a.ob i p _ ep eo
        obtain ⟨u, f2, r2⟩ := RepW.look r e6
        refine .inr ⟨p, u, rfl, .inl ⟨ws, q, .inl f1, (keyOf_inv ry.d e5).1, f2.symm⟩, k.same a r2⟩
      | ins => cases w <;> exact bad_ne e2
      | dtt kvs =>
        obtain ⟨q, h2, e3, e4⟩ := bind_inv (show (optM (keyT w) >>= fun q => optM (lookT q kvs)) _ = .ok z h' from e2)
        obtain ⟨rfl, e5⟩ := optM_inv e3
        obtain ⟨rfl, e6⟩ := optM_inv e4
        obtain ⟨tk, ws, f1, l, r⟩ := a.ob i p _ ep eo
        obtain ⟨b, rfl, eb⟩ := keyT_rep tk ry.d e5
        obtain ⟨u, f2, r2⟩ := RepT.look r e6
        exact .inr ⟨p, u, rfl, f2 ▸ DGet.t f1 eb, k.same a r2⟩
      | dead => cases w <;> exact bad_ne e2
  | d v =>
    cases w with
    | r => cases v <;> exact bad_ne e
    | d w =>
      cases v with
      | none => exact bad_ne e
      | bool => exact bad_ne e
      | int => exact bad_ne e
      | list xs =>
        cases w <;> first | (exact bad_ne e) | skip
        obtain ⟨rfl, e3⟩ := optM_inv (show optM _ h = _ from e)
        simp only [Option.map_eq_some_iff] at e3
        obtain ⟨d, e4, rfl⟩ := e3
        cases ry.d.int_inv
        obtain ⟨p, us, rfl, f, l, r⟩ := rx.d.lst_inv
        obtain ⟨u, f2, r2⟩ := r.atI e4
        exact .inl (.inl ⟨p, us, _, u, rfl, rfl, f.sq, f2, k.same a r2⟩)
      | tuple xs =>
        cases w <;> first | (exact bad_ne e) | skip
        obtain ⟨rfl, e3⟩ := optM_inv (show optM _ h = _ from e)
        simp only [Option.map_eq_some_iff] at e3
        obtain ⟨d, e4, rfl⟩ := e3
        cases ry.d.int_inv
        obtain ⟨p, us, rfl, f, l, r⟩ := rx.d.tup_inv
        obtain ⟨u, f2, r2⟩ := r.atI e4
        exact .inl (.inr (.inl ⟨p, us, _, u, rfl, rfl, f.sq, f2, k.same a r2⟩))
      | str x =>
        cases w <;> first | (exact bad_ne e) | skip
        obtain ⟨rfl, e3⟩ := optM_inv (show optM _ h = _ from e)
        simp only [Option.map_eq_some_iff] at e3
        obtain ⟨c, e4, rfl⟩ := e3
        cases ry.d.int_inv
        obtain ⟨rfl, l, o⟩ := rx.d.str_inv
        exact .inl (.inr (.inr ⟨x, _, c, rfl, rfl, l, e4, k.str a (by show 1 ≤ sizeLine; decide) (asc_one (asc_mem o (atI_mem e4)))⟩))
      | dict kvs =>
        obtain ⟨q, h2, e3, e4⟩ := bind_inv (show (optM (keyOf w) >>= fun q => optM ((lookD q kvs).map Val.d)) _ = .ok z h' from e)
        obtain ⟨rfl, e6⟩ := optM_inv e3
        obtain ⟨rfl, e7⟩ := optM_inv e4
        simp only [Option.map_eq_some_iff] at e7
        obtain ⟨d, e5, rfl⟩ := e7
        obtain ⟨p, us, rfl, f, l, r⟩ := rx.d.dct_inv
        obtain ⟨u, f2, r2⟩ := r.look e5
        exact .inr ⟨p, u, rfl, .inl ⟨us, q, f.1, (keyOf_inv ry.d e6).1, f2.symm⟩, k.same a r2⟩
/-! ### x[i] = v -/
theorem RepVs.set {u : V} {v : Val} (rv : RepV W φ h H u v) : ∀ {xs : List V} {vs : List Val} (i : Nat), RepVs W φ h H xs vs → RepVs W φ h H (xs.set i u) (vs.set i v)
  | _, _, _, .nil => .nil
  | _, _, 0, .cons _ t => .cons rv t
  | _, _, i + 1, .cons r t => .cons r (RepVs.set rv i t)
/-- what is wanted behind a change of objects -/
def WntU (W : Wo) (φ : Ph) (h : Hs) (H : Hp) (h' : Hs) (Q : Hp → Prop) : Prop := ∀ φ' H', Grow φ h H φ' h' H' → AbsH W φ' h' H' → Q H'
/-- an object's list is written -/
theorem write_lst (a : AbsH W φ h H) {i : Nat} {p : Addr} {o : AO} {ys : List Val} {us : List V} (ep : φ.l[i]? = some p) (eo : h[i]? = some o) (n : o ≠ .dead) (l : us.length ≤ sizeLine) (r : RepVs W φ h H us ys) :
    Grow φ h H φ (h.set i (.lst ys)) (upd H p (.lst us)) ∧ AbsH W φ (h.set i (.lst ys)) (upd H p (.lst us)) := by
  have g : Grow φ h H φ (h.set i (.lst ys)) (upd H p (.lst us)) := Grow.write a ep eo n
  exact ⟨g, a.write ep eo n ⟨us, upd_same, l, RepVs.grow g r⟩⟩
theorem write_dct (a : AbsH W φ h H) {i : Nat} {p : Addr} {o : AO} {ys : List (Key × Val)} {us : List (Key × V)} (ep : φ.l[i]? = some p) (eo : h[i]? = some o) (n : o ≠ .dead) (l : us.length ≤ sizeLine) (r : RepW W φ h H us ys) :
    Grow φ h H φ (h.set i (.dct ys)) (upd H p (.dK us)) ∧ AbsH W φ (h.set i (.dct ys)) (upd H p (.dK us)) := by
  have g : Grow φ h H φ (h.set i (.dct ys)) (upd H p (.dK us)) := Grow.write a ep eo n
  exact ⟨g, a.write ep eo n ⟨us, upd_same, l, paired_imp (fun _ _ q => ⟨q.1, q.2.1, q.2.2.grow g⟩) r⟩⟩
theorem write_dtt (a : AbsH W φ h H) (tk : TkOk W.K) {i : Nat} {p : Addr} {o : AO} {ys : List (List Key × Val)} {us : List (List Key × V)} (ep : φ.l[i]? = some p) (eo : h[i]? = some o) (n : o ≠ .dead) (l : us.length ≤ sizeLine) (r : RepT W φ h H us ys) :
    Grow φ h H φ (h.set i (.dtt ys)) (upd H p (.dT us)) ∧ AbsH W φ (h.set i (.dtt ys)) (upd H p (.dT us)) := by
  have g : Grow φ h H φ (h.set i (.dtt ys)) (upd H p (.dT us)) := Grow.write a ep eo n
  exact ⟨g, a.write ep eo n ⟨tk, us, upd_same, l, paired_imp (fun _ _ q => ⟨q.1, q.2.grow g⟩) r⟩⟩
theorem dtt_ne {xs : List (List Key × Val)} : AO.dtt xs ≠ .dead := fun z => nomatch z
theorem lst_ne {xs : List Val} : AO.lst xs ≠ .dead := fun z => nomatch z
theorem dct_ne {xs : List (Key × Val)} : AO.dct xs ≠ .dead := fun z => nomatch z
/-- a list's or a dict's place is written -/
def rStA : TSet := fun o i v H Q => rSetL o i v H Q ∨ ∃ a H', o = .ref a ∧ DPut H a i v H' ∧ Q H'
theorem set_all (hu : X.A.units + 1 < cLine) : PSet X rStA := by
  intro pins s σ H o i v ov iv u Q I ro ri rv t
  rcases t with t | ⟨a, H', rfl, g, q⟩
  · exact set_list pins s σ H o i v ov iv u Q I ro ri rv t
  · cases ro
    exact d_setItem hu I g ri rv fun s' I' => ⟨H', I', q⟩
theorem s_st {o i v : V} {ov iv vv : Val} {Q : Hp → Prop} (a : AbsH W φ h H) (ro : RepV W φ h H o ov) (ri : RepV W φ h H i iv) (rv : RepV W φ h H v vv) (e : stV ov iv vv h = .ok () h') (k : WntU W φ h H h' Q) : rStA o i v H Q := by
  cases ov with
  | d => exact bad_ne e
  | r x =>
    cases iv with
    | r => exact bad_ne e
    | d d =>
      obtain ⟨p, ep, rfl⟩ := ro
      obtain ⟨ob, h1, e1, e2⟩ := bind_inv (show (getO x >>= fun o => stO o d vv >>= fun o' => setO x o') h = .ok () h' from e)
      obtain ⟨rfl, eo⟩ := getO_inv e1
      obtain ⟨o', h2, e3, e4⟩ := bind_inv e2
      cases ob with
      | lst xs =>
        cases d <;> first | (exact bad_ne e3) | skip
        obtain ⟨j, h3, e5, e6⟩ := bind_inv (show (optM (L2.ixN xs.length _) >>= fun j => (pure (.lst (xs.set j vv)) : M AO)) _ = .ok o' h2 from e3)
        obtain ⟨rfl, e7⟩ := optM_inv e5
        obtain ⟨rfl, rfl⟩ := pure_inv e6
        cases e4
        cases ri.d.int_inv
        obtain ⟨ws, f1, l, r⟩ := a.ob x p _ ep eo
        rw [← RepVs.length r] at e7
        refine .inl ⟨p, ws, _, j, rfl, rfl, f1, e7, ?_⟩
        obtain ⟨g, a'⟩ := write_lst (us := ws.set j v) a ep eo lst_ne (by rw [List.length_set]; exact l) (RepVs.set rv j r)
        exact k _ _ g a'
      | dct kvs =>
        obtain ⟨q, h3, e5, e6⟩ := bind_inv (show (optM (keyOf d) >>= fun q => (if kvs.length < lim then pure (.dct (put q vv kvs)) else bad : M AO)) _ = .ok o' h2 from e3)
        obtain ⟨rfl, e7⟩ := optM_inv e5
        obtain ⟨c, e8⟩ := ite_inv e6
        obtain ⟨rfl, rfl⟩ := pure_inv e8
        cases e4
        obtain ⟨ws, f1, l, r⟩ := a.ob x p _ ep eo
        obtain ⟨rfl, hk⟩ := keyOf_inv ri.d e7
        have hl : ws.length < sizeLine := by rw [Paired.length r]; exact c
        have r2 := RepW.put (k := q) rv hk r
        have l2 : (putK ws q v).length ≤ sizeLine := Nat.le_trans (length_putK ws q v) hl
        obtain ⟨g, a'⟩ := write_dct (us := putK ws q v) a ep eo dct_ne l2 r2
        exact .inr ⟨p, _, rfl, DPut.k f1 hl, k _ _ g a'⟩
      | dtt kvs =>
        obtain ⟨q, h3, e5, e6⟩ := bind_inv (show (optM (keyT d) >>= fun q => (if kvs.length < lim then pure (.dtt (putT q vv kvs)) else bad : M AO)) _ = .ok o' h2 from e3)
        obtain ⟨rfl, e7⟩ := optM_inv e5
        obtain ⟨c, e8⟩ := ite_inv e6
        obtain ⟨rfl, rfl⟩ := pure_inv e8
        cases e4
        obtain ⟨tk, ws, f1, l, r⟩ := a.ob x p _ ep eo
        obtain ⟨b, rfl, eb⟩ := keyT_rep tk ri.d e7
        have hl : ws.length < sizeLine := by rw [Paired.length r]; exact c
        have r2 := RepT.put (k := q) rv r
        have l2 : (putK ws q v).length ≤ sizeLine := Nat.le_trans (length_putK ws q v) hl
        obtain ⟨g, a'⟩ := write_dtt (us := putK ws q v) a tk ep eo dtt_ne l2 r2
        exact .inr ⟨p, _, rfl, DPut.t f1 eb hl, k _ _ g a'⟩
      | ins => cases d <;> exact bad_ne e3
      | dead => cases d <;> exact bad_ne e3
/-! ### slices -/
theorem RepVs.take : ∀ {xs : List V} {vs : List Val} (n : Nat), RepVs W φ h H xs vs → RepVs W φ h H (xs.take n) (vs.take n)
  | _, _, 0, _ => by simp; exact .nil
  | _, _, _ + 1, .nil => .nil
  | _, _, n + 1, .cons h t => .cons h (RepVs.take n t)
theorem RepVs.drop : ∀ {xs : List V} {vs : List Val} (n : Nat), RepVs W φ h H xs vs → RepVs W φ h H (xs.drop n) (vs.drop n)
  | _, _, 0, r => r
  | _, _, _ + 1, .nil => .nil
  | _, _, n + 1, .cons h t => RepVs.drop n t
theorem cut_len {α : Type} (xs : List α) (lo hi : Option Int) : (cut xs lo hi).length ≤ xs.length := by
  unfold cut
  rw [List.length_take, List.length_drop]
  omega
theorem RepVs.cut {xs : List V} {vs : List Val} (r : RepVs W φ h H xs vs) (lo hi : Option Int) : RepVs W φ h H (cutV xs lo hi) (cut vs lo hi) := by
  unfold cutV Nv.cut
  rw [RepVs.length r]
  exact RepVs.take _ (RepVs.drop _ r)
theorem RepDs.cut {K : PySem.W.Frag} {A : Addr → Prop} {xs : List V} {vs : List PD} (r : RepDs K A H xs vs) (lo hi : Option Int) : RepDs K A H (cutV xs lo hi) (cut vs lo hi) := by
  unfold cutV Nv.cut
  rw [RepDs.length r]
  exact RepDs.take _ (RepDs.drop _ r)
abbrev TSl := V → Option Int → Option Int → Hp → VK → Prop
def rSlAll (K : PySem.W.Frag) : TSl := fun x lo hi H Q => (rSlL K x lo hi H Q ∨ rSlA K x lo hi H Q) ∨ rSlS x lo hi H Q
theorem sl_all : SlR X (rSlAll X.K) := SlR.or (SlR.or sl_list sl_tupA) sl_str
theorem s_sl {m : Bool} {x : V} {v z : Val} {lo hi : Option Int} {Q : VK} (a : AbsH W φ h H) (rx : RepV W φ h H x v) (e : slV m v lo hi h = .ok z h') (k : Wnt W φ h H z h' Q) : rSlAll W.K x lo hi H Q := by
  have lists : (∀ ds, v ≠ .d (.tuple ds)) → (seqOf v >>= fun xs => mkL m (cut xs lo hi)) h = .ok z h' → rSlAll W.K x lo hi H Q := fun nt e => by
    obtain ⟨xs, h1, e1, e2⟩ := bind_inv e
    obtain ⟨rfl, p, us, rfl, l, r, t⟩ := seqOf_inv a rx e1
    have g := t.elim (fun z => z.2) fun ⟨ds, z, _⟩ => absurd z (nt ds)
    exact .inl (.inl ⟨p, us, rfl, .inl g, fun b hb => mkL_want e2 k a (Nat.le_trans (cutV_length _ _ _) l) (RepVs.cut r lo hi) hb⟩)
  cases v with
  | r i => exact lists (fun _ z => nomatch z) e
  | d v =>
    cases v with
    | tuple ds =>
      cases e
      obtain ⟨p, us, rfl, f, l, r⟩ := rx.d.tup_inv
      refine .inl (.inr ⟨p, us, rfl, f.sq, fun c => ?_, fun _ b hb => k.tup a (Nat.le_trans (cutV_length _ _ _) l) (r.cut lo hi) hb⟩)
      refine k.same a ?_
      have e1 : Nv.cut ds lo hi = ds := by
        unfold Nv.cut
        rw [← r.length, c.1, c.2]
        simp [r.length]
      rw [e1]
      exact rx
    | str x =>
      cases e
      obtain ⟨rfl, l, o⟩ := rx.d.str_inv
      refine .inr ⟨x, rfl, l, k.str a ?_ ?_⟩
      · unfold L2.cutS
        show (List.toArray _).size ≤ _
        rw [List.size_toArray, List.length_take, List.length_drop]
        have : x.cps.toList.length = x.length := by simp [Str.length]
        omega
      · refine asc_of fun c hc => asc_mem o ?_
        exact List.mem_of_mem_drop (List.mem_of_mem_take hc)
    | list => exact lists (fun _ z => nomatch z) e
    | none => exact bad_ne e
    | bool => exact bad_ne e
    | int => exact bad_ne e
    | dict => exact bad_ne e
end
end Nv
set_option Elab.async false
set_option linter.all false
set_option maxRecDepth 100000
/-! N6r: repr of data with dicts in them. -/
namespace Nv
open PySem PySem.Spec
mutual
/-- read off the heap; a dict is not the interpreter's own one -/
inductive Rn (h : Heap) : Value → PD → Prop
  | non : Rn h .none .none
  | bl (b : Bool) : Rn h (.bool b) (.bool b)
  | int (i : Int) (t : Tok) : Rn h (.int i t) (.int i)
  | str (x : Str) (t : Tok) : Rn h (.str x t) (.str x)
  | lst {a : Addr} {o : Obj} {vs : Array Value} {n : Nat} {xs : List PD} : h.get? a = some o → o.cls = .type "list" → o.data = .seq vs n → Rns h vs.toList xs → Rn h (.ref a) (.list xs)
  | tup {a : Addr} {o : Obj} {vs : Array Value} {n : Nat} {xs : List PD} : h.get? a = some o → o.cls = .type "tuple" → o.data = .seq vs n → Rns h vs.toList xs → Rn h (.ref a) (.tuple xs)
  | dct {a : Addr} {o : Obj} {es : Array DictEntry} {n : Nat} {kvs : List (PD × PD)} : (a == sysModules) = false → h.get? a = some o → o.cls = .type "dict" → o.data = .dict es n → Rns h (es.toList.map (·.key)) (kvs.map (·.1)) → Rns h (es.toList.map (·.val)) (kvs.map (·.2)) → Rn h (.ref a) (.dict kvs)
inductive Rns (h : Heap) : List Value → List PD → Prop
  | nil : Rns h [] []
  | cons {v : Value} {vs : List Value} {d : PD} {ds : List PD} : Rn h v d → Rns h vs ds → Rns h (v :: vs) (d :: ds)
end
mutual
theorem Rn.reads {h : Heap} : ∀ {v : Value} {d : PD}, Rn h v d → ∃ as, Reads h v d as
  | _, _, .non => ⟨_, .none⟩
  | _, _, .bl b => ⟨_, .bool b⟩
  | _, _, .int i t => ⟨_, .int i t⟩
  | _, _, .str x t => ⟨_, .str x t⟩
  | _, _, .lst e c q r => let ⟨_, k⟩ := Rns.reads r; ⟨_, .list e c q k⟩
  | _, _, .tup e c q r => let ⟨_, k⟩ := Rns.reads r; ⟨_, .tuple e c q k⟩
  | _, _, .dct _ e c q r1 r2 => let ⟨_, k1⟩ := Rns.reads r1; let ⟨_, k2⟩ := Rns.reads r2; ⟨_, .dict e c q k1 k2⟩
theorem Rns.reads {h : Heap} : ∀ {vs : List Value} {ds : List PD}, Rns h vs ds → ∃ as, ReadsAll h vs ds as
  | _, _, .nil => ⟨_, .nil⟩
  | _, _, .cons r t => let ⟨_, k1⟩ := Rn.reads r; let ⟨_, k2⟩ := Rns.reads t; ⟨_, .cons k1 k2⟩
end
section
variable {P : Program} {w : World} {h0 : Heap}
theorem fits_list {ds : List PD} (hz : (PyData.list ds).shown.length ≤ sizeLine) : ∀ t ∈ PyData.shownAll ds, t.length ≤ sizeLine := fun t m => by
  simp only [PyData.shown] at hz
  exact Nat.le_trans (listText_mem_le m) hz
theorem fits_tup {ds : List PD} (hz : (PyData.tuple ds).shown.length ≤ sizeLine) : ∀ t ∈ PyData.shownAll ds, t.length ≤ sizeLine := fun t m => by
  simp only [PyData.shown] at hz
  exact Nat.le_trans (tupleText_mem_le m) hz
theorem fits_keys {kvs : List (PD × PD)} (hz : (PyData.dict kvs).shown.length ≤ sizeLine) : ∀ t ∈ PyData.shownAll (kvs.map (·.1)), t.length ≤ sizeLine := fun t m => by
  simp only [PyData.shown] at hz
  obtain ⟨p, mp, l⟩ := PyData.shownKv_key_le kvs t m
  exact Nat.le_trans l (Nat.le_trans (dictText_mem_le mp) hz)
theorem fits_vals {kvs : List (PD × PD)} (hz : (PyData.dict kvs).shown.length ≤ sizeLine) : ∀ t ∈ PyData.shownAll (kvs.map (·.2)), t.length ≤ sizeLine := fun t m => by
  simp only [PyData.shown] at hz
  obtain ⟨p, mp, l⟩ := PyData.shownKv_val_le kvs t m
  exact Nat.le_trans l (Nat.le_trans (dictText_mem_le mp) hz)
theorem deep {a : Addr} {d : PD} {n : Nat} {bs : List Addr} (r : Rn h0 (.ref a) d) (hd : n < d.depth) (hb : ReadAtMost h0 n bs) : a ∉ bs := by
  obtain ⟨as, k⟩ := r.reads
  exact not_mem_of_deeper k hd hb
theorem most {a : Addr} {d : PD} {n : Nat} {bs : List Addr} (r : Rn h0 (.ref a) d) (hd : n ≤ d.depth) (hb : ReadAtMost h0 n bs) : ReadAtMost h0 d.depth (a :: bs) := by
  obtain ⟨as, k⟩ := r.reads
  exact ReadAtMost.cons k hd hb
mutual
theorem Rn.repr : ∀ {v : Value} {d : PD}, Rn h0 v d → d.showable = true → d.shown.length ≤ sizeLine → ∃ bs, ReadAtMost h0 d.depth bs ∧ ReprK P w bs h0 d.depth v d.shown
  | _, _, .non, _, _ => ⟨[], fun _ m => (nomatch m), by simp only [PyData.shown]; exact .of_is ReprIs.none _ _ _⟩
  | _, _, .bl b, _, _ => ⟨[], fun _ m => (nomatch m), by simp only [PyData.shown]; exact .of_is (ReprIs.bool b) _ _ _⟩
  | _, _, .int i t, sh, _ => ⟨[], fun _ m => (nomatch m), by simp only [PyData.shown]; exact .of_is (ReprIs.int t (by simpa [PyData.showable] using sh)) _ _ _⟩
  | _, _, .str x t, _, hz => ⟨[], fun _ m => (nomatch m), by simp only [PyData.shown]; exact .of_is (ReprIs.str x t (by simpa only [PyData.shown] using hz)) _ _ _⟩
  | _, _, .lst (a := a) (vs := vs) (xs := xs) e c q r, sh, hz => by
    obtain ⟨bs, hb, hk⟩ := Rns.repr r (by simpa [PyData.showable] using sh) (fits_list hz)
    have me : Rn h0 (.ref a) (.list xs) := .lst e c q r
    have na : a ∉ bs := deep me (by simp only [PyData.depth]; omega) hb
    refine ⟨a :: bs, most me (by simp only [PyData.depth]; omega) hb, ?_⟩
    simp only [PyData.depth, PyData.shown]
    obtain ⟨l⟩ := vs
    cases l with
    | nil =>
      have r' : Rns h0 [] xs := r
      cases r'
      simp only [PyData.shownAll, listText_nil]
      exact ReprK.listEmpty e c q
    | cons x l => exact ReprK.list e c q na (by simpa using hk.length_eq) fun i y ey => hk.item i y (by simpa using ey)
  | _, _, .tup (a := a) (xs := xs) e c q r, sh, hz => by
    obtain ⟨bs, hb, hk⟩ := Rns.repr r (by simpa [PyData.showable] using sh) (fits_tup hz)
    have me : Rn h0 (.ref a) (.tuple xs) := .tup e c q r
    refine ⟨a :: bs, most me (by simp only [PyData.depth]; omega) hb, ?_⟩
    simp only [PyData.depth, PyData.shown]
    exact ReprK.tuple e c q (deep me (by simp only [PyData.depth]; omega) hb) hk
  | _, _, .dct (a := a) (es := es) (kvs := kvs) ns e c q r1 r2, sh, hz => by
    obtain ⟨s1, s2⟩ := PyData.showableKv_split kvs (by simpa [PyData.showable] using sh)
    obtain ⟨b1, hb1, k1⟩ := Rns.repr r1 s1 (fits_keys hz)
    obtain ⟨b2, hb2, k2⟩ := Rns.repr r2 s2 (fits_vals hz)
    have me : Rn h0 (.ref a) (.dict kvs) := .dct ns e c q r1 r2
    have hb : ReadAtMost h0 (PyData.depthKv kvs) (b1 ++ b2) := (hb1.mono (PyData.depthAll_keys_le kvs)).append (hb2.mono (PyData.depthAll_vals_le kvs))
    refine ⟨a :: (b1 ++ b2), most me (by simp only [PyData.depth]; omega) hb, ?_⟩
    simp only [PyData.depth, PyData.shown, PyData.shownKv_eq]
    exact ReprK.dict e c q ns (deep me (by simp only [PyData.depth]; omega) hb) (ReprEntriesK.of_two es.toList _ _ (k1.more_le (fun b m => List.mem_append_left _ m) (PyData.depthAll_keys_le kvs)) (k2.more_le (fun b m => List.mem_append_right _ m) (PyData.depthAll_vals_le kvs)))
theorem Rns.repr : ∀ {vs : List Value} {ds : List PD}, Rns h0 vs ds → PyData.showableAll ds = true → (∀ t ∈ PyData.shownAll ds, t.length ≤ sizeLine) → ∃ bs, ReadAtMost h0 (PyData.depthAll ds) bs ∧ ReprAllK P w bs h0 (PyData.depthAll ds) vs (PyData.shownAll ds)
  | _, _, .nil, _, _ => ⟨[], fun _ m => (nomatch m), by simp only [PyData.shownAll]; exact .nil⟩
  | _, _, .cons (d := d) (ds := ds) r t, sh, hz => by
    have sh' : d.showable = true ∧ PyData.showableAll ds = true := by simpa [PyData.showableAll] using sh
    obtain ⟨b1, hb1, k1⟩ := Rn.repr r sh'.1 (hz _ (by simp only [PyData.shownAll]; exact List.mem_cons_self ..))
    obtain ⟨b2, hb2, k2⟩ := Rns.repr t sh'.2 fun x m => hz x (by simp only [PyData.shownAll]; exact List.mem_cons_of_mem _ m)
    refine ⟨b1 ++ b2, fun b m => ?_, ?_⟩
    · simp only [PyData.depthAll]
      rcases List.mem_append.mp m with m | m
      · obtain ⟨d', as', r', l'⟩ := hb1 b m
        exact ⟨d', as', r', Nat.le_trans l' (Nat.le_max_left _ _)⟩
      · obtain ⟨d', as', r', l'⟩ := hb2 b m
        exact ⟨d', as', r', Nat.le_trans l' (Nat.le_max_right _ _)⟩
    · simp only [PyData.depthAll, PyData.shownAll]
      exact .cons ((k1.more fun b m => List.mem_append_left _ m).level_le (Nat.le_max_left _ _)) (k2.more_le (fun b m => List.mem_append_right _ m) (Nat.le_max_right _ _))
end
theorem Rn.shows {a : Addr} {d : PD} (r : Rn h0 (.ref a) d) (sh : d.showable = true) (hz : d.shown.length ≤ sizeLine) : ∃ T idr, ShowsBy P w h0 a d T idr := by
  have me := r
  cases r with
  | lst e c q r =>
    rename_i o vs n xs
    obtain ⟨bs, hb, hk⟩ := Rns.repr (P := P) (w := w) r (by simpa [PyData.showable] using sh) (fits_list hz)
    have na : a ∉ bs := deep me (by simp only [PyData.depth]; omega) hb
    refine ⟨"list", "list.__repr__", F.slot_list_repr.toG, F.slot_list_str, F.slot_list_format, fun s k => ⟨o, k _ _ e, c⟩, fun A E s Q hg hu k hQ => ?_⟩
    simp only [PyData.depth] at hu
    simp only [PyData.shown] at hQ
    obtain ⟨l⟩ := vs
    cases l with
    | nil =>
      have r' : Rns h0 [] xs := r
      cases r'
      simp only [PyData.shownAll, listText_nil] at hQ
      exact call_list_repr_empty ⟨o, k _ _ e, c⟩ (k _ _ e) q (hQ s.heap _ _ fun _ _ x => x)
    | cons x l => exact call_list_reprK e c q na (by simpa using hk.length_eq) (fun i y ey => hk.item i y (by simpa using ey)) hg (fun b _ => Clear.nil b) hu k hQ (by simpa only [PyData.shown] using hz)
  | tup e c q r =>
    rename_i o vs n xs
    obtain ⟨bs, hb, hk⟩ := Rns.repr (P := P) (w := w) r (by simpa [PyData.showable] using sh) (fits_tup hz)
    refine ⟨"tuple", "tuple.__repr__", F.slot_tuple_repr, F.slot_tuple_str, F.slot_tuple_format, fun s k => ⟨o, k _ _ e, c⟩, fun A E s Q hg hu k hQ => ?_⟩
    have na : a ∉ bs := deep me (by simp only [PyData.depth]; omega) hb
    simp only [PyData.depth] at hu
    simp only [PyData.shown] at hQ
    exact call_tuple_reprK e c q na hk hg (fun b _ => Clear.nil b) hu k hQ (by simpa only [PyData.shown] using hz)
  | dct ns e c q r1 r2 =>
    rename_i o es n kvs
    obtain ⟨s1, s2⟩ := PyData.showableKv_split kvs (by simpa [PyData.showable] using sh)
    obtain ⟨b1, hb1, k1⟩ := Rns.repr (P := P) (w := w) r1 s1 (fits_keys hz)
    obtain ⟨b2, hb2, k2⟩ := Rns.repr (P := P) (w := w) r2 s2 (fits_vals hz)
    have hb : ReadAtMost h0 (PyData.depthKv kvs) (b1 ++ b2) := (hb1.mono (PyData.depthAll_keys_le kvs)).append (hb2.mono (PyData.depthAll_vals_le kvs))
    have na : a ∉ b1 ++ b2 := deep me (by simp only [PyData.depth]; omega) hb
    refine ⟨"dict", "dict.__repr__", F.slot_dict_repr, F.slot_dict_str, F.slot_dict_format, fun s k => ⟨o, k _ _ e, c⟩, fun A E s Q hg hu k hQ => ?_⟩
    simp only [PyData.depth] at hu
    simp only [PyData.shown, PyData.shownKv_eq] at hQ
    exact call_dict_reprK e c q ns na (ReprEntriesK.of_two es.toList _ _ (k1.more_le (fun b m => List.mem_append_left _ m) (PyData.depthAll_keys_le kvs)) (k2.more_le (fun b m => List.mem_append_right _ m) (PyData.depthAll_vals_le kvs))) hg (fun b _ => Clear.nil b) hu k hQ (by rw [← PyData.shownKv_eq]; simpa only [PyData.shown] using hz)
theorem repr_rn {A : Around} {E : Value → Shared → Prop} {s : Shared} {Q : Value → Shared → Prop} {a : Addr} {d : PD} (r : Rn s.heap (.ref a) d) (sh : d.showable = true) (hz : d.shown.length ≤ sizeLine) (hg : A.guards = some []) (hu : A.units + (d.depth + 1) < cLine)
    (hQ : ∀ h' u tk, (∀ b o, s.heap.get? b = some o → h'.get? b = some o) → Q (.str d.shown u) { s with heap := h', toks := tk }) : wpAny (model P w) A (call (.builtin "repr") [.ref a]) Q E s := by
  obtain ⟨T, idr, S⟩ := r.shows (P := P) (w := w) sh hz
  exact call_repr_slot (by omega) (S.typeIs s fun _ _ e => e) S.slotRepr (S.call A.in1 E s _ hg (by show A.units + 1 + d.depth < cLine; omega) (fun _ _ e => e) fun h' u tk k => ⟨_, _, rfl, hQ h' u tk k⟩)
end
open L2 PyProof.Rows
section
variable {X : Cx} {pins : List (Addr × Obj)} {σ : L2.St} {H : Hp} {s : Shared} {A : Addr → Prop}
theorem rn_key {h : Heap} {k : Key} {u : Value} (r : RelV (kV k) u) : Rn h u (kD k) := by
  cases k with
  | inl i => obtain ⟨t, rfl⟩ := r; exact .int i t
  | inr z => obtain ⟨t, rfl⟩ := r; exact .str z t
mutual
theorem RepD.rn (I : Inv X pins σ H s) : ∀ (d : PD) (x : V) (u : Value), RepD X.K A H x d → RelV x u → Rn s.heap u d
  | .none, _, _, .non, r => by cases r; exact .non
  | .bool _, _, _, .bl b, r => by cases r; exact .bl b
  | .int _, _, _, .int i, r => by obtain ⟨t, rfl⟩ := r; exact .int i t
  | .str _, _, _, .str x _ _, r => by obtain ⟨t, rfl⟩ := r; exact .str x t
  | .list ds, _, _, .lst f _ k, r => by
    cases r
    obtain ⟨its, rv, ⟨o, n, e, c, _, q⟩, _⟩ := I.list (show SqL X.K H _ _ from .inl f.1)
    exact .lst e c q (by simpa using RepDs.rn I ds _ its k rv)
  | .tuple ds, _, _, .tup f _ k, r => by
    cases r
    obtain ⟨its, rv, ⟨o, e, c, n, q⟩, _⟩ := I.tuple f.sq
    exact .tup e c q (by simpa using RepDs.rn I ds _ its k rv)
  | .dict ds, _, _, .dct f _ k, r => by
    cases r
    obtain ⟨_, ns, vs, kv, o, es, ep, e, c, q, _, ps, _⟩ := dk_rd I.hok f.1
    obtain ⟨k1, k2⟩ := RepKs.rn I ds _ vs es.toList k kv ps
    exact .dct ns e c.1 q k1 k2
theorem RepDs.rn (I : Inv X pins σ H s) : ∀ (ds : List PD) (xs : List V) (us : List Value), RepDs X.K A H xs ds → Vals xs us → Rns s.heap us ds
  | [], _, _, .nil, .nil => .nil
  | d :: ds, _, _, .cons k t, .cons r v => .cons (RepD.rn I d _ _ k r) (RepDs.rn I ds _ _ t v)
theorem RepKs.rn (I : Inv X pins σ H s) : ∀ (ds : List (PD × PD)) (xs : List (Key × V)) (vs : List (Key × Value)) (es : List DictEntry), RepKs X.K A H xs ds → KV xs vs → PySem.Pairs (mixKind X.prog X.w) es vs → Rns s.heap (es.map (·.key)) (ds.map (·.1)) ∧ Rns s.heap (es.map (·.val)) (ds.map (·.2))
  | [], _, _, _, .nil, .nil, .nil => ⟨.nil, .nil⟩
  | (_, d) :: ds, _, _, _, .cons hk k t, .cons r v, .cons p1 p2 q => by
    obtain ⟨k1, k2⟩ := RepKs.rn I ds _ _ _ t v q
    obtain ⟨r1, r2⟩ := r
    rw [← r1] at p1
    refine ⟨.cons (rn_key (relV_key p1)) k1, .cons ?_ k2⟩
    exact RepD.rn I d _ _ k (by show RelV _ _; dsimp only; rw [p2]; exact r2)
end
end
end Nv
set_option Elab.async false
set_option linter.all false
set_option maxRecDepth 100000
/-! N6: built-in functions, methods. -/
namespace PySem.AutoSeq1
open PySem.MeetsSeq PySem.MeetsSeq2 PySem.MeetsSeq3
set_option maxRecDepth 8000 in
theorem nv_extend_tuple (l : Addr) (items : Array Value) (n : Nat) (b : Addr) (items2 : Array Value) (n2 : Nat) (dd : Option Addr) (sl : Array (Option Value)) (big : ¬(!items.isEmpty && Builtin.List.listTooLong (items.size + items2.size)) = true)
    (z1 : items.size ≤ sizeLine) (z2 : (items ++ items2).size ≤ sizeLine + 1) :
    Meets (Builtin.«list.extend» ⟨[.ref l, .ref b], []⟩) (fun _ R s => s.heap.get? l = some { cls := .type "list", dict := none, data := .seq items n, slots := #[] } ∧
      s.heap.get? b = some { cls := .type "tuple", dict := dd, data := .seq items2 n2, slots := sl } ∧ R (.ok (.ret Value.none)) { s with heap := s.heap.update l (Obj.mapSeq fun x => x ++ items2), toks := s.toks }) :=
  .of_wp fun prog w A R s h => by
    obtain ⟨hp, g, d, tk, os⟩ := s
    obtain ⟨hl, hb, h⟩ := h
    have f1 := idx_int; have f2 := sub_tuple_tuple
    have f3 := sub_list_list
    have f4 := sub_tuple_list; have f5 := sub_list_tuple
    wp_walk using (wpAny_updateSeq hl rfl (hz := z1) (_hz' := z2)), wpAny_loadPart' hl, wpAny_loadPart' hb
    exact ⟨_, rfl, h⟩
end PySem.AutoSeq1
namespace Nv
open PySem L2 PyProof.Rows

section
variable {W : Wo} {X : Cx} {φ φ' : Ph} {h h' : Hs} {H H' : Hp}
/-! ### kept as data from here on -/
theorem repKs_of : ∀ {us : List (Key × V)} {ys : List (Key × Val)} {ds : List (PD × PD)}, RepW W φ h H us ys → datK ys = some ds → RepKs W.K (Al φ h) H us ds
  | _, _, _, .nil, e => by cases e; exact .nil
  | _, _, _, .cons (a := p) (b := q) r t, e => by
    obtain ⟨k, u⟩ := p
    obtain ⟨k', y⟩ := q
    obtain ⟨e1, hk, r1⟩ := r
    simp only at e1 r1
    subst e1
    cases y with
    | r => cases e
    | d y =>
      simp only [datK, Option.map_eq_some_iff] at e
      obtain ⟨t', e2, rfl⟩ := e
      exact .cons hk r1 (repKs_of t e2)
theorem frz_inv (a : AbsH W φ h H) {x : V} {v : Val} {d : PD} (r : RepV W φ h H x v) (e : frz v h = .ok d h') : Grow φ h H φ h' H ∧ AbsH W φ h' H ∧ RepD W.K (Al φ h') H x d := by
  cases v with
  | d y =>
    obtain ⟨rfl, rfl⟩ := pure_inv e
    exact ⟨Grow.refl, a, r⟩
  | r i =>
    obtain ⟨p, ep, rfl⟩ := r
    obtain ⟨o, h1, e1, e2⟩ := bind_inv (show (getO i >>= fun o => datO o >>= fun d => setO i .dead >>= fun _ => pure d) h = .ok d h' from e)
    obtain ⟨rfl, eo⟩ := getO_inv e1
    obtain ⟨d', h2, e3, e4⟩ := bind_inv e2
    have done : ∀ {d : PD}, o ≠ .dead → (∀ {h' : Hs}, Grow φ h1 H φ h' H → ¬ Al φ h' p → RepD W.K (Al φ h') H (.ref p) d) → d' = d → h2 = h1 → Grow φ h1 H φ h' H ∧ AbsH W φ h' H ∧ RepD W.K (Al φ h') H (.ref p) d' := fun {d} n f q1 q2 => by
      subst q1 q2
      have e5 : Res.ok d' (h2.set i .dead) = Res.ok _ h' := e4
      obtain ⟨-, rfl⟩ := ok_inj e5
      have g : Grow φ h2 H φ (h2.set i .dead) H := Grow.kill eo n
      exact ⟨g, a.kill eo n, f g (notAl_kill a ep eo n)⟩
    have ed : d' = d := by
      have e5 : Res.ok d' (h2.set i .dead) = Res.ok d h' := e4
      exact (ok_inj e5).1
    subst ed
    cases o with
    | lst xs =>
      obtain ⟨rfl, e6⟩ := optM_inv e3
      simp only [Option.map_eq_some_iff] at e6
      obtain ⟨ds, e7, rfl⟩ := e6
      obtain ⟨ws, f1, l, r⟩ := a.ob i p _ ep eo
      refine done lst_ne (fun {h'} g na => .lst ⟨.inl f1, na⟩ l ?_) rfl rfl
      rw [dats_inv e7] at r
      exact RepDs.grow g.keep g.new ds ws (repVs_d r)
    | dct xs =>
      obtain ⟨rfl, e6⟩ := optM_inv e3
      simp only [Option.map_eq_some_iff] at e6
      obtain ⟨ds, e7, rfl⟩ := e6
      obtain ⟨ws, f1, l, r⟩ := a.ob i p _ ep eo
      refine done dct_ne (fun {h'} g na => .dct ⟨.inl f1, na⟩ l ?_) rfl rfl
      exact RepKs.grow g.keep g.new ds ws (repKs_of r e7)
    | ins => exact bad_ne e3
    | dtt => exact bad_ne e3
    | dead => exact bad_ne e3
theorem frzs_inv : ∀ {vs : List Val} {xs : List V} {ds : List PD} {h h' : Hs}, AbsH W φ h H → RepVs W φ h H xs vs → frzs vs h = .ok ds h' → Grow φ h H φ h' H ∧ AbsH W φ h' H ∧ RepDs W.K (Al φ h') H xs ds
  | [], _, _, _, _, a, .nil, e => by
    obtain ⟨rfl, rfl⟩ := pure_inv e
    exact ⟨Grow.refl, a, .nil⟩
  | v :: vs, _, _, h, h', a, .cons r t, e => by
    obtain ⟨x, h1, e1, e2⟩ := bind_inv (show (frz v >>= fun x => frzs vs >>= fun xs => pure (x :: xs)) h = .ok _ h' from e)
    obtain ⟨xs, h2, e3, e4⟩ := bind_inv e2
    obtain ⟨rfl, rfl⟩ := pure_inv e4
    obtain ⟨g1, a1, r1⟩ := frz_inv a r e1
    obtain ⟨g2, a2, r2⟩ := frzs_inv a1 (RepVs.grow g1 t) e3
    exact ⟨g1.trans g2, a2, .cons (RepD.grow g2.keep g2.new _ _ r1) r2⟩
/-- a new tuple -/
theorem tup_want {vs : List Val} {z : Val} {Q : VK} {xs : List V} (a : AbsH W φ h H) (r : RepVs W φ h H xs vs) (l : xs.length ≤ sizeLine) (e : (frzs vs >>= fun ds => (pure (.d (.tuple ds)) : M Val)) h = .ok z h') (k : Wnt W φ h H z h' Q) {p : Addr} (hp : H p = none) : Q (.ref p) (upd H p (.tup xs)) := by
  obtain ⟨ds, h1, e1, e2⟩ := bind_inv e
  obtain ⟨rfl, rfl⟩ := pure_inv e2
  obtain ⟨g, a1, r1⟩ := frzs_inv a r e1
  have k1 : Wnt W φ h1 H (.d (.tuple ds)) h1 Q := fun x φ' H' g' a' r' => k x φ' H' (g.trans g') a' r'
  exact k1.tup a1 l r1 hp
/-! ### built-in functions -/
theorem lstOf_inv (a : AbsH W φ h H) {x : V} {v : Val} {vs : List Val} (r : RepV W φ h H x v) (e : lstOf v h = .ok vs h') : h' = h ∧ ∃ p xs, x = .ref p ∧ xs.length ≤ sizeLine ∧ RepVs W φ h H xs vs ∧ Rd H p (.lst xs) := by
  have key : seqOf v h = .ok vs h' ∧ ∀ ds, v ≠ .d (.tuple ds) := by
    cases v with
    | r i => exact ⟨e, fun _ z => nomatch z⟩
    | d v =>
      cases v with
      | list ds => exact ⟨e, fun _ z => nomatch z⟩
      | none => exact bad_ne e
      | bool => exact bad_ne e
      | int => exact bad_ne e
      | str => exact bad_ne e
      | tuple => exact bad_ne e
      | dict => exact bad_ne e
  obtain ⟨e1, p, us, e2, l, r2, t⟩ := seqOf_inv a r key.1
  exact ⟨e1, p, us, e2, l, r2, t.elim (fun z => z.2) fun ⟨ds, z, _⟩ => absurd z (key.2 ds)⟩
theorem repVs_bools : ∀ {vs : List Val} {xs : List V} {bs : List Bool}, RepVs W φ h H xs vs → bools vs = some bs → xs = bs.map V.bl
  | [], _, _, .nil, e => by cases e; rfl
  | .d d :: vs, _, _, .cons r t, e => by
    cases d with
    | bool b =>
      simp only [bools, Option.map_eq_some_iff] at e
      obtain ⟨bs, e1, rfl⟩ := e
      cases r.d.bool_inv
      rw [repVs_bools t e1]
      rfl
    | none => cases e
    | int => cases e
    | str => cases e
    | list => cases e
    | tuple => cases e
    | dict => cases e
  | .r _ :: _, _, _, _, e => by cases e
theorem repDs_ints {K : PySem.W.Frag} {A : Addr → Prop} : ∀ {ds : List PD} {xs : List V} {is : List Int}, RepDs K A H xs ds → intsOf ds = some is → xs = is.map V.int
  | [], _, _, .nil, e => by cases e; rfl
  | d :: vs, _, _, .cons r t, e => by
    cases d with
    | int b =>
      simp only [intsOf, Option.map_eq_some_iff] at e
      obtain ⟨bs, e1, rfl⟩ := e
      cases r.int_inv
      rw [repDs_ints t e1]
      rfl
    | none => cases e
    | bool => cases e
    | str => cases e
    | list => cases e
    | tuple => cases e
    | dict => cases e
theorem repDs_strs {K : PySem.W.Frag} {A : Addr → Prop} : ∀ {ds : List PD} {xs : List V} {ss : List Str}, RepDs K A H xs ds → strsOf ds = some ss → xs = ss.map V.str ∧ ∀ s ∈ ss, s.length ≤ sizeLine ∧ ascOk s = true
  | [], _, _, .nil, e => by cases e; exact ⟨rfl, fun _ z => nomatch z⟩
  | d :: vs, _, _, .cons r t, e => by
    cases d with
    | str b =>
      simp only [strsOf, Option.map_eq_some_iff] at e
      obtain ⟨bs, e1, rfl⟩ := e
      obtain ⟨rfl, l, o⟩ := r.str_inv
      obtain ⟨e2, e3⟩ := repDs_strs t e1
      refine ⟨by rw [e2]; rfl, fun s hs => ?_⟩
      rcases List.mem_cons.mp hs with rfl | hs
      · exact ⟨l, o⟩
      · exact e3 s hs
    | none => cases e
    | bool => cases e
    | int => cases e
    | list => cases e
    | tuple => cases e
    | dict => cases e
theorem ints_repVs : ∀ is : List Int, RepVs W φ h H (is.map V.int) (is.map fun i => Val.d (.int i))
  | [] => .nil
  | i :: is => .cons (show RepD _ _ _ _ _ from .int i) (ints_repVs is)
theorem strs_repVs : ∀ ss : List Str, (∀ s ∈ ss, s.length ≤ sizeLine ∧ ascOk s = true) → RepVs W φ h H (ss.map V.str) (ss.map fun i => Val.d (.str i))
  | [], _ => .nil
  | i :: is, hs => .cons (show RepD _ _ _ _ _ from .str i (hs i (by simp)).1 (hs i (by simp)).2) (strs_repVs is fun s m => hs s (by simp [m]))
/-- a call of one argument -/
theorem rcs_one {o : Bi} {m : Bool} {vs : List Val} {xs : List V} {z : Val} {P : Prop} (n2 : ∀ x y, bi2 o m x y = bad) (r : RepVs W φ h H xs vs) (e : biV o m vs h = .ok z h') (f : ∀ v x, vs = [v] → xs = [x] → RepV W φ h H x v → bi1 o m v h = .ok z h' → P) : P := by
  match vs, r, e with
  | [], _, e => exact bad_ne e
  | [v], .cons (a := x) rx .nil, e => exact f v x rfl rfl rx e
  | [v, w], _, e =>
    have e' : bi2 o m v w h = .ok z h' := e
    rw [n2] at e'
    exact bad_ne e'
  | _ :: _ :: _ :: _, _, e => exact bad_ne e
theorem rcs_two {o : Bi} {m : Bool} {vs : List Val} {xs : List V} {z : Val} {P : Prop} (n1 : ∀ x, bi1 o m x = bad) (r : RepVs W φ h H xs vs) (e : biV o m vs h = .ok z h') (f : ∀ v w x y, vs = [v, w] → xs = [x, y] → RepV W φ h H x v → RepV W φ h H y w → bi2 o m v w h = .ok z h' → P) : P := by
  match vs, r, e with
  | [], _, e => exact bad_ne e
  | [v], _, e =>
    have e' : bi1 o m v h = .ok z h' := e
    rw [n1] at e'
    exact bad_ne e'
  | [v, w], .cons (a := x) rx (.cons (a := y) ry .nil), e => exact f v w x y rfl rfl rx ry e
  | _ :: _ :: _ :: _, _, e => exact bad_ne e
def rLenAll (K : PySem.W.Frag) : List V → Hp → VK → Prop := fun xs H Q => (∃ x n, xs = [x] ∧ LenV K x H n ∧ Q (.int n) H) ∨ ∃ a kvs, xs = [.ref a] ∧ Rd H a (.dK kvs) ∧ Q (.int kvs.length) H
theorem call_lenAll : CallR X (.builtin "len") (rLenAll X.K) := by
  refine CallR.or call_len ?_
  intro pins s σ H xs us Q I r ⟨a, kvs, e, g, q⟩
  subst e
  obtain ⟨u, rfl, ru⟩ := vals1 r
  cases ru
  exact d_len I g fun t s' I' => ⟨.int _, H, I', ⟨t, rfl⟩, q⟩
theorem s_len {m : Bool} : RCS W (rLenAll W.K) (biV .len m) := by
  intro φ h H xs vs z h' Q a r e k
  refine rcs_one (fun _ _ => rfl) r e fun v x e1 e2 rx e => ?_
  subst e1 e2
  obtain ⟨n, h1, e1, e2⟩ := bind_inv (show (lenV v >>= fun n => intV n) h = .ok z h' from e)
  obtain ⟨rfl, rfl⟩ := pure_inv e2
  have fin : ∀ {n : Nat}, h1 = h → n = n → (LenV W.K x H n → Wnt W φ h H (.d (.int n)) h1 Q → rLenAll W.K [x] H Q) := fun {n} q _ l k => by
    subst q
    exact .inl ⟨x, n, rfl, l, k.int a⟩
  have seqs : (seqOf v >>= fun xs => (pure xs.length : M Nat)) h = .ok n h1 → rLenAll W.K [x] H Q := fun e => by
    obtain ⟨ys, h2, e3, e4⟩ := bind_inv e
    obtain ⟨rfl, rfl⟩ := pure_inv e4
    obtain ⟨rfl, p, us, rfl, l, r2, t⟩ := seqOf_inv a rx e3
    refine .inl ⟨_, ys.length, rfl, ?_, k.int a⟩
    rcases t with ⟨_, t⟩ | ⟨_, _, t⟩
    · exact .inl ⟨us, .inl t, (RepVs.length r2).symm⟩
    · exact .inr ⟨us, t, (RepVs.length r2).symm⟩
  cases v with
  | r i =>
    obtain ⟨p, ep, rfl⟩ := rx
    obtain ⟨o, h2, e3, e4⟩ := bind_inv (show (getO i >>= fun o => lenO o) h = .ok n h1 from e1)
    obtain ⟨rfl, eo⟩ := getO_inv e3
    cases o with
    | lst ys =>
      obtain ⟨rfl, rfl⟩ := pure_inv (show (pure ys.length : M Nat) _ = _ from e4)
      obtain ⟨ws, f1, l, r⟩ := a.ob i p _ ep eo
      exact .inl ⟨_, ys.length, rfl, .inl ⟨ws, .inl (.inl f1), (RepVs.length r).symm⟩, k.int a⟩
    | dct ys =>
      obtain ⟨rfl, rfl⟩ := pure_inv (show (pure ys.length : M Nat) _ = _ from e4)
      obtain ⟨ws, f1, l, r⟩ := a.ob i p _ ep eo
      exact .inr ⟨p, ws, rfl, .inl f1, by rw [Paired.length r]; exact k.int a⟩
    | ins => exact bad_ne e4
    | dtt => exact bad_ne e4
    | dead => exact bad_ne e4
  | d v =>
    cases v with
    | str y =>
      obtain ⟨rfl, rfl⟩ := pure_inv (show (pure y.length : M Nat) _ = _ from e1)
      obtain ⟨rfl, l, o⟩ := rx.d.str_inv
      exact .inl ⟨_, y.length, rfl, ⟨l, rfl⟩, k.int a⟩
    | dict kvs =>
      obtain ⟨rfl, rfl⟩ := pure_inv (show (pure kvs.length : M Nat) _ = _ from e1)
      obtain ⟨p, us, rfl, f, l, r⟩ := rx.d.dct_inv
      exact .inr ⟨p, us, rfl, f.1, by rw [r.length]; exact k.int a⟩
    | list => exact seqs e1
    | tuple => exact seqs e1
    | none => exact seqs e1
    | bool => exact seqs e1
    | int => exact seqs e1
/-- one argument -/
theorem one_arg {vs : List Val} {xs : List V} {P : Prop} (r : RepVs W φ h H xs vs) (f : ∀ v x, vs = [v] → xs = [x] → RepV W φ h H x v → P) (n : vs.length = 1) : P := by
  match vs, r, n with
  | [v], .cons (a := x) rx .nil, _ => exact f v x rfl rfl rx
theorem s_all {m : Bool} : RCS W (rAll W.K) (biV .all m) := by
  intro φ h H xs vs z h' Q a r e k
  refine rcs_one (fun _ _ => rfl) r e fun v x e1 e2 rx e => ?_
  subst e1 e2
  obtain ⟨ys, h1, e1, e2⟩ := bind_inv (show (lstOf v >>= fun xs => optM (bools xs) >>= fun bs => bl (bs.all id)) h = .ok z h' from e)
  obtain ⟨bs, h2, e3, e4⟩ := bind_inv e2
  obtain ⟨rfl, e5⟩ := optM_inv e3
  obtain ⟨rfl, rfl⟩ := pure_inv e4
  obtain ⟨rfl, p, us, rfl, l, r2, t⟩ := lstOf_inv a rx e1
  exact ⟨p, bs, rfl, by rw [← repVs_bools r2 e5]; exact .inl t, k.bl a⟩
theorem s_any {m : Bool} : RCS W (rAny W.K) (biV .any m) := by
  intro φ h H xs vs z h' Q a r e k
  refine rcs_one (fun _ _ => rfl) r e fun v x e1 e2 rx e => ?_
  subst e1 e2
  obtain ⟨ys, h1, e1, e2⟩ := bind_inv (show (lstOf v >>= fun xs => optM (bools xs) >>= fun bs => bl (bs.any id)) h = .ok z h' from e)
  obtain ⟨bs, h2, e3, e4⟩ := bind_inv e2
  obtain ⟨rfl, e5⟩ := optM_inv e3
  obtain ⟨rfl, rfl⟩ := pure_inv e4
  obtain ⟨rfl, p, us, rfl, l, r2, t⟩ := lstOf_inv a rx e1
  exact ⟨p, bs, rfl, by rw [← repVs_bools r2 e5]; exact .inl t, k.bl a⟩
/-! what repr shows are plain signs -/
theorem asc_list {l : List Nat} (h : ascOk ⟨l.toArray⟩ = true) : ∀ c ∈ l, c < 128 := fun c m => asc_mem h (by simpa using m)
theorem asc_char39 : ∀ c, c < 128 → ∀ d ∈ Builtin.Str.reprChar 39 c, d < 128 := by decide +kernel
theorem asc_char34 : ∀ c, c < 128 → ∀ d ∈ Builtin.Str.reprChar 34 c, d < 128 := by decide +kernel
theorem asc_foldR {q : Nat} (hq : ∀ c, c < 128 → ∀ d ∈ Builtin.Str.reprChar q c, d < 128) : ∀ (l : List Nat) (acc : Array Nat), (∀ c ∈ l, c < 128) → (∀ c ∈ acc.toList, c < 128) →
    ∀ c ∈ (l.foldl (fun out c => out ++ (Builtin.Str.reprChar q c).toArray) acc).toList, c < 128
  | [], acc, _, ha, c, m => ha c m
  | x :: l, acc, hl, ha, c, m => by
    refine asc_foldR hq l _ (fun c hc => hl c (List.mem_cons_of_mem _ hc)) (fun c hc => ?_) c m
    rw [Array.toList_append] at hc
    rcases List.mem_append.mp hc with z | z
    · exact ha c z
    · exact hq x (hl x (List.mem_cons_self ..)) c (by simpa using z)
theorem asc_repr {x : Str} (h : ascOk x = true) : ascOk (reprText x) = true := by
  have q2 : reprQuote x = 34 ∨ reprQuote x = 39 := by
    unfold reprQuote
    split
    · exact .inl rfl
    · exact .inr rfl
  have hq : ∀ c, c < 128 → ∀ d ∈ Builtin.Str.reprChar (reprQuote x) c, d < 128 := by
    rcases q2 with e | e <;> rw [e]
    · exact asc_char34
    · exact asc_char39
  have hc : reprQuote x < 128 := by rcases q2 with e | e <;> rw [e] <;> decide
  unfold reprText
  have e : ((x.cps.foldl (fun out c => out ++ (Builtin.Str.reprChar (reprQuote x) c).toArray) #[reprQuote x]).push (reprQuote x)) = (((x.cps.toList.foldl (fun out c => out ++ (Builtin.Str.reprChar (reprQuote x) c).toArray) #[reprQuote x]).push (reprQuote x)).toList).toArray := by
    rw [Array.foldl_toList]
  rw [e]
  refine asc_of fun c m => ?_
  rw [Array.toList_push] at m
  rcases List.mem_append.mp m with z | z
  · exact asc_foldR hq _ _ (fun c m => asc_mem h m) (fun c m => by simp at m; rw [m]; exact hc) c z
  · simp at z; rw [z]; exact hc
theorem asc_num (i : Int) : ascOk (Str.ofString (toString i)) = true := by
  have nat : ∀ n : Nat, ∀ c ∈ (Nat.repr n).toList, c.toNat < 128 := fun n c m => by
    have d : ∀ c ∈ Nat.toDigits 10 n, c.isDigit = true := fun c m => Nat.isDigit_of_mem_toDigits (by decide) (by decide) m
    have e : (Nat.repr n).toList = Nat.toDigits 10 n := by simp [Nat.repr]
    rw [e] at m
    have := d c m
    simp only [Char.isDigit, Bool.and_eq_true, decide_eq_true_eq] at this
    have h2 := this.2
    have : c.toNat ≤ 57 := by
      have := UInt32.le_iff_toNat_le.mp h2
      exact this
    omega
  rw [Str.ofString_eq_toList]
  refine asc_of fun c m => ?_
  obtain ⟨d, hd, rfl⟩ := List.mem_map.mp m
  cases i with
  | ofNat n =>
    have e : toString (Int.ofNat n) = Nat.repr n := rfl
    rw [e] at hd
    exact nat n d hd
  | negSucc n =>
    have e : toString (Int.negSucc n) = "-" ++ Nat.repr (n + 1) := rfl
    rw [e, String.toList_append] at hd
    rcases List.mem_append.mp hd with z | z
    · have : d = '-' := by simpa using z
      rw [this]; decide
    · exact nat _ d z
theorem asc_textFrom : ∀ (ts : List Str) (k : Nat) (acc : Str), (∀ t ∈ ts, ascOk t = true) → ascOk acc = true → ascOk (textFrom k acc ts) = true
  | [], _, _, _, h => h
  | t :: r, k, acc, ht, h => by
    refine asc_textFrom r (k + 1) _ (fun u hu => ht u (List.mem_cons_of_mem _ hu)) ?_
    refine strOk_app (strOk_app h ?_) (ht t (List.mem_cons_self ..))
    split <;> decide +kernel
theorem asc_join {y : Str} (hy : ascOk y = true) : ∀ ts : List Str, (∀ t ∈ ts, ascOk t = true) → ascOk (Str.join y ts) = true
  | [], _ => by show ascOk Str.empty = true; decide +kernel
  | [t], h => h t (List.mem_cons_self ..)
  | t :: u :: r, h => strOk_app (strOk_app (h t (List.mem_cons_self ..)) hy) (asc_join hy (u :: r) fun z hz => h z (List.mem_cons_of_mem _ hz))
mutual
theorem asc_shown {K : PySem.W.Frag} {A : Addr → Prop} : ∀ (d : PD) (x : V), RepD K A H x d → ascOk d.shown = true
  | .none, _, _ => by simp only [PyData.shown]; decide +kernel
  | .bool b, _, _ => by simp only [PyData.shown]; cases b <;> decide +kernel
  | .int i, _, _ => by simp only [PyData.shown]; exact asc_num i
  | .str _, _, .str x l o => by simp only [PyData.shown]; exact asc_repr o
  | .list ds, _, .lst f l r => by
    simp only [PyData.shown, listText]
    exact strOk_app (asc_textFrom _ _ _ (ascs_shown ds _ r) (by decide +kernel)) (by decide +kernel)
  | .tuple ds, _, .tup f l r => by
    simp only [PyData.shown, tupleText]
    refine strOk_app (strOk_app (by decide +kernel) (asc_join (by decide +kernel) _ (ascs_shown ds _ r))) ?_
    split <;> decide +kernel
  | .dict kvs, _, .dct f l r => by
    simp only [PyData.shown, dictText]
    exact strOk_app (strOk_app (by decide +kernel) (asc_join (by decide +kernel) _ (asck_shown kvs _ r))) (by decide +kernel)
theorem ascs_shown {K : PySem.W.Frag} {A : Addr → Prop} : ∀ (ds : List PD) (xs : List V), RepDs K A H xs ds → ∀ t ∈ PyData.shownAll ds, ascOk t = true
  | [], _, _, t, m => by simp [PyData.shownAll] at m
  | d :: ds, _, .cons r q, t, m => by
    simp only [PyData.shownAll] at m
    rcases List.mem_cons.mp m with rfl | m
    · exact asc_shown d _ r
    · exact ascs_shown ds _ q t m
theorem asck_shown {K : PySem.W.Frag} {A : Addr → Prop} : ∀ (ds : List (PD × PD)) (xs : List (Key × V)), RepKs K A H xs ds → ∀ t ∈ PyData.shownKv ds, ascOk t = true
  | [], _, _, t, m => by simp [PyData.shownKv] at m
  | (_, d) :: ds, _, .cons (k := k) hk r q, t, m => by
    simp only [PyData.shownKv] at m
    rcases List.mem_cons.mp m with rfl | m
    · refine strOk_app (strOk_app ?_ (by decide +kernel)) (asc_shown d _ r)
      cases k with
      | inl i => simp only [kD, PyData.shown]; exact asc_num i
      | inr z => simp only [kD, PyData.shown]; exact asc_repr (hk z rfl).2
    · exact asck_shown ds _ q t m
end
/-! repr -/
def rRepr (W : Wo) : List V → Hp → VK → Prop := fun xs H Q => ∃ x d A, xs = [x] ∧ RepD W.K A H x d ∧ d.showable = true ∧ d.shown.length ≤ sizeLine ∧ d.depth ≤ 60 ∧ Q (.str d.shown) H
theorem call_reprAll (hK : X.K = W.K) (hg : X.A.guards = some []) (hu : X.A.units + 64 < cLine) : CallR X (.builtin "repr") (rRepr W) := by
  intro pins s σ H xs us Q I r ⟨x, d, A, e, rx, sh, ln, dp, q⟩
  subst e
  obtain ⟨u, rfl, ru⟩ := vals1 r
  have fin : ∀ tk t, EP X pins σ Q (.str d.shown t) { s with toks := tk } := fun tk t => ⟨.str _, H, I.tok tk, ⟨t, rfl⟩, q⟩
  cases hd : d with
  | none =>
    subst hd
    cases rx
    cases ru
    exact PySem.P.repr_of_none (fin _ _)
  | bool b =>
    subst hd
    cases rx
    cases ru
    refine PySem.P.repr_of_bool ?_
    have := fin (s.toks + 1) s.toks
    simp only [PyData.shown] at this
    cases b <;> exact this
  | int i =>
    subst hd
    cases rx
    obtain ⟨t, rfl⟩ := ru
    exact PySem.P.repr_of_int (by simpa [PyData.showable] using sh) (fin _ _)
  | str z =>
    subst hd
    cases rx
    obtain ⟨t, rfl⟩ := ru
    exact PySem.P.repr_of_str (fin _ _) ln
  | dict kvs =>
    have rd := RepD.rn I d x u (hK ▸ rx) ru
    subst hd
    obtain ⟨a, us, rfl, f, l, r2⟩ := rx.dct_inv
    cases ru
    exact repr_rn rd sh ln hg (by omega) (fun h' u tk kp => ⟨.str _, H, I.kept kp, ⟨u, rfl⟩, q⟩)
  | list ds =>
    have rd := RepD.rn I d x u (hK ▸ rx) ru
    subst hd
    obtain ⟨a, us, rfl, f, l, r2⟩ := rx.lst_inv
    cases ru
    exact repr_rn rd sh ln hg (by omega) (fun h' u tk kp => ⟨.str _, H, I.kept kp, ⟨u, rfl⟩, q⟩)
  | tuple ds =>
    have rd := RepD.rn I d x u (hK ▸ rx) ru
    subst hd
    obtain ⟨a, us, rfl, f, l, r2⟩ := rx.tup_inv
    cases ru
    exact repr_rn rd sh ln hg (by omega) (fun h' u tk kp => ⟨.str _, H, I.kept kp, ⟨u, rfl⟩, q⟩)
end
end Nv
set_option Elab.async false
set_option linter.all false
set_option maxRecDepth 100000
/-! N6s: list(text). -/
namespace Nv
open PySem PySem.Spec L2 PyProof.Rows
section
variable {prog : Program} {w : World} {A : Around} {E : Value → Shared → Prop} {s : Shared}
theorem ls_hint (x : Str) (t : Tok) {A' : Around} {E' : Value → Shared → Prop} {s' : Shared} {Q : Bool → Shared → Prop} (q : Q false s') : wpAny (model prog w) A' (Builtin.List.listLengthHint (.str x t)) Q E' s' := by
  unfold Builtin.List.listLengthHint
  refine wpAny_bind (wpAny_specialOf (T := "str") (v := .str x t) rfl PySem.F.str_len ?_); wp_delta
  refine wpAny_bind (wpAny_isInstance (T := "str") (v := .str x t) (b := true) rfl (by rw [isSubtype_type]; kernel_rfl) ?_); show wpAny _ A' (typeOf (Value.str x t) >>= _) _ _ _
  exact wpAny_bind (wpAny_typeOf (T := "str") (v := .str x t) rfl (wpAny_pure q))
theorem ls_extend {R : Result → Shared → Prop} (x : Str) (t : Tok) (hh : A.handled = none) (hn : x.cps.size ≤ sizeLine) (S : Addr) (res : Value) (c0 : Nat) (hS : s.heap.get? S = some { cls := .type "list", data := .seq #[] c0 })
    (hR : ∀ h' tk acc c', (∀ b o, b ≠ S → s.heap.get? b = some o → h'.get? b = some o) → h'.get? S = some { cls := .type "list", dict := none, data := .seq acc c', slots := #[] } → ItemsOf (SignAt x) acc x.cps.size → R (.ok (.ret res)) { s with heap := h', toks := tk }) :
    wpAny (model prog w) A.in1 (Builtin.List.listExtendWith (.ref S) (.str x t) res) (fun fin s' => match fin with
      | .done f => R (.ok f) s'
      | .again c' => c'.quiet = true ∧ codeAny (model prog w) A c' R s') (fun e s' => R (.error e) s') s := by
  have lt := Heap.lt_size hS
  have nI : S ≠ s.heap.objs.size := Nat.ne_of_lt lt
  have nf : S ∉ [s.heap.objs.size] := fun m => nI (List.mem_singleton.mp m)
  unfold Builtin.List.listExtendWith
  refine wpAny_bind (wpAny_typeOf (T := "str") (v := .str x t) rfl ?_); rw [show Builtin.List.listSameRef (.ref S) (.str x t) = false from rfl, show (Value.type "str" == Value.type "list") = false by decide, show (Value.type "str" == Value.type "tuple") = false by decide]
  simp only [Bool.or_false, Bool.false_eq_true, if_false]
  refine wpAny_bind (wpAny_pyIter_str fun o St W st0 => ?_); refine wpAny_bind (wpAny_holding (ls_hint x t ?_))
  rw [if_neg (by decide)]
  have hS1 : (s.heap.push o).get? S = some _ := Heap.get?_push_of_some o hS
  refine wpAny_pure ⟨plainId_quiet PySem.F.plain_extend_loop _, codeAny_extend_loopS (s := { s with heap := s.heap.push o }) (St := fun i s => St i s.heap) (W A.in1 hh).toS hn S nf res x.cps.size 0 #[] c0 rfl (Nat.zero_le _) st0 hS1 (ItemsOf.nil _) fun s' acc c' hm hS' ha => ?_⟩
  rw [Moved.eq_with hm]
  refine hR s'.heap s'.toks acc c' (fun b ob nb e => hm.heap b ob (fun m => ?_) (Heap.get?_push_of_some _ e)) hS' ha
  rcases List.mem_cons.mp m with e' | m'
  · exact nb e'
  · exact Nat.lt_irrefl _ (List.mem_singleton.mp m' ▸ Heap.lt_size e)
theorem ls_init {R : Result → Shared → Prop} (x : Str) (t : Tok) (hh : A.handled = none) (hn : x.cps.size ≤ sizeLine) (S : Addr) (hS : s.heap.get? S = some { cls := .type "list", data := .seq #[] })
    (hR : ∀ h' tk acc c', (∀ b o, b ≠ S → s.heap.get? b = some o → h'.get? b = some o) → h'.get? S = some { cls := .type "list", dict := none, data := .seq acc c', slots := #[] } → ItemsOf (SignAt x) acc x.cps.size → R (.ok (.ret .none)) { s with heap := h', toks := tk }) :
    wpAny (model prog w) A.in1 (Builtin.«list.__init__» ⟨[.ref S, .str x t], []⟩) (fun fin s' => match fin with
      | .done f => R (.ok f) s'
      | .again c' => c'.quiet = true ∧ codeAny (model prog w) A c' R s') (fun e s' => R (.error e) s') s := by
  show wpAny _ _ (Builtin.List.listItems (.ref S) >>= fun old => Builtin.List.listUpdate (.ref S) (fun _ => #[]) >>= fun _ => letGo old.toList.reverse >>= fun _ => Builtin.List.listExtendWith (.ref S) (.str x t) .none) _ _ s
  refine wpAny_bind ?_; unfold Builtin.List.listItems; refine wpAny_bind (wpAny_seqItems hS rfl (wpAny_pure ?_))
  show wpAny _ _ (updateSeq S (fun _ => #[]) >>= fun _ => letGo (#[] : Array Value).toList.reverse >>= fun _ => Builtin.List.listExtendWith (.ref S) (.str x t) .none) _ _ s
  refine wpAny_bind (wpAny_updateSeq hS rfl (wpAny_bind (wpAny_letGo ?_)))
  have h2 := Heap.get?_update_self (Obj.mapSeq (fun _ => (#[] : Array Value))) hS rfl
  have ot : ∀ b o, b ≠ S → s.heap.get? b = some o → (s.heap.update S (Obj.mapSeq (fun _ => (#[] : Array Value)))).get? b = some o := fun b o nb e => (Heap.get?_update_other _ _ nb.symm).trans e
  exact ls_extend x t hh hn S .none _ h2 fun h' tk acc c' hk hS' ha => hR h' tk acc c' (fun b o nb e => hk b o nb (ot b o nb e)) hS' ha
theorem ls_call {Q : Value → Shared → Prop} (x : Str) (t : Tok) (hh : A.handled = none) (hn : x.cps.size ≤ sizeLine)
    (hQ : ∀ h' tk acc c', (∀ b o, s.heap.get? b = some o → h'.get? b = some o) → h'.get? s.heap.objs.size = some { cls := .type "list", dict := none, data := .seq acc c', slots := #[] } → ItemsOf (SignAt x) acc x.cps.size → Q (.ref s.heap.objs.size) { s with heap := h', toks := tk }) :
    wpAny (model prog w) A (call (.type "list") [.str x t]) Q E s := by
  refine callType_codes (Q₁ := fun obj s1 => obj = .ref s.heap.objs.size ∧ s1 = { s with heap := s.heap.push { cls := .type "list", data := .seq #[] } }) PySem.F.called_list (PySem.F.typeCall_list_1 _) PySem.F.entry_list_init (code_list_new _ ⟨rfl, rfl⟩) fun obj s1 h1 => ?_
  obtain ⟨rfl, rfl⟩ := h1
  have hS : (s.heap.push { cls := .type "list", data := .seq #[] }).get? s.heap.objs.size = some { cls := .type "list", data := .seq #[] } := Heap.get?_push_size _ rfl
  exact ⟨⟨_, hS, rfl⟩, PySem.F.args_list_init_2 _ _, ls_init (A := A.in1) x t hh hn _ hS fun h' tk acc c' hk hS' ha => ⟨rfl, hQ h' tk acc c' (fun b o e => hk b o (Nat.ne_of_lt (Heap.lt_size e)) (Heap.get?_push_of_some _ e)) hS' ha⟩⟩
end
section
variable {X : Cx}
def signsV (x : Str) : List V := x.cps.toList.map fun c => V.str ⟨#[c]⟩
theorem vals_signs {x : Str} : ∀ (l : List Nat) (us : List Value) (k : Nat), l = x.cps.toList.drop k → us.length = l.length → (∀ j v, us[j]? = some v → SignAt x (k + j) v) → Vals (l.map fun c => V.str ⟨#[c]⟩) us
  | [], us, k, _, hl, _ => by
    have := List.eq_nil_of_length_eq_zero hl
    subst this
    exact .nil
  | c :: l, [], k, _, hl, _ => nomatch hl
  | c :: l, u :: us, k, e, hl, h => by
    obtain ⟨c', t, e1, rfl⟩ := h 0 u rfl
    have e2 : x.cps.toList[k]? = some c := by
      have := congrArg (fun z => z[0]?) e
      simp only [List.getElem?_cons_zero, List.getElem?_drop, Nat.add_zero] at this
      exact this.symm
    have e3 : x.cps.toList[k]? = some c' := by simpa using e1
    rw [e2] at e3
    cases e3
    refine .cons ⟨t, rfl⟩ (vals_signs (x := x) l us (k + 1) ?_ (Nat.succ.inj hl) fun j v ev => ?_)
    · have := congrArg List.tail e
      simpa [List.tail_drop] using this
    · have := h (j + 1) v (by simpa using ev)
      rw [show k + 1 + j = k + (j + 1) by omega]
      exact this
theorem call_listS (hc : X.calm = true) : CallR X (.type "list") (fun xs H Q => ∃ x, xs = [.str x] ∧ x.length ≤ sizeLine ∧ ∀ p, H p = none → Q (.ref p) (upd H p (.lst (signsV x)))) := by
  intro pins s σ H xs us Q I r ⟨x, ex, hz, q⟩
  subst ex
  obtain ⟨u, eu, rx⟩ := vals1 r
  subst eu
  obtain ⟨t, rfl⟩ := rx
  refine ls_call x t (I.ok.hd hc) hz fun h' tk acc c' hk hD ha => ?_
  have hv : Vals (signsV x) acc.toList := vals_signs x.cps.toList acc.toList 0 rfl (by rw [Array.length_toList, ha.1]; simp) fun j v e => ha.2 _ v (by rw [Nat.zero_add, ← Array.getElem?_toList]; exact e)
  exact ⟨.ref s.heap.objs.size, upd H s.heap.objs.size (.lst (signsV x)), I.laid (t' := tk) hk (Nat.le_refl _) (show ObjOk X.prog X.w _ _ _ (.lst (signsV x)) from ⟨by unfold signsV; rw [List.length_map]; exact hz, acc.toList, c', hv, by rw [Array.toArray_toList]; exact hD⟩), rfl, q _ (I.hok.fresh (Nat.le_refl _))⟩
end
end Nv
set_option Elab.async false
set_option linter.all false
set_option maxRecDepth 100000
/-! N6t: sorted(text), text[::-1]. -/
namespace Nv
open PySem PySem.Spec L2 PyProof.Rows
section
variable {X : Cx}
def signS (x : Str) : List Str := x.cps.toList.map fun c => ⟨#[c]⟩
theorem call_sortedX (hcalm : X.calm = true) : CallR X (.builtin "sorted") (fun xs H Q => ∃ x : Str, xs = [.str x] ∧ x.length < 64 ∧
    ∀ ys p, ys.Perm (signS x) → sortedS ys = true → H p = none → Q (.ref p) (upd H p (.lst (ys.map V.str)))) := by
  intro pins s σ H xs us Q I r q
  obtain ⟨x, ex, h64, q⟩ := q
  subst ex
  obtain ⟨u, eu, rx⟩ := vals1 r
  subst eu
  obtain ⟨t, rfl⟩ := rx
  have h16 : x.cps.size ≤ sizeLine := by rw [sizeLine_eq]; have : x.cps.size < 64 := h64; omega
  refine Calls.call_function_entry PyProof.Rows.kind_sorted PyProof.Rows.plain_sorted PyProof.Rows.entry_sorted (PyProof.Rows.args_sorted1 _) ?_
  unfold Builtin.«sorted»
  refine wpAny_bind (m := checkCount "sorted" 1 1 _) (wpAny_pure ?_)
  refine wpAny_bind (wpAny_collect_str (A := X.A.in1) (I.ok.hd hcalm) x t (fun s' acc hk hg hd ho hacc => ?_) h16)
  have es : s' = { s with heap := s'.heap, toks := s'.toks } := by cases s'; cases s; simp_all
  rw [es]
  generalize s'.heap = h' at *
  generalize s'.toks = tk at *
  have hls : (signS x).length = x.cps.size := by unfold signS; simp
  have hal : acc.toList.length = (signS x).length := by rw [Array.length_toList, hacc.1, hls]
  have hS : StrsAre acc.toList (signS x) := strs_at hal fun j v e => by
    obtain ⟨c, t, e1, e2⟩ := hacc.2 j v (by rw [← Array.getElem?_toList]; exact e)
    refine ⟨⟨#[c]⟩, t, ?_, e2⟩
    unfold signS
    rw [List.getElem?_map, Array.getElem?_toList, e1]
    rfl
  have I1 : Inv X pins σ H { s with heap := h', toks := tk } := I.kept hk
  refine wpAny_bind (wpAny_newList ?_ (by rw [hal, hls]; exact h16))
  have hoL : (h'.push (seqObj "list" acc.toList.toArray 0)).get? h'.objs.size = some (seqObj "list" acc.toList.toArray 0) := Heap.get?_push_size _ rfl
  show wpAny _ _ _ _ _ { s with heap := h'.push (seqObj "list" acc.toList.toArray 0), toks := tk }
  refine wpAny_bind (wpAny_holding (wpAny_call_entry PyProof.Rows.slot_list_sort ⟨_, hoL, rfl⟩ PyProof.Rows.entry_list_sort
    (list_sort_treeK strKind_oneLt (s := { s with heap := h'.push (seqObj "list" acc.toList.toArray 0), toks := tk }) hoL hS.keysOf (fun v₁ v₂ rest e => keyKind_strs (by rw [← e]; exact hS)) (by rw [hal, hls]; exact h64) fun st' hp hs => ⟨_, rfl, ?_⟩)
    (PyProof.Rows.args_list_sort _)))
  obtain ⟨ys, g1, g2, g3⟩ := sorted_out_str hS hp hs
  obtain ⟨e', he'⟩ := PyProof.Rows.sortedHeap_at (vs := acc.toList) (out := (arrOf st').map (·.2)) hoL
  have hlen : (ys.map V.str).length ≤ sizeLine := by
    rw [List.length_map, g2.length_eq, hls]
    exact h16
  refine wpAny_pure ⟨_, rfl, .ref h'.objs.size, upd H h'.objs.size (.lst (ys.map V.str)), I1.laid (t' := tk) (fun b u e => ?_) (Nat.le_refl _)
    (show ObjOk X.prog X.w _ _ _ (.lst (ys.map V.str)) from ⟨hlen, ((arrOf st').map (·.2)).toList, e', vals_of_strs g1, by rw [Array.toArray_toList]; exact he'⟩), rfl, q ys _ g2 g3 (I1.hok.fresh (Nat.le_refl _))⟩
  have hb : b < h'.objs.size := Heap.lt_size e
  rw [PyProof.Rows.sortedHeap_old (Nat.ne_of_lt hb) (by rw [size_push']; exact Nat.lt_succ_of_lt hb)]
  exact Heap.get?_push_of_some _ e
def revS (z : Str) : Str := ⟨z.cps.toList.reverse.toArray⟩
theorem rev_picked (z : Str) (i : Tok) : (⟨((slicePicked z none none (some (-1, i))).filterMap (z.cps[·]?)).toArray⟩ : Str) = revS z := by
  unfold revS
  congr 2
  show (Builtin.Str.strSliceIndices none none (-1) z.length).filterMap (z.cps[·]?) = _
  rw [picked_rev, filterMap_get]
  · rw [List.map_map]
    refine List.ext_getElem? fun k => ?_
    have hl : z.length = z.cps.toList.length := by simp [Str.length]
    rw [hl, List.getElem?_map]
    by_cases hk : k < z.cps.toList.length
    · rw [List.getElem?_range hk, List.getElem?_reverse hk]
      show some (z.cps.getD (z.cps.toList.length - 1 - k) 0) = _
      have h2 : z.cps.toList.length - 1 - k < z.cps.size := by simp at hk ⊢; omega
      rw [Array.getD_eq_getD_getElem?, Array.getElem?_toList, Array.getElem?_eq_getElem h2]
      rfl
    · rw [List.getElem?_eq_none (by simpa using hk), List.getElem?_eq_none (by simpa using hk)]
      rfl
  · intro i hi
    obtain ⟨k, hk, rfl⟩ := List.mem_map.mp hi
    have hk' : k < z.length := List.mem_range.mp hk
    show z.length - 1 - k < z.length
    omega
theorem filterMap_some {α β : Type} {f : α → Option β} {g : α → β} : ∀ {l : List α}, (∀ k ∈ l, f k = some (g k)) → l.filterMap f = l.map g
  | [], _ => rfl
  | k :: l, e => by
    rw [List.filterMap_cons, e k (.head _), List.map_cons]
    show g k :: l.filterMap f = _
    rw [filterMap_some fun j hj => e j (.tail _ hj)]
theorem places_rev (n : Nat) : Builtin.Slice.slicePlaces ((n : Int) - 1) (-1) (-1) = n := by
  unfold Builtin.Slice.slicePlaces
  have h1 : ¬ ((-1 : Int) > 0) := by omega
  simp only [h1, if_false]
  split
  · have : (((n : Int) - 1 - -1 - 1) / (- -1 : Int) + 1).toNat = n := by
      have : (- -1 : Int) = 1 := by decide
      rw [this, Int.ediv_one]
      omega
    exact this
  · have : n = 0 := by omega
    subst this
    rfl
theorem pick_rev (xs : Array Value) : ((List.range xs.size).filterMap fun (k : Nat) => xs[(((xs.size : Int) - 1) + (k : Int) * (-1)).toNat]?).toArray = xs.toList.reverse.toArray := by
  congr 1
  have e : ∀ k ∈ List.range xs.size, xs[(((xs.size : Int) - 1) + (k : Int) * (-1)).toNat]? = some (xs.toList.reverse.getD k .none) := fun k hk => by
    have hk : k < xs.size := List.mem_range.mp hk
    have e1 : (((xs.size : Int) - 1) + (k : Int) * (-1)).toNat = xs.toList.length - 1 - k := by
      rw [Array.length_toList]
      omega
    have h2 : xs.toList.length - 1 - k < xs.toList.length := by rw [Array.length_toList]; omega
    rw [e1, ← Array.getElem?_toList, List.getElem?_eq_getElem h2, List.getD_eq_getElem?_getD, List.getElem?_reverse (by rw [Array.length_toList]; exact hk), List.getElem?_eq_getElem h2]
    rfl
  rw [filterMap_some e]
  refine List.ext_getElem? fun k => ?_
  rw [List.getElem?_map]
  by_cases hk : k < xs.size
  · rw [List.getElem?_range hk]
    have h2 : k < xs.toList.reverse.length := by rw [List.length_reverse, Array.length_toList]; exact hk
    rw [List.getElem?_eq_getElem h2]
    show some (xs.toList.reverse.getD k .none) = _
    rw [List.getD_eq_getElem?_getD, List.getElem?_eq_getElem h2]
    rfl
  · rw [List.getElem?_eq_none (by simpa using hk), List.getElem?_eq_none (by simpa using hk)]
    rfl
section
variable {prog : Program} {w : World} {A : Around} {E : Value → Shared → Prop} {s : Shared}
theorem sliceApplied_rev {sl : Addr} {vl vu vs : Value} {n : Nat} {Q : Int × Int × Nat → Shared → Prop} (hs : s.heap.IsSliceOf sl vl vu vs) (pl : IsPart vl none) (pu : IsPart vu none) (ps : IsPart vs (some (-1)))
    (h : Q ((n : Int) - 1, -1, n) s) : wpAny (model prog w) A (Builtin.Slice.sliceApplied (.ref sl) (pure (n : Int))) Q E s := by
  obtain ⟨os, hos, hcs, hds⟩ := id hs
  unfold Builtin.Slice.sliceApplied Builtin.Slice.sliceFields
  refine wpAny_bind (wpAny_bind (wpAny_field hos hds (x := vl) rfl (wpAny_bind (wpAny_field hos hds (x := vu) rfl (wpAny_bind (wpAny_field hos hds (x := vs) rfl (wpAny_pure ?_)))))))
  refine wpAny_bind (HT.slicePart_ ps ?_)
  show wpAny _ _ (if ((-1 : Int) == 0) = true then _ else _) _ _ s
  rw [if_neg (by decide)]
  refine wpAny_bind (HT.slicePart_ pl (wpAny_bind (HT.slicePart_ pu (wpAny_bind (wpAny_pure ?_)))))
  show wpAny _ _ (pure ((n : Int) - 1, (-1 : Int), Builtin.Slice.slicePlaces ((n : Int) - 1) (-1) (-1))) _ _ s
  rw [places_rev]
  exact wpAny_pure h
theorem getItem_tuple_rev {t sl : Addr} {items : Array Value} {vl vu vs : Value} {Q : Value → Shared → Prop} (ht : IsTup s.heap t items) (hs : s.heap.IsSliceOf sl vl vu vs) (pl : IsPart vl none) (pu : IsPart vu none) (ps : IsPart vs (some (-1)))
    (h : Q (.ref s.heap.objs.size) { s with heap := s.heap.push { cls := .type "tuple", data := .seq items.toList.reverse.toArray } })
    (hsz : items.size ≤ sizeLine) : wpAny (model prog w) A (getItem (.ref t) (.ref sl)) Q E s := by
  have hrev : sizeOk (.seq items.toList.reverse.toArray) := by
    show items.toList.reverse.toArray.size ≤ sizeLine
    rw [List.size_toArray, List.length_reverse, Array.length_toList]
    exact hsz
  obtain ⟨os, hos, hcs, hds⟩ := id hs
  have hTs : s.TypeIs (.ref sl) "slice" := ⟨os, hos, hcs⟩
  unfold getItem
  try with_reducible refine wpAny_holding ?_
  first | refine wpAny_bind (wpAny_pure ?_) | skip
  refine wpAny_bind (wpAny_sequenceKey ht.typeIs (by decide) ?_)
  refine wpAny_bind (wpAny_callSpecial?_slot (name := Str.ofString "__getitem__") ht.typeIs PyProof.Rows.slot_tuple_getitem
    (wpAny_call_entry PyProof.Rows.slot_tuple_getitem ht.typeIs entry_tuple_getitem ?_ (args_tuple_getitem _ _)))
  show wpAny _ _ (Builtin.Tuple.tupleItemsOf (.ref t) >>= _) _ _ s
  refine wpAny_bind (tupleItemsOf_ ht ?_)
  refine wpAny_bind (wpAny_typeOf hTs ?_)
  rw [if_pos (by decide)]
  refine wpAny_bind (sliceApplied_rev hs pl pu ps ?_)
  have hno : ¬ ((((items.size : Int) - 1) == 0 && (-1 : Int) == 1 && items.size == items.size) = true) := by
    intro q
    rw [Bool.and_eq_true, Bool.and_eq_true] at q
    exact absurd q.1.2 (by decide)
  show wpAny _ _ (if (((items.size : Int) - 1) == 0 && (-1 : Int) == 1 && items.size == items.size) = true then _ else _) _ _ s
  rw [if_neg hno, pick_rev]
  first
    | exact wpAny_bind (m := Builtin.Tuple.tupleExact _) (wpAny_newObj_type (wpAny_pure ⟨_, rfl, wpAny_pure h⟩) hrev)
    | exact wpAny_bind (m := Builtin.Tuple.tupleExact _) (wpAny_newObj_type (wpAny_bind (wpAny_pure (wpAny_pure ⟨_, rfl, wpAny_pure h⟩))) hrev)
    | exact wpAny_bind (wpAny_bind (m := Builtin.Tuple.tupleExact _) (wpAny_newObj_type (wpAny_pure (wpAny_pure ⟨_, rfl, wpAny_pure h⟩)) hrev))
    | exact wpAny_bind (wpAny_bind (m := Builtin.Tuple.tupleExact _) (wpAny_newObj_type (wpAny_pure ⟨_, rfl, wpAny_pure h⟩) hrev))
end
/-- xs[::-1] of a list, a text, a tuple -/
def tRevA (K : PySem.W.Frag) (te : TE) : TE := fun σ H Q => te σ H fun x H1 => (∃ a xs, x = .ref a ∧ SqL K H1 a xs ∧ ∀ p, H1 p = none → Q (.ref p) (upd H1 p (.lst xs.reverse))) ∨ (∃ z, x = .str z ∧ z.length ≤ sizeLine ∧ Q (.str (revS z)) H1) ∨ (∃ a xs, x = .ref a ∧ SqT K H1 a xs ∧ ∀ p, H1 p = none → Q (.ref p) (upd H1 p (.tup xs.reverse)))
theorem pe_revA {e : Expr} {te : TE} {k : Nat} {p1 p2 p3 pos : Pos} (he : PE X e te) : PE X (.Subscript e (.Slice none none (some (.UnaryOp .USub (.Constant (.int 1) k p1) p2)) p3) pos) (tRevA X.K te) := by
  refine ⟨fun pins s σ H Q I h => ?_⟩
  refine Subscript_ (thn (he.run pins s σ H _ I h) fun v s1 ⟨x, H1, I1, r1, q1⟩ => ?_)
  have hst : PO X (some (.UnaryOp .USub (.Constant (.int 1) k p1) p2)) (tPart (tUn (rU fun i => .int (-i)) (tC (.int 1)))) := po_some (pe_un un_neg pe_int)
  refine wpAny_Slice (thn (po_none.run pins s1 σ H1 (fun o H2 => o = none ∧ H2 = H1) I1 ⟨rfl, rfl⟩) fun vl s2 ⟨l, H2, I2, pl, el, e2⟩ => ?_)
  subst el e2
  refine thn (po_none.run pins s2 σ H2 (fun o H3 => o = none ∧ H3 = H2) I2 ⟨rfl, rfl⟩) fun vu s3 ⟨u, H3, I3, pu, eu, e3⟩ => ?_
  subst eu e3
  refine thn (hst.run pins s3 σ H3 (fun o H4 => o = some (-1) ∧ H4 = H3) I3 ⟨1, rfl, -1, rfl, rfl, rfl⟩) fun vs s4 ⟨o, H4, I4, ps, eo, e4⟩ => ?_
  subst eo e4
  have I5 : Inv X pins σ H4 { s4 with heap := s4.heap.push { cls := .type "slice", data := .fields #[vl, vu, vs] } } := I4.kept (t' := s4.toks) fun b ob q => Heap.get?_push_of_some _ q
  rcases q1 with ⟨a, xs, ex, hx, q⟩ | ⟨z, ex, hz, q⟩ | ⟨a, xs, ex, hx, q⟩
  · subst ex
    cases r1
    obtain ⟨its, r, ht, hz⟩ := I5.list hx
    have hlen := r.length
    show wpAny (model X.prog X.w) X.A (subscriptTail e (.Slice none none (some (.UnaryOp .USub (.Constant (.int 1) k p1) p2)) p3) (.ref a) (.ref s4.heap.objs.size)) (EP X pins σ Q) X.xe { s4 with heap := s4.heap.push { cls := .type "slice", data := .fields #[vl, vu, vs] } }
    refine tail_any (ops := [.ref a, .ref s4.heap.objs.size]) ht.isList.typeIs (PySem.slot_list_getitem.lookup) ?_ (by with_unfolding_all rfl)
    refine wpAny_getItem_list_slice ht.isList (Heap.IsSliceOf.new _ vl vu vs) pl pu ps (by decide) ?_ (by rw [List.size_toArray]; omega)
    rw [PySem.W.krv_pick]
    refine ⟨.ref _, _, I5.laid (t' := s4.toks) (o := .lst xs.reverse) (fun b ob q => Heap.get?_push_of_some _ q) (Nat.le_refl _) ?_, rfl, q _ (I5.hok.fresh (Nat.le_refl _))⟩
    exact ⟨by rw [List.length_reverse]; exact hz, _, 0, r.reverse, Heap.get?_push_size _ rfl⟩
  · subst ex
    obtain ⟨t, rfl⟩ := r1
    obtain ⟨l, rfl, el⟩ := IsPart.raw pl
    obtain ⟨u, rfl, eu⟩ := IsPart.raw pu
    obtain ⟨o, rfl, eo⟩ := IsPart.raw ps
    have el' : l = none := by cases l <;> first | rfl | cases el
    have eu' : u = none := by cases u <;> first | rfl | cases eu
    subst el' eu'
    obtain ⟨i, rfl⟩ : ∃ tk, o = some (-1, tk) := by
      cases o with
      | none => cases eo
      | some w => obtain ⟨w1, w2⟩ := w; cases eo; exact ⟨w2, rfl⟩
    show wpAny (model X.prog X.w) X.A (subscriptTail e (.Slice none none (some (.UnaryOp .USub (.Constant (.int 1) k p1) p2)) p3) (.str z t) (.ref s4.heap.objs.size)) (EP X pins σ Q) X.xe _
    refine tail_any (ops := [.str z t, .ref s4.heap.objs.size]) (typeIs_str _ _ _) (PySem.F.slot_str_getitem.lookup) ?_ (by with_unfolding_all rfl)
    refine wpAny_getItem_str_slice (l := none) (u := none) (st := some (-1, i)) ⟨_, Heap.get?_push_size _ rfl, rfl, rfl⟩ rfl ?_
    show Made.post (.str ⟨((slicePicked z none none (some (-1, i))).filterMap (z.cps[·]?)).toArray⟩) (EP X pins σ Q) _
    rw [rev_picked]
    have hl : (revS z).length ≤ sizeLine := by
      show (revS z).cps.size ≤ sizeLine
      have hz' : z.cps.size ≤ sizeLine := hz
      unfold revS
      simpa using hz'
    exact ⟨hl, .str _, H4, I5.tok _, ⟨_, rfl⟩, q⟩
  · subst ex
    cases r1
    obtain ⟨its, r, pt, hz⟩ := I5.tuple hx
    have hlen := r.length
    show wpAny (model X.prog X.w) X.A (subscriptTail e (.Slice none none (some (.UnaryOp .USub (.Constant (.int 1) k p1) p2)) p3) (.ref a) (.ref s4.heap.objs.size)) (EP X pins σ Q) X.xe { s4 with heap := s4.heap.push { cls := .type "slice", data := .fields #[vl, vu, vs] } }
    refine tail_any (ops := [.ref a, .ref s4.heap.objs.size]) pt.typeIs (PyProof.Rows.slot_tuple_getitem.lookup) ?_ (by with_unfolding_all rfl)
    refine getItem_tuple_rev pt (Heap.IsSliceOf.new _ vl vu vs) pl pu ps ?_ (by rw [List.size_toArray]; omega)
    refine ⟨.ref _, _, I5.laid (t' := s4.toks) (o := .tup xs.reverse) (fun b ob q => Heap.get?_push_of_some _ q) (Nat.le_refl _) ?_, rfl, q _ (I5.hok.fresh (Nat.le_refl _))⟩
    exact ⟨by rw [List.length_reverse]; exact hz, its.reverse, r.reverse, _, Heap.get?_push_size _ rfl, rfl, 0, rfl⟩
end
end Nv
set_option Elab.async false
set_option linter.all false
set_option maxRecDepth 100000
/-! N6u: a, b, .. = text. -/
namespace Nv
open PySem PySem.Spec L2 PyProof.Rows
section
variable {prog : Program} {w : World} {A : Around} {E : Value → Shared → Prop}
theorem draw_walk {I : Addr} {fp wr : List Addr} {n : Nat} {P : Nat → Value → Prop} {St : Nat → Heap → Prop} (W : Walks prog w A I fp wr n P St) : ∀ (m i : Nat) (s : Shared) (Q : List Value → Shared → Prop), St i s.heap → i + m ≤ n →
    (∀ us h' tk, us.length = m → (∀ j v, us[j]? = some v → P (i + j) v) → St (i + m) h' → (∀ b o, b ∉ wr → s.heap.get? b = some o → h'.get? b = some o) → Q us { s with heap := h', toks := tk }) → wpAny (model prog w) A (draw (.ref I) m) Q E s
  | 0, i, s, Q, st, _, hQ => by
    show wpAny _ _ (pure []) Q E s
    exact wpAny_pure (hQ [] s.heap s.toks rfl (fun j v e => nomatch e) st fun _ _ _ e => e)
  | m + 1, i, s, Q, st, hle, hQ => by
    show wpAny _ _ (pyNext (.ref I) >>= _) Q E s
    refine wpAny_bind (W.item i s _ _ (by omega) st fun v h1 tk1 p1 st1 k1 => ?_)
    refine wpAny_bind (wpAny_holding (draw_walk W m (i + 1) { s with heap := h1, toks := tk1 } _ st1 (by omega) fun us h2 tk2 l2 p2 st2 k2 => wpAny_pure ?_))
    refine hQ (v :: us) h2 tk2 (by rw [List.length_cons, l2]) (fun j u e => ?_) (by rw [show i + (m + 1) = i + 1 + m by omega]; exact st2) fun b o nb e => k2 b o nb (k1 b o nb e)
    cases j with
    | zero => cases e; exact p1
    | succ j =>
      rw [show i + (j + 1) = i + 1 + j by omega]
      exact p2 j u e
theorem unpack_str {s : Shared} {x : Str} {t : Tok} {Q : List Value → Shared → Prop} (hh : A.handled = none)
    (hQ : ∀ us h' tk, us.length = x.cps.size → (∀ j v, us[j]? = some v → SignAt x j v) → (∀ b o, s.heap.get? b = some o → h'.get? b = some o) → Q us { s with heap := h', toks := tk }) :
    wpAny (model prog w) A (unpackItems (.str x t) x.cps.size none) Q E s := by
  unfold unpackItems
  refine wpAny_bind ?_
  unfold notIterableAtAll
  refine wpAny_bind (wpAny_specialOf (T := "str") (v := .str x t) rfl PySem.F.slot_str_iter.lookup ?_)
  refine wpAny_pure ?_
  simp only [Bool.false_eq_true, if_false]
  refine wpAny_bind (wpAny_holding (wpAny_pyIter_str fun o St W st => ?_))
  have nI : ∀ b o', s.heap.get? b = some o' → b ∉ [s.heap.objs.size] := fun b o' e m => Nat.lt_irrefl _ (List.mem_singleton.mp m ▸ Heap.lt_size e)
  refine wpAny_bind (wpAny_holding (draw_walk (W A hh) x.cps.size 0 _ _ st (by omega) fun us h1 tk1 l1 p1 st1 k1 => ?_))
  rw [if_neg (by omega)]
  rw [Nat.zero_add] at st1
  refine wpAny_bind (wpAny_holding ((W A hh).done _ _ _ st1 fun h2 tk2 k2 => ?_))
  simp only [Option.isSome_none, Bool.false_eq_true, if_false]
  refine wpAny_pure (hQ us h2 tk2 l1 (fun j v e => by have := p1 j v e; rwa [Nat.zero_add] at this) fun b o' e => ?_)
  exact k2 b o' (nI b o' e) (k1 b o' (nI b o' e) (Heap.get?_push_of_some _ e))
end
section
variable {X : Cx} {pos : Pos}
/-- (a, b, ..) = a text of that length -/
def gTxt (n : Nat) (t : TGs) : TG := fun v σ H Q => ∃ x, v = .str x ∧ x.length = n ∧ t (signsV x) σ H Q
theorem pg_txt {es : List Expr} {k : Nat} {t : TGs} {n : Nat} (hc : X.calm = true) (h : PGs X es t)
    (hn : (assignEach es X.env).length = n := by rfl) (hst : (assignEach es X.env).findIdx? (·.1) = none := by rfl) : PG X (.Tuple es k pos) (gTxt n t) := by
  refine ⟨fun pins s σ H v u Q I r hw => ?_⟩
  obtain ⟨x, e1, hl, hw⟩ := hw
  subst e1
  obtain ⟨tk, rfl⟩ := r
  have hsz : (assignEach es X.env).length = x.cps.size := hn.trans hl.symm
  rw [PyProof.Rows.assign_Tuple]
  refine wpAny_bind (wpAny_standAt ?_)
  unfold unpack
  rw [hsz, hst]
  refine wpAny_bind (wpAny_holding (unpack_str (I.ok.hd hc) fun us h' tk' lu pu hk => ?_))
  have hv : Vals (signsV x) us := vals_signs x.cps.toList us 0 rfl (by rw [lu]; simp) fun j v e => by rw [Nat.zero_add]; exact pu j v e
  have I1 : Inv X pins σ H { s with heap := h', toks := tk' } := I.kept hk
  exact h.run pins _ σ H _ _ Q I1 hv hw
def gTT (K : PySem.W.Frag) (n : Nat) (t : TGs) : TG := fun v σ H Q => gTup K n t v σ H Q ∨ gTxt n t v σ H Q
theorem pg_tt {es : List Expr} {k : Nat} {t : TGs} {n : Nat} (hc : X.calm = true) (h : PGs X es t)
    (hn : (assignEach es X.env).length = n) (hst : (assignEach es X.env).findIdx? (·.1) = none) : PG X (.Tuple es k pos) (gTT X.K n t) := by
  refine ⟨fun pins s σ H v u Q I r hw => ?_⟩
  rcases hw with hw | hw
  · exact (pg_tup hc h hn hst).run pins s σ H v u Q I r hw
  · exact (pg_txt hc h hn hst).run pins s σ H v u Q I r hw
end
end Nv
set_option Elab.async false
set_option linter.all false
set_option maxRecDepth 100000
set_option exponentiation.threshold 5000
/-! N7: built-in functions and methods, all together. -/
namespace Nv
open PySem L2 PyProof.Rows

section
variable {W : Wo} {X : Cx} {φ φ' : Ph} {h h' : Hs} {H H' : Hp}
/-! ### sorted -/
def rSortedSA (K : PySem.W.Frag) : List V → Hp → VK → Prop := fun vs H Q => ∃ (a : Addr) (xs : List Str), vs = [V.ref a] ∧ SqL K H a (xs.map V.str) ∧
  ∀ (ys : List Str) (p : Addr), ys.Perm xs → sortedS ys = true → H p = none → Q (.ref p) (upd H p (.lst (ys.map V.str)))
theorem cr_sortedSA : CallR X (.builtin "sorted") (rSortedSA X.K) := by
  intro pins s σ H vs us Q I r ⟨a, xs, e, hs, q⟩
  subst e
  obtain ⟨its, rv, hl, hz⟩ := I.list hs
  rw [Vals.ref1 r]
  have n0 := rv.length
  rw [List.length_map] at n0 hz
  refine PyProof.Rows.sorted_strsAny hl.isList rv.strs (by rw [← n0]; exact hz) fun out ys h1 h2 h3 => ?_
  obtain ⟨ep, he⟩ := PyProof.Rows.sortedAll_at s.heap its out
  have l2 : (ys.map V.str).length ≤ sizeLine := by rw [List.length_map, h2.length_eq]; exact hz
  exact ⟨.ref _, upd H (s.heap.objs.size + 1) (.lst (ys.map V.str)), I.laid (t' := s.toks) (fun _ _ => PyProof.Rows.sortedAll_old) (Nat.le_succ _) ⟨l2, out.toList, ep, vals_of_strs h1, he⟩, rfl, q ys _ h2 h3 (I.hok.fresh (Nat.le_succ _))⟩
theorem srtI_uniq {l m : List Int} (p : m.Perm l) (s : m.Pairwise (· ≤ ·)) : m = srtI l := by
  have s2 : (srtI l).Pairwise (· ≤ ·) := by
    have := List.pairwise_mergeSort (le := fun a b : Int => decide (a ≤ b)) (fun a b c h1 h2 => by simp at *; omega) (fun a b => by simp; omega) l
    exact this.imp fun {a b} h => by simpa using h
  refine List.Perm.eq_of_pairwise (fun a b _ _ h1 h2 => Int.le_antisymm h1 h2) s s2 (p.trans ?_)
  exact (List.mergeSort_perm l _).symm
theorem risingS_le : ∀ {ss : List Str} {p : Str}, risingS p ss = true → (p :: ss).Pairwise (fun a b => a.cps.toList ≤ b.cps.toList)
  | [], p, _ => by simp
  | x :: r, p, h => by
    have h2 : (!PySem.Spec.ltCps x.cps.toList p.cps.toList) = true ∧ risingS x r = true := by
      simpa [risingS] using h
    have ih := risingS_le h2.2
    have hle : p.cps.toList ≤ x.cps.toList := by
      have e : PySem.Spec.ltCps x.cps.toList p.cps.toList = decide (x.cps.toList < p.cps.toList) := PyProof.Rows.ltCps_eq _ _
      rw [e] at h2
      simpa [List.not_lt] using h2.1
    refine List.pairwise_cons.mpr ⟨fun y hy => ?_, ih⟩
    rcases List.mem_cons.mp hy with rfl | hy
    · exact hle
    · exact List.le_trans hle ((List.pairwise_cons.mp ih).1 y hy)
theorem srtS_uniq {l m : List Str} (p : m.Perm l) (s : sortedS m = true) : m = srtS l := by
  have s1 : m.Pairwise (fun a b => a.cps.toList ≤ b.cps.toList) := by
    cases m with
    | nil => simp
    | cons x r => exact risingS_le s
  have s2 : (srtS l).Pairwise (fun a b => a.cps.toList ≤ b.cps.toList) := by
    have := List.pairwise_mergeSort (le := fun a b : Str => !strLt b a) (fun a b c h1 h2 => by
      simp only [strLt, Bool.not_eq_true', decide_eq_false_iff_not, List.not_lt] at *
      exact List.le_trans h1 h2) (fun a b => by
      simp only [strLt, Bool.or_eq_true, Bool.not_eq_true', decide_eq_false_iff_not, List.not_lt]
      exact List.le_total _ _) l
    exact this.imp fun {a b} h => by simpa [strLt, List.not_lt] using h
  refine List.Perm.eq_of_pairwise (fun a b _ _ h1 h2 => ?_) s1 s2 (p.trans (List.mergeSort_perm l _).symm)
  have e := List.le_antisymm h1 h2
  cases a; cases b
  simp at e
  rw [e]
theorem srtI_len (l : List Int) : (srtI l).length = l.length := (List.mergeSort_perm l _).length_eq
theorem srtS_len (l : List Str) : (srtS l).length = l.length := (List.mergeSort_perm l _).length_eq
def rSortD : List V → Hp → VK → Prop := fun xs H Q => ∃ (a : Addr) (kvs : List (Key × V)) (ks : List Str), xs = [.ref a] ∧ Rd H a (.dK kvs) ∧ kvs.map (·.1) = ks.map Sum.inr ∧ ks.length < 64 ∧
  ∀ ys p, ys.Perm ks → sortedS ys = true → H p = none → Q (.ref p) (upd H p (.lst (ys.map V.str)))
def rSortDI : List V → Hp → VK → Prop := fun xs H Q => ∃ (a : Addr) (kvs : List (Key × V)) (ks : List Int), xs = [.ref a] ∧ Rd H a (.dK kvs) ∧ kvs.map (·.1) = ks.map Sum.inl ∧ ks.length < 64 ∧
  ∀ (ys : List Int) (p : Addr), ys.Perm ks → ys.Pairwise (· ≤ ·) → H p = none → Q (.ref p) (upd H p (.lst (ys.map V.int)))
theorem keys_int : ∀ {ks : List Key} {is : List Int}, intsOf (ks.map kD) = some is → ks = is.map Sum.inl
  | [], is, e => by cases e; rfl
  | .inl i :: ks, is, e => by
    obtain ⟨js, e1, rfl⟩ := Option.map_eq_some_iff.mp (show (intsOf (ks.map kD)).map (i :: ·) = some is from e)
    rw [keys_int e1]
    rfl
  | .inr _ :: ks, is, e => by cases e
theorem keys_str : ∀ {ks : List Key} {ss : List Str}, strsOf (ks.map kD) = some ss → ks = ss.map Sum.inr
  | [], ss, e => by cases e; rfl
  | .inr i :: ks, ss, e => by
    obtain ⟨js, e1, rfl⟩ := Option.map_eq_some_iff.mp (show (strsOf (ks.map kD)).map (i :: ·) = some ss from e)
    rw [keys_str e1]
    rfl
  | .inl _ :: ks, ss, e => by cases e
theorem repKs_keys {K : PySem.W.Frag} {A : Addr → Prop} : ∀ {xs : List (Key × V)} {ds : List (PD × PD)}, RepKs K A H xs ds → ds.map (·.1) = (xs.map (·.1)).map kD ∧ ∀ k ∈ xs.map (·.1), KeyOk k
  | _, _, .nil => ⟨rfl, fun _ m => nomatch m⟩
  | _, _, .cons hk h t => by
    obtain ⟨e1, e2⟩ := repKs_keys t
    refine ⟨by simp only [List.map_cons, e1], fun k m => ?_⟩
    rcases List.mem_cons.mp m with rfl | m
    · exact hk
    · exact e2 k m
theorem repW_keys : ∀ {xs : List (Key × V)} {ds : List (Key × Val)}, RepW W φ h H xs ds → ds.map (·.1) = xs.map (·.1) ∧ ∀ k ∈ xs.map (·.1), KeyOk k
  | _, _, .nil => ⟨rfl, fun _ m => nomatch m⟩
  | _, _, .cons q t => by
    obtain ⟨e1, e2⟩ := repW_keys t
    refine ⟨by simp only [List.map_cons, e1, q.1], fun k m => ?_⟩
    rcases List.mem_cons.mp m with rfl | m
    · exact q.2.1
    · exact e2 k m
theorem sortM_want {m : Bool} {ds : List PD} {z : Val} {Q : VK} {P : Prop} (a : AbsH W φ h H) (e : sortM m ds h = .ok z h') (k : Wnt W φ h H z h' Q) (l : ds.length ≤ sizeLine) (hs : ∀ s, PyData.str s ∈ ds → s.length ≤ sizeLine ∧ ascOk s = true)
    (f : ∀ is, intsOf ds = some is → (∀ (ys : List Int) (p : Addr), ys.Perm is → ys.Pairwise (· ≤ ·) → H p = none → Q (.ref p) (upd H p (.lst (ys.map V.int)))) → P)
    (g : ∀ ss, strsOf ds = some ss → (∀ (ys : List Str) (p : Addr), ys.Perm ss → sortedS ys = true → H p = none → Q (.ref p) (upd H p (.lst (ys.map V.str)))) → P) : P := by
  unfold sortM at e
  cases q : intsOf ds with
  | some is =>
    rw [q] at e
    have li : is.length = ds.length := by
      have go : ∀ {ds : List PD} {is : List Int}, intsOf ds = some is → is.length = ds.length := by
        intro ds
        induction ds with
        | nil => intro is e; cases e; rfl
        | cons d r ih =>
          intro is e
          cases d <;> first | (cases e; done) | skip
          obtain ⟨js, e1, rfl⟩ := Option.map_eq_some_iff.mp (show (intsOf r).map (_ :: ·) = some is from e)
          rw [List.length_cons, List.length_cons, ih e1]
      exact go q
    refine f is q fun ys p hp hs hb => ?_
    rw [srtI_uniq hp hs]
    refine mkL_want e k a ?_ (ints_repVs _) hb
    rw [List.length_map, srtI_len, li]
    exact l
  | none =>
    rw [q] at e
    obtain ⟨ss, h3, e6, e7⟩ := bind_inv (show (optM (strsOf ds) >>= fun ss => mkL m ((srtS ss).map fun i => .d (.str i))) h = .ok z h' from e)
    obtain ⟨rfl, e8⟩ := optM_inv e6
    have go : ∀ {ds : List PD} {ss : List Str}, strsOf ds = some ss → ss.length = ds.length ∧ ∀ s ∈ ss, PyData.str s ∈ ds := by
      intro ds
      induction ds with
      | nil => intro is e; cases e; exact ⟨rfl, fun _ m => nomatch m⟩
      | cons d r ih =>
        intro is e
        cases d <;> first | (cases e; done) | skip
        obtain ⟨js, e1, rfl⟩ := Option.map_eq_some_iff.mp (show (strsOf r).map (_ :: ·) = some is from e)
        obtain ⟨h1, h2⟩ := ih e1
        refine ⟨by rw [List.length_cons, List.length_cons, h1], fun s m => ?_⟩
        rcases List.mem_cons.mp m with rfl | m
        · exact List.mem_cons_self ..
        · exact List.mem_cons_of_mem _ (h2 s m)
    obtain ⟨l1, l2⟩ := go e8
    refine g ss e8 fun ys p hp hs' hb => ?_
    rw [srtS_uniq hp hs']
    refine mkL_want e7 k a ?_ (strs_repVs _ fun s m => hs s (l2 s ((List.mergeSort_perm ss _).mem_iff.mp m))) hb
    rw [List.length_map, srtS_len, l1]
    exact l
theorem repDs_str {K : PySem.W.Frag} {A : Addr → Prop} : ∀ {xs : List V} {ds : List PD}, RepDs K A H xs ds → ∀ s, PyData.str s ∈ ds → s.length ≤ sizeLine ∧ ascOk s = true
  | _, _, .nil, s, m => nomatch m
  | _, _, .cons r t, s, m => by
    rcases List.mem_cons.mp m with e | m
    · subst e
      exact r.str_inv.2
    · exact repDs_str t s m
theorem keyOk_str {ks : List Key} (hk : ∀ k ∈ ks, KeyOk k) : ∀ s, PyData.str s ∈ ks.map kD → s.length ≤ sizeLine ∧ ascOk s = true := fun s m => by
  obtain ⟨k, mk, e⟩ := List.mem_map.mp m
  cases k with
  | inl => cases e
  | inr z0 => cases e; exact hk _ mk _ rfl
def rSortX : List V → Hp → VK → Prop := fun xs H Q => ∃ x : Str, xs = [.str x] ∧ x.length < 64 ∧ ∀ ys p, ys.Perm (signS x) → sortedS ys = true → H p = none → Q (.ref p) (upd H p (.lst (ys.map V.str)))
theorem sigs_strs (x : Str) : strsOf (sigs x) = some (signS x) := by
  unfold sigs signS
  induction x.cps.toList with
  | nil => rfl
  | cons c r ih => show (strsOf (r.map fun c => PyData.str ⟨#[c]⟩)).map _ = _; rw [ih]; rfl
theorem sigs_ints {x : Str} {is : List Int} (e : intsOf (sigs x) = some is) : is = [] ∧ signS x = [] := by
  unfold sigs at e
  unfold signS
  cases h : x.cps.toList with
  | nil => rw [h] at e; cases e; exact ⟨rfl, rfl⟩
  | cons c r => rw [h] at e; cases e
def rSortAll (K : PySem.W.Frag) : List V → Hp → VK → Prop := fun xs H Q => (((rSortedI K xs H Q ∨ rSortedSA K xs H Q) ∨ rSortD xs H Q) ∨ rSortDI xs H Q) ∨ rSortX xs H Q
theorem s_sorted {m : Bool} : RCS W (rSortAll W.K) (biV .sorted m) := by
  intro φ h H xs vs z h' Q a r e k
  refine rcs_one (fun _ _ => rfl) r e fun v x e1 e2 rx e => ?_
  subst e1 e2
  have lists : ∀ {p : Addr} {us : List V} {ds : List PD}, x = .ref p → Rd H p (.lst us) → us.length ≤ sizeLine → RepDs W.K (Al φ h) H us ds → sortM m ds h = .ok z h' → rSortAll W.K [x] H Q := fun {p us ds} hx t l r3 e4 => by
    subst hx
    refine sortM_want a e4 k (by rw [← r3.length]; exact l) (repDs_str r3) (fun is q f => ?_) fun ss q f => ?_
    · have e6 := repDs_ints r3 q
      exact .inl (.inl (.inl (.inl ⟨p, is, rfl, by rw [← e6]; exact .inl t, f⟩)))
    · obtain ⟨e9, hs⟩ := repDs_strs r3 q
      exact .inl (.inl (.inl (.inr ⟨p, ss, rfl, by rw [← e9]; exact .inl t, f⟩)))
  have dicts : ∀ {p : Addr} {us : List (Key × V)}, x = .ref p → Rd H p (.dK us) → us.length ≤ sizeLine → (∀ k ∈ us.map (·.1), KeyOk k) → us.length < 64 → sortM m ((us.map (·.1)).map kD) h = .ok z h' → rSortAll W.K [x] H Q := fun {p us} hx t l hk h6 e4 => by
    subst hx
    refine sortM_want a e4 k (by rw [List.length_map, List.length_map]; exact l) (keyOk_str hk) (fun is q f => ?_) fun ss q f => ?_
    · have e6 := keys_int q
      exact .inl (.inr ⟨p, us, is, rfl, t, e6, by have := congrArg List.length e6; rw [List.length_map, List.length_map] at this; omega, f⟩)
    · have e6 := keys_str q
      exact .inl (.inl (.inr ⟨p, us, ss, rfl, t, e6, by have := congrArg List.length e6; rw [List.length_map, List.length_map] at this; omega, f⟩))
  cases v with
  | r i =>
    obtain ⟨p, ep, hx⟩ := rx
    obtain ⟨o, h1, e1, e2⟩ := bind_inv (show (getO i >>= fun o => sortO m o) h = .ok z h' from e)
    obtain ⟨rfl, eo⟩ := getO_inv e1
    cases o with
    | lst ys =>
      obtain ⟨ds, h2, e3, e4⟩ := bind_inv (show (optM (dats ys) >>= fun ds => sortM m ds) _ = .ok z h' from e2)
      obtain ⟨rfl, e5⟩ := optM_inv e3
      obtain ⟨us, e6, l6, r6⟩ := a.ob i p _ ep eo
      rw [dats_inv e5] at r6
      exact lists hx (.inl e6) l6 (repVs_d r6) e4
    | dct kvs =>
      obtain ⟨us, e6, l6, r6⟩ := a.ob i p _ ep eo
      obtain ⟨k1, k2⟩ := repW_keys r6
      obtain ⟨c, e3⟩ := ite_inv (show (if kvs.length < 64 then sortM m (kvs.map fun p => kD p.1) else bad) _ = .ok z h' from e2)
      have ee : (kvs.map fun p => kD p.1) = (us.map (·.1)).map kD := by rw [← k1, List.map_map]; rfl
      rw [ee] at e3
      have lk := congrArg List.length k1
      rw [List.length_map, List.length_map] at lk
      exact dicts hx (.inl e6) l6 k2 (by omega) e3
    | ins => exact bad_ne e2
    | dtt => exact bad_ne e2
    | dead => exact bad_ne e2
  | d v =>
    cases v <;> first | (exact bad_ne e) | skip
    · rename_i y _
      obtain ⟨c, e3⟩ := ite_inv (show (if _ then sortM m (sigs y) else bad) _ = .ok z h' from e)
      obtain ⟨rfl, ly, oy⟩ := rx.d.str_inv
      refine sortM_want a e3 k (by unfold sigs; rw [List.length_map, Array.length_toList]; exact ly) (fun s ms => ?_) (fun is q f => ?_) fun ss q f => ?_
      · obtain ⟨c, mc, ec⟩ := List.mem_map.mp ms
        cases ec
        exact ⟨by show 1 ≤ sizeLine; decide, asc_one (asc_mem oy mc)⟩
      · obtain ⟨rfl, q2⟩ := sigs_ints q
        refine .inr ⟨_, rfl, c, fun ys p hp hs hb => ?_⟩
        rw [q2] at hp
        rw [hp.eq_nil]
        exact f [] p (List.Perm.refl _) .nil hb
      · rw [sigs_strs] at q
        cases q
        exact .inr ⟨_, rfl, c, f⟩
    · obtain ⟨p, us, hx, f1, l1, r1⟩ := rx.d.lst_inv
      exact lists hx f1.1 l1 r1 e
    · obtain ⟨p, us, hx, f1, l1, r1⟩ := rx.d.dct_inv
      obtain ⟨k1, k2⟩ := repKs_keys r1
      obtain ⟨c, e3⟩ := ite_inv (show (if _ then sortM m _ else bad) _ = .ok z h' from e)
      rw [k1] at e3
      have lk := congrArg List.length k1
      rw [List.length_map, List.length_map, List.length_map] at lk
      exact dicts hx f1.1 l1 k2 (by omega) e3
theorem call_str_bl : CallR X (.type "str") (fun xs H Q => ∃ b : Bool, xs = [.bl b] ∧ Q (.str (if b then "True" else "False")) H) := by
  intro pins s σ H xs us Q I r h
  obtain ⟨b, rfl, q⟩ := h
  obtain ⟨u, rfl, hu⟩ := vals1 r
  cases hu
  exact PySem.P.str_of_bool ⟨.str _, H, I.tok _, ⟨_, rfl⟩, q⟩
theorem num_len {i : Int} (h : i.natAbs.log2 < 1920) : (Str.ofString (toString i)).length ≤ sizeLine := by
  have hn : i.natAbs < 2 ^ 1920 := by
    by_cases z : i.natAbs = 0
    · rw [z]; exact Nat.two_pow_pos _
    · exact (Nat.log2_lt z).mp h
  have h1 : (Nat.repr i.natAbs).length ≤ 1920 := nat_repr_length_le (by decide) hn
  have h2 : (toString i).toList.length ≤ 1921 := by
    cases i with
    | ofNat n =>
      have e : toString (Int.ofNat n) = Nat.repr n := rfl
      rw [e]
      have : (Nat.repr n).toList.length = (Nat.repr n).length := String.length_toList
      have h1' : (Nat.repr n).length ≤ 1920 := h1
      omega
    | negSucc n =>
      have e : toString (Int.negSucc n) = "-" ++ Nat.repr (n + 1) := rfl
      rw [e, String.toList_append, List.length_append]
      have : (Nat.repr (n + 1)).toList.length = (Nat.repr (n + 1)).length := String.length_toList
      have h1' : (Nat.repr (n + 1)).length ≤ 1920 := h1
      have : "-".toList.length = 1 := rfl
      omega
  rw [Str.ofString_eq_toList]
  show (List.toArray _).size ≤ _
  rw [List.size_toArray, List.length_map]
  exact Nat.le_trans h2 (by decide)
/-! ### which they are -/
inductive Bv where
  | fn (id : String)
  | ty (T : String)
def Bv.v : Bv → Value
  | .fn id => .builtin id
  | .ty T => .type T
def biB : Bi → Bv
  | .len => .fn "len" | .all => .fn "all" | .any => .fn "any" | .int => .ty "int" | .str => .ty "str" | .bool => .ty "bool" | .repr => .fn "repr" | .list => .ty "list"
  | .tuple => .ty "tuple" | .sorted => .fn "sorted" | .sum => .fn "sum" | .max => .fn "max" | .min => .fn "min" | .dict => .ty "dict"
def rNo : List V → Hp → VK → Prop := fun _ _ _ => False
theorem ints_arg {f : List Int → M Val} {x : V} {v z : Val} (a : AbsH W φ h H) (rx : RepV W φ h H x v) (e : (lstOf v >>= fun xs => optM (dats xs) >>= fun ds => optM (intsOf ds) >>= f) h = .ok z h') :
    ∃ p is, x = .ref p ∧ SqL W.K H p (is.map V.int) ∧ f is h = .ok z h' := by
  obtain ⟨ys, h1, e1, e2⟩ := bind_inv e
  obtain ⟨ds, h2, e3, e4⟩ := bind_inv e2
  obtain ⟨rfl, e5⟩ := optM_inv e3
  obtain ⟨is, h3, e6, e7⟩ := bind_inv e4
  obtain ⟨rfl, e8⟩ := optM_inv e6
  obtain ⟨rfl, p, us, rfl, l, r2, t⟩ := lstOf_inv a rx e1
  rw [dats_inv e5] at r2
  exact ⟨p, is, rfl, by rw [← repDs_ints (repVs_d r2) e8]; exact .inl t, e7⟩
theorem fold_max : ∀ (r : List Int) (i : Int), (r.foldl max i = i ∨ r.foldl max i ∈ r) ∧ i ≤ r.foldl max i ∧ ∀ j ∈ r, j ≤ r.foldl max i
  | [], i => ⟨.inl rfl, Int.le_refl _, fun _ m => nomatch m⟩
  | a :: r, i => by
    obtain ⟨h1, h2, h3⟩ := fold_max r (max i a)
    rw [List.foldl_cons]
    refine ⟨?_, by omega, fun j m => ?_⟩
    · rcases h1 with h1 | h1
      · rw [h1]
        rcases Int.le_total i a with q | q
        · exact .inr (by rw [Int.max_eq_right q]; exact List.mem_cons_self ..)
        · exact .inl (Int.max_eq_left q)
      · exact .inr (List.mem_cons_of_mem _ h1)
    · rcases List.mem_cons.mp m with rfl | m
      · omega
      · exact h3 j m
theorem maxOf_max {l : List Int} {i : Int} (e : maxOf l = some i) : i ∈ l ∧ ∀ j ∈ l, j ≤ i := by
  cases l with
  | nil => cases e
  | cons a r =>
    cases e
    obtain ⟨h1, h2, h3⟩ := fold_max r a
    refine ⟨?_, fun j m => ?_⟩
    · rcases h1 with h1 | h1
      · rw [h1]; exact List.mem_cons_self ..
      · exact List.mem_cons_of_mem _ h1
    · rcases List.mem_cons.mp m with rfl | m
      · exact h2
      · exact h3 j m
theorem rep_signs : ∀ l : List Nat, (∀ c, c ∈ l → c < 128) → RepDs W.K (Al φ h) H (l.map fun c => V.str ⟨#[c]⟩) (l.map fun c => PyData.str ⟨#[c]⟩)
  | [], _ => .nil
  | c :: l, q => .cons (.str _ (by show 1 ≤ sizeLine; decide) (asc_one (q c (List.mem_cons_self ..)))) (rep_signs l fun d m => q d (List.mem_cons_of_mem _ m))
theorem op_bi (hK : X.K = W.K) (hc : X.calm = true) (hg : X.A.guards = some []) (hu : X.A.units + 65 < cLine) (o : Bi) (m : Bool) : ∃ r, CallR X (biB o).v r ∧ RCS W r (biV o m) := by
  have no : ∀ f : Value, CallR X f rNo := fun f pins s σ H xs us Q I r h => h.elim
  cases o with
  | len => exact ⟨_, call_lenAll, hK ▸ s_len⟩
  | all => exact ⟨_, cr_all hc, hK ▸ s_all⟩
  | any => exact ⟨_, cr_any hc, hK ▸ s_any⟩
  | int =>
    refine ⟨_, call_int1, ?_⟩
    intro φ h H xs vs z h' Q a r e k
    refine rcs_one (fun _ _ => rfl) r e fun v x e1 e2 rx e => ?_
    subst e1 e2
    cases v with
    | r => exact bad_ne e
    | d v =>
      cases v <;> first | (exact bad_ne e) | skip
      · cases e
        cases rx.d.bool_inv
        refine .inr ⟨_, rfl, ?_⟩
        exact k.int a
      · cases e
        cases rx.d.int_inv
        exact .inl ⟨_, rfl, k.int a⟩
  | bool =>
    refine ⟨_, call_bool1, ?_⟩
    intro φ h H xs vs z h' Q a r e k
    refine rcs_one (fun _ _ => rfl) r e fun v x e1 e2 rx e => ?_
    subst e1 e2
    cases v with
    | r => exact bad_ne e
    | d v =>
      cases v <;> first | (exact bad_ne e) | skip
      · cases e
        cases rx.d.bool_inv
        exact .inr ⟨_, rfl, k.bl a⟩
      · cases e
        cases rx.d.int_inv
        exact .inl ⟨_, rfl, k.bl a⟩
  | str =>
    refine ⟨_, CallR.or (CallR.or call_str_int call_str_bl) SkE.call_str_str, ?_⟩
    intro φ h H xs vs z h' Q a r e k
    refine rcs_one (fun _ _ => rfl) r e fun v x e1 e2 rx e => ?_
    subst e1 e2
    cases v with
    | r => exact bad_ne e
    | d v =>
      cases v <;> first | (exact bad_ne e) | skip
      · cases e
        cases rx.d.bool_inv
        exact .inl (.inr ⟨_, rfl, k.str a (by split <;> decide +kernel) (by split <;> decide +kernel)⟩)
      · obtain ⟨c, e2⟩ := ite_inv (show (if _ then (pure (.d (.str (toString _))) : M Val) else bad) h = .ok z h' from e)
        cases e2
        cases rx.d.int_inv
        exact .inl (.inl ⟨_, rfl, c, k.str a (num_len c) (asc_num _)⟩)
      · cases e
        obtain ⟨rfl, l, o⟩ := rx.d.str_inv
        exact .inr ⟨_, rfl, k.str a l o⟩
  | repr =>
    refine ⟨_, call_reprAll hK hg (by omega), ?_⟩
    intro φ h H xs vs z h' Q a r e k
    refine rcs_one (fun _ _ => rfl) r e fun v x e1 e2 rx e => ?_
    subst e1 e2
    cases v with
    | r => exact bad_ne e
    | d v =>
      obtain ⟨c, e2⟩ := ite_inv (show (if v.showable = true ∧ v.shown.length ≤ lim ∧ v.depth ≤ 60 then (pure (.d (.str v.shown)) : M Val) else bad) h = .ok z h' from e)
      cases e2
      exact ⟨x, v, _, rfl, rx.d, c.1, c.2.1, c.2.2, k.str a c.2.1 (asc_shown v x rx.d)⟩
  | list =>
    refine ⟨_, CallR.or call_list_of (call_listS hc), ?_⟩
    intro φ h H xs vs z h' Q a r e k
    refine rcs_one (fun _ _ => rfl) r e fun v x e1 e2 rx e => ?_
    subst e1 e2
    have sq : ∀ {v : Val}, RepV W φ h H x v → (seqOf v >>= fun xs => mkL m xs) h = .ok z h' → (∃ p ys, [x] = [.ref p] ∧ (SqL X.K H p ys ∨ SqT X.K H p ys) ∧ ∀ l, H l = none → Q (.ref l) (upd H l (.lst ys))) := fun {v} rx e => by
      obtain ⟨ys, h1, e1, e2⟩ := bind_inv e
      obtain ⟨rfl, p, us, rfl, l, r2, t⟩ := seqOf_inv a rx e1
      refine ⟨p, us, rfl, ?_, fun b hb => mkL_want e2 k a l r2 hb⟩
      rcases t with ⟨_, t⟩ | ⟨_, _, t⟩
      · exact .inl (.inl t)
      · exact .inr (hK ▸ t)
    cases v with
    | r i => exact .inl (sq rx e)
    | d v =>
      cases v with
      | str y =>
        refine .inr ?_
        obtain ⟨rfl, ly, oy⟩ := rx.d.str_inv
        exact ⟨y, rfl, ly, fun p hp => mkL_want e k a (by rw [List.length_map]; exact ly) (repDs_v (rep_signs _ fun c m => asc_mem oy m)) hp⟩
      | tuple ds => exact .inl (sq rx e)
      | list => exact .inl (sq rx e)
      | none => exact .inl (sq rx e)
      | bool => exact .inl (sq rx e)
      | int => exact .inl (sq rx e)
      | dict => exact .inl (sq rx e)
  | tuple =>
    refine ⟨_, call_tuple_of, ?_⟩
    intro φ h H xs vs z h' Q a r e k
    have lists : ∀ {v : Val} {x : V}, RepV W φ h H x v → (∀ ds, v ≠ .d (.tuple ds)) → xs = [x] → (seqOf v >>= fun xs => frzs xs >>= fun ds => (pure (.d (.tuple ds)) : M Val)) h = .ok z h' → ∃ p ys, xs = [.ref p] ∧ ((SqL X.K H p ys ∧ ∀ l, H l = none → Q (.ref l) (upd H l (.tup ys))) ∨ (SqT X.K H p ys ∧ Q (.ref p) H)) := fun {v x} rx nt ex e => by
      obtain ⟨ys, h1, e1, e2⟩ := bind_inv e
      obtain ⟨rfl, p, us, rfl, l, r2, t⟩ := seqOf_inv a rx e1
      rcases t with ⟨_, t⟩ | ⟨ds, q, t⟩
      · exact ⟨p, us, ex, .inl ⟨.inl t, fun b hb => tup_want a r2 l e2 k hb⟩⟩
      · exact absurd q (nt ds)
    refine rcs_one (fun _ _ => rfl) r e fun v x e1 e2 rx e => ?_
    subst e1 e2
    cases v with
    | r i => exact lists rx (fun _ z => nomatch z) rfl e
    | d v =>
      cases v with
      | tuple ds =>
        cases e
        obtain ⟨p, us, rfl, f, l, r2⟩ := rx.d.tup_inv
        exact ⟨p, us, rfl, .inr ⟨hK ▸ f.sq, k.same a rx⟩⟩
      | list => exact lists rx (fun _ z => nomatch z) rfl e
      | none => exact lists rx (fun _ z => nomatch z) rfl e
      | bool => exact lists rx (fun _ z => nomatch z) rfl e
      | int => exact lists rx (fun _ z => nomatch z) rfl e
      | str => exact lists rx (fun _ z => nomatch z) rfl e
      | dict => exact lists rx (fun _ z => nomatch z) rfl e
  | sorted => exact ⟨_, CallR.or (CallR.or (CallR.or (CallR.or cr_sortedI cr_sortedSA) (call_sortedD hc)) (call_sortedDI hc)) (call_sortedX hc), hK ▸ s_sorted⟩
  | sum =>
    refine ⟨_, cr_sum hc, ?_⟩
    intro φ h H xs vs z h' Q a r e k
    refine rcs_one (fun _ _ => rfl) r e fun v x e1 e2 rx e => ?_
    subst e1 e2
    obtain ⟨p, is, rfl, t, e7⟩ := ints_arg (f := fun is => intV is.sum) a rx (show (lstOf v >>= fun xs => optM (dats xs) >>= fun ds => optM (intsOf ds) >>= fun is => intV is.sum) h = .ok z h' from e)
    obtain ⟨rfl, rfl⟩ := pure_inv e7
    exact ⟨p, is, rfl, hK ▸ t, k.int a⟩
  | max =>
    refine ⟨_, CallR.or (call_max2 hc) (cr_max hc), ?_⟩
    intro φ h H xs vs z h' Q a r e k
    have go : ∀ {v w x y}, xs = [x, y] → RepV W φ h H x v → RepV W φ h H y w → maxI v w h = .ok z h' → (∃ i j, xs = [.int i, .int j] ∧ Q (.int (if j > i then j else i)) H) := ?go
    · match vs, r, e with
      | [], _, e => exact bad_ne e
      | [v], .cons rx .nil, e =>
        obtain ⟨p, is, rfl, t, e7⟩ := ints_arg (f := fun is => optM (maxOf is) >>= fun i => intV i) a rx (show (lstOf v >>= fun xs => optM (dats xs) >>= fun ds => optM (intsOf ds) >>= fun is => optM (maxOf is) >>= fun i => intV i) h = .ok z h' from e)
        obtain ⟨i, h2, e8, e9⟩ := bind_inv e7
        obtain ⟨rfl, e10⟩ := optM_inv e8
        obtain ⟨rfl, rfl⟩ := pure_inv e9
        obtain ⟨m1, m2⟩ := maxOf_max e10
        refine .inr ⟨p, is, rfl, hK ▸ t, List.length_pos_iff.mpr fun z => (by rw [z] at m1; exact nomatch m1), fun j hj hy => ?_⟩
        rw [show j = i from Int.le_antisymm (m2 j hj) (hy i m1)]
        exact k.int a
      | [v, w], .cons rx (.cons ry .nil), e => exact .inl (go rfl rx ry e)
      | _ :: _ :: _ :: _, _, e => exact bad_ne e
    intro v w x y e2 rx ry e
    subst e2
    cases v with
    | r => exact bad_ne e
    | d v =>
      cases w with
      | r => cases v <;> exact bad_ne e
      | d w =>
      cases v <;> cases w <;> first | (exact bad_ne e) | skip
      cases e
      cases rx.d.int_inv
      cases ry.d.int_inv
      exact ⟨_, _, rfl, k.int a⟩
  | min =>
    refine ⟨_, call_min2 hc, ?_⟩
    intro φ h H xs vs z h' Q a r e k
    refine rcs_two (fun _ => rfl) r e fun v w x y e1 e2 rx ry e => ?_
    subst e1 e2
    cases v with
    | r => exact bad_ne e
    | d v =>
      cases w with
      | r => cases v <;> exact bad_ne e
      | d w =>
      cases v <;> cases w <;> first | (exact bad_ne e) | skip
      cases e
      cases rx.d.int_inv
      cases ry.d.int_inv
      exact ⟨_, _, rfl, k.int a⟩
  | dict => exact ⟨_, no _, fun φ h H xs vs z h' Q a r e k => rcs_one (fun _ _ => rfl) r e fun v x _ _ _ e => bad_ne e⟩
end
end Nv
set_option Elab.async false
set_option linter.all false
set_option maxRecDepth 100000
/-! N7b: methods. -/
namespace Nv
open PySem L2 PyProof.Rows
section
variable {W : Wo} {X : Cx} {φ φ' : Ph} {h h' : Hs} {H H' : Hp}
def RMS (W : Wo) (r : V → List V → Hp → VK → Prop) (f : Val → List Val → M Val) : Prop := ∀ (φ : Ph) (h : Hs) (H : Hp) (x : V) (xs : List V) (v : Val) (vs : List Val) (z : Val) (h' : Hs) (Q : VK), AbsH W φ h H → RepV W φ h H x v → RepVs W φ h H xs vs → f v vs h = .ok z h' → Wnt W φ h H z h' Q → r x xs H Q
theorem wnt_write {w : AO} {i : Nat} {p : Addr} {u : HO} {z : Val} {Q : VK} (k : Wnt W φ h H z (h.set i w) Q) (g : Grow φ h H φ (h.set i w) (upd H p u)) (a : AbsH W φ (h.set i w) (upd H p u)) {x : V} (r : RepV W φ (h.set i w) (upd H p u) x z) : Q x (upd H p u) := k x φ _ g a r
theorem s_append : RMS W rAppend (mtV .append) := by
  intro φ h H x xs v vs z h' Q a rx rs e k
  match vs, rs, e with
  | [], _, e => exact bad_ne e
  | _ :: _ :: _, _, e => exact bad_ne e
  | [w], .cons (a := y) ry .nil, e =>
    cases v with
    | d => exact bad_ne e
    | r i =>
      obtain ⟨p, ep, rfl⟩ := rx
      obtain ⟨o, h1, e1, e2⟩ := bind_inv (show (getO i >>= fun o => itemsO o >>= fun xs => if xs.length < lim then setO i (.lst (xs ++ [w])) >>= fun _ => (pure (.d .none) : M Val) else bad) h = .ok z h' from e)
      obtain ⟨rfl, eo⟩ := getO_inv e1
      obtain ⟨ys, h2, e3, e4⟩ := bind_inv e2
      obtain ⟨rfl, rfl⟩ := itemsO_inv e3
      obtain ⟨c, e5⟩ := ite_inv e4
      have e6 : Res.ok (Val.d .none) (h2.set i (.lst (ys ++ [w]))) = Res.ok z h' := e5
      obtain ⟨rfl, rfl⟩ := ok_inj e6
      obtain ⟨ws, f1, l, r⟩ := a.ob i p _ ep eo
      have c' : ws.length < sizeLine := by rw [RepVs.length r]; exact c
      obtain ⟨g, a'⟩ := write_lst (us := ws ++ [y]) a ep eo lst_ne (by rw [List.length_append]; exact c') (paired_app r (.cons ry .nil))
      exact ⟨p, ws, y, rfl, rfl, f1, c', wnt_write k g a' (show RepD _ _ _ _ _ from .non)⟩
theorem RepVs.dropLast {xs : List V} {vs : List Val} (r : RepVs W φ h H xs vs) : RepVs W φ h H xs.dropLast vs.dropLast := by
  rw [List.dropLast_eq_take, List.dropLast_eq_take, RepVs.length r]
  exact RepVs.take _ r
theorem s_pop : RMS W rPop (mtV .pop) := by
  intro φ h H x xs v vs z h' Q a rx rs e k
  match vs, rs, e with
  | _ :: _, _, e => exact bad_ne e
  | [], .nil, e =>
    cases v with
    | d => exact bad_ne e
    | r i =>
      obtain ⟨p, ep, rfl⟩ := rx
      obtain ⟨o, h1, e1, e2⟩ := bind_inv (show (getO i >>= fun o => itemsO o >>= fun xs => optM xs[xs.length - 1]? >>= fun y => setO i (.lst xs.dropLast) >>= fun _ => (pure y : M Val)) h = .ok z h' from e)
      obtain ⟨rfl, eo⟩ := getO_inv e1
      obtain ⟨ys, h2, e3, e4⟩ := bind_inv e2
      obtain ⟨rfl, rfl⟩ := itemsO_inv e3
      obtain ⟨y, h3, e5, e6⟩ := bind_inv e4
      obtain ⟨rfl, e7⟩ := optM_inv e5
      have e8 : Res.ok y (h3.set i (.lst ys.dropLast)) = Res.ok z h' := e6
      obtain ⟨rfl, rfl⟩ := ok_inj e8
      obtain ⟨ws, f1, l, r⟩ := a.ob i p _ ep eo
      rw [← RepVs.length r] at e7
      obtain ⟨u, f2, ru⟩ := RepVs.get r e7
      obtain ⟨g, a'⟩ := write_lst (us := ws.dropLast) a ep eo lst_ne (by rw [List.length_dropLast]; omega) (RepVs.dropLast r)
      exact ⟨p, ws, u, rfl, rfl, f1, f2, wnt_write k g a' (ru.grow g)⟩
def rExtR (K : PySem.W.Frag) : V → List V → Hp → VK → Prop := fun x vs H Q => ∃ l b xs zs, x = .ref l ∧ vs = [.ref b] ∧ H l = some (.lst xs) ∧ (Rd H b (.lst zs) ∨ SqT K H b zs) ∧ xs.length + zs.length ≤ sizeLine ∧ Q .non (upd H l (.lst (xs ++ zs)))
theorem mt_extR : MtR X "list.extend" (rExtR X.K) := by
  intro pins s σ H x vs v us Q I rx rv ⟨l, b, xs, zs, ex, ev, hH, hB, hz, q⟩
  subst ex ev
  cases rx
  obtain ⟨u, rfl, ru⟩ := rv.one
  cases ru
  obtain ⟨z, its, n, r, hl, e⟩ := I.lstM hH
  have put : ∀ {its2 : List Value}, Vals zs its2 → EP X pins σ Q .none { s with heap := s.heap.update l (Obj.mapSeq fun x => x ++ its2.toArray), toks := s.toks } := fun {its2} r2 =>
    ⟨.non, _, I.lset (its' := its ++ its2) hH e (by simp) (r.append r2) (by rw [List.length_append]; exact hz), rfl, q⟩
  have small : ∀ {m : Nat}, its.length + m ≤ sizeLine → ¬ (!its.toArray.isEmpty && Builtin.List.listTooLong (its.toArray.size + m)) = true := fun {m} hm => by
    rw [List.size_toArray, notLongL hm, Bool.and_false]
    exact Bool.false_ne_true
  rcases hB with hB | hB
  · obtain ⟨z2, its2, n2, r2, e2⟩ := hB.ok I.hok
    have hl2 := r2.length
    refine call_meets F.slot_list_extend ⟨_, e, rfl⟩ F.entry_list_extend (F.args_list_extend_2 _ _)
      (AutoSeq1.list_extend_list_list_0 l its.toArray n b its2.toArray n2 (small (by rw [List.size_toArray]; omega)) (by rw [List.size_toArray]; omega) (by rw [List.size_toArray, List.size_toArray]; omega)) ⟨e, e2, put r2⟩
  · obtain ⟨its2, r2, ⟨⟨cls, dd, data, sls⟩, ho, hc, n2, hd⟩, z2⟩ := I.tuple hB
    simp only at hc hd
    subst hc hd
    have hl2 := r2.length
    refine call_meets F.slot_list_extend ⟨_, e, rfl⟩ F.entry_list_extend (F.args_list_extend_2 _ _)
      (AutoSeq1.nv_extend_tuple l its.toArray n b its2.toArray n2 dd sls (small (by rw [List.size_toArray]; omega)) (by rw [List.size_toArray]; omega) (by rw [Array.size_append, List.size_toArray, List.size_toArray]; omega)) ⟨e, ho, put r2⟩
theorem s_extend : RMS W (rExtR W.K) (mtV .extend) := by
  intro φ h H x xs v vs z h' Q a rx rs e k
  match vs, rs, e with
  | [], _, e => exact bad_ne e
  | _ :: _ :: _, _, e => exact bad_ne e
  | [w], .cons (a := y) ry .nil, e =>
    cases v with
    | d => exact bad_ne e
    | r i =>
      obtain ⟨p, ep, rfl⟩ := rx
      obtain ⟨zs, h1, e1, e2⟩ := bind_inv (show (seqOf w >>= fun ys => getO i >>= fun o => itemsO o >>= fun xs => if xs.length + ys.length ≤ lim then setO i (.lst (xs ++ ys)) >>= fun _ => (pure (.d .none) : M Val) else bad) h = .ok z h' from e)
      obtain ⟨rfl, b, us, rfl, l2, r2, t⟩ := seqOf_inv a ry e1
      obtain ⟨o, h2, e3, e4⟩ := bind_inv e2
      obtain ⟨rfl, eo⟩ := getO_inv e3
      obtain ⟨ys, h3, e5, e6⟩ := bind_inv e4
      obtain ⟨rfl, rfl⟩ := itemsO_inv e5
      obtain ⟨c, e7⟩ := ite_inv e6
      have e8 : Res.ok (Val.d .none) (h3.set i (.lst (ys ++ zs))) = Res.ok z h' := e7
      obtain ⟨rfl, rfl⟩ := ok_inj e8
      obtain ⟨ws, f1, l, r⟩ := a.ob i p _ ep eo
      have c' : ws.length + us.length ≤ sizeLine := by rw [RepVs.length r, RepVs.length r2]; exact c
      obtain ⟨g, a'⟩ := write_lst (us := ws ++ us) a ep eo lst_ne (by rw [List.length_append]; exact c') (paired_app r r2)
      refine ⟨p, b, ws, us, rfl, rfl, f1, ?_, c', wnt_write k g a' (show RepD _ _ _ _ _ from .non)⟩
      rcases t with ⟨_, t⟩ | ⟨_, _, t⟩
      · exact .inl t
      · exact .inr t
theorem asc_txtjoin {z : Str} (hz : ascOk z = true) (ss : List Str) (h : ∀ s ∈ ss, ascOk s = true) : ascOk (Txt.join z ss) = true := by
  rw [TL.join_eq]
  exact asc_join hz ss h
theorem len_strjoin (z : Str) : ∀ ss : List Str, (Str.join z ss).length ≤ (ss.map (·.length)).sum + ss.length * z.length
  | [] => Nat.zero_le _
  | [t] => by
    show t.length ≤ _
    simp
  | t :: u :: r => by
    have ih := len_strjoin z (u :: r)
    show (t ++ z ++ Str.join z (u :: r)).length ≤ _
    rw [len_app, len_app]
    simp only [List.map_cons, List.sum_cons, List.length_cons] at ih ⊢
    have : (r.length + 1 + 1) * z.length = (r.length + 1) * z.length + z.length := Nat.succ_mul _ _
    omega
def rJn (K : PySem.W.Frag) : V → List V → Hp → VK → Prop := fun x xs H Q => ∃ a p, ∃ ys : List Str, x = .str a ∧ xs = [.ref p] ∧ (SqL K H p (ys.map V.str) ∨ SqT K H p (ys.map V.str)) ∧
    (ys.map (·.length)).sum + ys.length * a.length ≤ 16777216 ∧ Q (.str (Txt.join a ys)) H
theorem s_join : RMS W (rJn W.K) (mtV .join) := by
  intro φ h H x xs v vs z h' Q a rx rs e k
  match vs, rs, e with
  | [], _, e => exact bad_ne e
  | _ :: _ :: _, _, e => exact bad_ne e
  | [w], .cons (a := y) ry .nil, e =>
    cases v with
    | r => exact bad_ne e
    | d v =>
      have hs : ∃ sep, v = .str sep := by
        cases v <;> first | (exact bad_ne e) | exact ⟨_, rfl⟩
      obtain ⟨sep, rfl⟩ := hs
      obtain ⟨rfl, l0, o0⟩ := rx.d.str_inv
      obtain ⟨zs, h1, e1, e2⟩ := bind_inv (show (seqOf w >>= fun ys => optM (dats ys) >>= fun ds => optM (strsOf ds) >>= fun ss => if (ss.map (·.length)).sum + ss.length * sep.length ≤ lim then (pure (.d (.str (Txt.join sep ss))) : M Val) else bad) h = .ok z h' from e)
      obtain ⟨rfl, b, us, rfl, l2, r2, t⟩ := seqOf_inv a ry e1
      obtain ⟨ds, h2, e3, e4⟩ := bind_inv e2
      obtain ⟨rfl, e5⟩ := optM_inv e3
      obtain ⟨ss, h3, e6, e7⟩ := bind_inv e4
      obtain ⟨rfl, e8⟩ := optM_inv e6
      obtain ⟨c, e9⟩ := ite_inv e7
      obtain ⟨rfl, rfl⟩ := pure_inv e9
      rw [dats_inv e5] at r2
      obtain ⟨rfl, hs⟩ := repDs_strs (repVs_d r2) e8
      refine ⟨sep, b, ss, rfl, rfl, ?_, c, k.str a ?_ (asc_txtjoin o0 ss fun s m => (hs s m).2)⟩
      · rcases t with ⟨_, t⟩ | ⟨_, _, t⟩
        · exact .inl (.inl t)
        · exact .inr t
      · rw [TL.join_eq]
        exact Nat.le_trans (len_strjoin sep ss) c
/-! upper, index, count, pop(i) -/
theorem asc_up {z : Str} (o : ascOk z = true) : ascOk (Txt.upper z) = true := by
  rw [PyProof.Rows.upper_ascii fun c m => asc_mem o m]
  unfold ascOk
  rw [Array.all_eq_true']
  intro c m
  obtain ⟨d, md, rfl⟩ := Array.mem_map.mp m
  have hd : d < 128 := asc_mem o (by simpa using md)
  unfold PyProof.Rows.up1
  split <;> exact decide_eq_true (by omega)
theorem s_upper : RMS W (fun x xs H Q => ∃ a, x = .str a ∧ xs = [] ∧ a.length ≤ 5592405 ∧ Q (.str (Txt.upper a)) H) (mtV .upper) := by
  intro φ h H x xs v vs z h' Q a rx rs e k
  match vs, rs, e with
  | _ :: _, _, e => exact bad_ne e
  | [], .nil, e =>
    cases v with
    | r => exact bad_ne e
    | d v =>
      cases v <;> first | (exact bad_ne e) | skip
      obtain ⟨c, e2⟩ := ite_inv e
      obtain ⟨rfl, rfl⟩ := pure_inv e2
      obtain ⟨rfl, l0, o0⟩ := rx.d.str_inv
      refine ⟨_, rfl, rfl, Nat.le_trans c (by decide), k.str a ?_ (asc_up o0)⟩
      exact Nat.le_trans (PyProof.Rows.len_upper _) (Nat.le_trans (Nat.mul_le_mul_left 3 c) (by decide))
theorem s_idx : RMS W (fun x xs H Q => ∃ a b i rest, x = .str a ∧ xs = [.str b] ∧ Builtin.Str.occurrences a b 0 a.length 1 = i :: rest ∧ Q (.int (i : Nat)) H) (mtV .idx) := by
  intro φ h H x xs v vs z h' Q a rx rs e k
  match vs, rs, e with
  | [], _, e => exact bad_ne e
  | _ :: _ :: _, _, e => exact bad_ne e
  | [w], .cons (a := y) ry .nil, e =>
    cases v with
    | r => exact bad_ne e
    | d v =>
      cases w with
      | r => cases v <;> exact bad_ne e
      | d w =>
        cases v <;> cases w <;> first | (exact bad_ne e) | skip
        rename_i t _ u
        obtain ⟨i, h1, e1, e2⟩ := bind_inv (show (optM (Builtin.Str.occurrences t u 0 t.length 1).head? >>= fun i => intV ((i : Nat) : Int)) h = .ok z h' from e)
        obtain ⟨rfl, e3⟩ := optM_inv e1
        obtain ⟨rfl, rfl⟩ := pure_inv e2
        obtain ⟨rfl, _, _⟩ := rx.d.str_inv
        obtain ⟨rfl, _, _⟩ := ry.d.str_inv
        obtain ⟨rest, er⟩ : ∃ rest, Builtin.Str.occurrences t u 0 t.length 1 = i :: rest := by
          cases q : Builtin.Str.occurrences t u 0 t.length 1 with
          | nil => rw [q] at e3; cases e3
          | cons j r => rw [q] at e3; cases e3; exact ⟨r, rfl⟩
        exact ⟨t, u, i, rest, rfl, rfl, er, k.int a⟩
theorem s_cnt : RMS W (fun x xs H Q => ∃ a b, x = .str a ∧ xs = [.str b] ∧ Q (.int (Txt.count a b)) H) (mtV .cnt) := by
  intro φ h H x xs v vs z h' Q a rx rs e k
  match vs, rs, e with
  | [], _, e => exact bad_ne e
  | _ :: _ :: _, _, e => exact bad_ne e
  | [w], .cons (a := y) ry .nil, e =>
    cases v with
    | r => exact bad_ne e
    | d v =>
      cases w with
      | r => cases v <;> exact bad_ne e
      | d w =>
        cases v <;> cases w <;> first | (exact bad_ne e) | skip
        obtain ⟨rfl, rfl⟩ := pure_inv e
        obtain ⟨rfl, _, _⟩ := rx.d.str_inv
        obtain ⟨rfl, _, _⟩ := ry.d.str_inv
        exact ⟨_, _, rfl, rfl, k.int a⟩
theorem RepVs.eraseIdx : ∀ {xs : List V} {vs : List Val} (n : Nat), RepVs W φ h H xs vs → RepVs W φ h H (xs.eraseIdx n) (vs.eraseIdx n)
  | _, _, n, .nil => by cases n <;> exact .nil
  | _, _, 0, .cons r t => t
  | _, _, n + 1, .cons r t => .cons r (RepVs.eraseIdx n t)
theorem s_popi : RMS W rPopAt (mtV .popi) := by
  intro φ h H x xs v vs z h' Q a rx rs e k
  match vs, rs, e with
  | [], _, e => cases v <;> exact bad_ne e
  | _ :: _ :: _, _, e => cases v <;> exact bad_ne e
  | [w], .cons (a := y) ry .nil, e =>
    cases v with
    | d => exact bad_ne e
    | r i =>
      cases w with
      | r => exact bad_ne e
      | d w =>
        cases w <;> first | (exact bad_ne e) | skip
        rename_i n
        cases ry.d.int_inv
        obtain ⟨p, ep, rfl⟩ := rx
        obtain ⟨o, h1, e1, e2⟩ := bind_inv (show (getO i >>= fun o => itemsO o >>= fun xs => if 0 ≤ n ∧ n < xs.length then (optM xs[n.toNat]? >>= fun y => setO i (.lst (xs.eraseIdx n.toNat)) >>= fun _ => (pure y : M Val)) else bad) h = .ok z h' from e)
        obtain ⟨rfl, eo⟩ := getO_inv e1
        obtain ⟨ys, h2, e3, e4⟩ := bind_inv e2
        obtain ⟨rfl, rfl⟩ := itemsO_inv e3
        obtain ⟨c, e5⟩ := ite_inv e4
        obtain ⟨y, h3, e6, e7⟩ := bind_inv e5
        obtain ⟨rfl, e8⟩ := optM_inv e6
        have e9 : Res.ok y (h3.set i (.lst (ys.eraseIdx n.toNat))) = Res.ok z h' := e7
        obtain ⟨rfl, rfl⟩ := ok_inj e9
        obtain ⟨ws, f1, l, r⟩ := a.ob i p _ ep eo
        obtain ⟨u, f2, ru⟩ := RepVs.get r e8
        have ll := RepVs.length r
        have hz : (sizeLine : Nat) ≤ 2 ^ 40 := by decide
        obtain ⟨g, a'⟩ := write_lst (us := ws.eraseIdx n.toNat) a ep eo lst_ne (Nat.le_trans (List.length_eraseIdx_le ..) l) (RepVs.eraseIdx _ r)
        exact ⟨p, ws, n, n.toNat, u, rfl, rfl, f1, by omega, by omega, PySem.seqIndex_of c.1 (by omega), f2, wnt_write k g a' (ru.grow g)⟩
/-! the kind of the receiver -/
def kdN : Kd → String
  | .lst => "list" | .str => "str" | .dct => "dict"
theorem kd_ty (a : AbsH W φ h H) {x : V} {v : Val} {kd : Kd} (nd : kd ≠ .dct) (r : RepV W φ h H x v) (e : kdV kd v h = .ok () h') : h' = h ∧ tyV W.K (kdN kd) x H := by
  cases v with
  | r i =>
    obtain ⟨p, ep, rfl⟩ := r
    obtain ⟨o, h1, e1, e2⟩ := bind_inv (show (getO i >>= fun o => kdO kd o) h = .ok () h' from (by cases kd <;> exact e))
    obtain ⟨rfl, eo⟩ := getO_inv e1
    cases kd with
    | dct => exact absurd rfl nd
    | str => cases o <;> exact bad_ne e2
    | lst =>
      cases o with
      | lst xs =>
        cases e2
        obtain ⟨ws, f1, l, r⟩ := a.ob i p _ ep eo
        exact ⟨rfl, .inl ⟨rfl, ws, .inl (.inl f1)⟩⟩
      | dct => exact bad_ne e2
      | ins => exact bad_ne e2
      | dtt => exact bad_ne e2
      | dead => exact bad_ne e2
  | d v =>
    cases kd with
    | dct => exact absurd rfl nd
    | str =>
      cases v <;> first | (exact bad_ne e) | skip
      cases e
      obtain ⟨rfl, _, _⟩ := r.d.str_inv
      exact ⟨rfl, rfl⟩
    | lst =>
      cases v <;> first | (exact bad_ne e) | skip
      cases e
      obtain ⟨p, us, rfl, f, l, r⟩ := r.d.lst_inv
      exact ⟨rfl, .inl ⟨rfl, us, f.sq⟩⟩
theorem kd_d (a : AbsH W φ h H) {x : V} {v : Val} (r : RepV W φ h H x v) (e : kdV .dct v h = .ok () h') : h' = h ∧ ∃ p, x = .ref p ∧ IsD H p := by
  cases v with
  | r i =>
    obtain ⟨p, ep, rfl⟩ := r
    obtain ⟨o, h1, e1, e2⟩ := bind_inv (show (getO i >>= fun o => kdO .dct o) h = .ok () h' from e)
    obtain ⟨rfl, eo⟩ := getO_inv e1
    cases o with
    | dct xs =>
      cases e2
      obtain ⟨ws, f1, l, r⟩ := a.ob i p _ ep eo
      exact ⟨rfl, p, rfl, .inl ⟨ws, .inl f1⟩⟩
    | dtt xs =>
      cases e2
      obtain ⟨_, ws, f1, l, r⟩ := a.ob i p _ ep eo
      exact ⟨rfl, p, rfl, .inr ⟨ws, .inl f1⟩⟩
    | lst => exact bad_ne e2
    | ins => exact bad_ne e2
    | dead => exact bad_ne e2
  | d v =>
    cases v <;> first | (exact bad_ne e) | skip
    cases e
    obtain ⟨p, us, rfl, f, l, r⟩ := r.d.dct_inv
    exact ⟨rfl, p, rfl, .inl ⟨us, f.1⟩⟩
theorem s_get {x y w : V} {v kv dv z : Val} {Q : VK} (a : AbsH W φ h H) (rx : RepV W φ h H x v) (ry : RepV W φ h H y kv) (rw' : RepV W φ h H w dv) (e : getV v kv dv h = .ok z h') (k : Wnt W φ h H z h' Q) : ∃ p o, x = .ref p ∧ DGet H p y o ∧ Q (o.getD w) H := by
  cases kv with
  | r => cases v with
    | r => exact bad_ne e
    | d v => cases v <;> exact bad_ne e
  | d kd =>
    cases v with
    | r i =>
      obtain ⟨p, ep, rfl⟩ := rx
      obtain ⟨o, h1, e1, e2⟩ := bind_inv (show (getO i >>= fun o => getO2 o kd dv) h = .ok z h' from e)
      obtain ⟨rfl, eo⟩ := getO_inv e1
      cases o with
      | dct kvs =>
        obtain ⟨q, h2, e3, e4⟩ := bind_inv (show (optM (keyOf kd) >>= fun q => (pure ((look q kvs).getD dv) : M Val)) _ = .ok z h' from e2)
        obtain ⟨rfl, e5⟩ := optM_inv e3
        obtain ⟨rfl, rfl⟩ := pure_inv e4
        obtain ⟨ws, f1, l, r⟩ := a.ob i p _ ep eo
        refine ⟨p, valV ws q, rfl, .inl ⟨ws, q, .inl f1, (keyOf_inv ry.d e5).1, rfl⟩, ?_⟩
        cases t : look q kvs with
        | some y =>
          rw [t] at k
          obtain ⟨u, f2, r2⟩ := RepW.look r t
          rw [f2]
          exact k.same a r2
        | none =>
          rw [t] at k
          have f2 : valV ws q = none := RepW.look_none r t
          rw [f2]
          exact k.same a rw'
      | dtt kvs =>
        obtain ⟨q, h2, e3, e4⟩ := bind_inv (show (optM (keyT kd) >>= fun q => (pure ((lookT q kvs).getD dv) : M Val)) _ = .ok z h' from e2)
        obtain ⟨rfl, e5⟩ := optM_inv e3
        obtain ⟨rfl, rfl⟩ := pure_inv e4
        obtain ⟨tk, ws, f1, l, r⟩ := a.ob i p _ ep eo
        obtain ⟨b, rfl, eb⟩ := keyT_rep tk ry.d e5
        refine ⟨p, valV ws q, rfl, .t f1 eb, ?_⟩
        cases t : lookT q kvs with
        | some y =>
          rw [t] at k
          obtain ⟨u, f2, r2⟩ := RepT.look r t
          rw [f2]
          exact k.same a r2
        | none =>
          rw [t] at k
          rw [RepT.look_none r t]
          exact k.same a rw'
      | lst => exact bad_ne e2
      | ins => exact bad_ne e2
      | dead => exact bad_ne e2
    | d v =>
      have hs : ∃ kvs, v = .dict kvs := by
        cases v <;> first | (exact bad_ne e) | exact ⟨_, rfl⟩
      obtain ⟨kvs, rfl⟩ := hs
      obtain ⟨q, h2, e3, e4⟩ := bind_inv (show (optM (keyOf kd) >>= fun q => (pure (((lookD q kvs).map Val.d).getD dv) : M Val)) _ = .ok z h' from e)
      obtain ⟨rfl, e5⟩ := optM_inv e3
      obtain ⟨rfl, rfl⟩ := pure_inv e4
      obtain ⟨p, us, rfl, f, l, r⟩ := rx.d.dct_inv
      refine ⟨p, valV us q, rfl, .inl ⟨us, q, f.1, (keyOf_inv ry.d e5).1, rfl⟩, ?_⟩
      cases t : lookD q kvs with
      | some y =>
        rw [t] at k
        obtain ⟨u, f2, r2⟩ := r.look t
        rw [f2]
        exact k.same a r2
      | none =>
        rw [t] at k
        rw [r.look_none t]
        exact k.same a rw'
end
end Nv
set_option Elab.async false
set_option linter.all false
set_option maxRecDepth 100000
/-! N8: each construct by its parts. -/
namespace Nv
open PySem L2 PyProof.Rows

/-! ### about the syntax -/
def notStar : Expr → Bool
  | .Starred .. => false
  | _ => true
def notComp : Expr → Bool
  | .ListComp .. => false
  | .SetComp .. => false
  | .DictComp .. => false
  | _ => true
def notSlice : Expr → Bool
  | .Slice .. => false
  | _ => true
def notSet : Expr → Bool
  | .Set .. => false
  | _ => true
/-- not super() -/
def notSuper : Expr → Bool
  | .Call (.Name id _) [] [] _ => id != "super"
  | _ => true
/-- a test by its value -/
def plainT : Expr → Bool
  | .UnaryOp .Not .. => false
  | .BoolOp .. => false
  | .IfExp .. => false
  | .Compare .. => false
  | _ => true
theorem star_cons {e : Expr} {es : List Expr} {env : Env} (h : notStar e = true) : starEach (e :: es) env = (false, eval e env) :: starEach es env := by
  cases e <;> first | rfl | (exact nomatch h)
theorem star_any (env : Env) (pos : Pos) : ∀ es : List Expr, es.all notStar = true → (backTo pos (starEach es env)).any (·.1) = false
  | [], _ => rfl
  | e :: es, h => by
    simp only [List.all_cons, Bool.and_eq_true] at h
    rw [star_cons h.1]
    show (false || (backTo pos (starEach es env)).any (·.1)) = false
    rw [star_any env pos es h.2]
    rfl
theorem star_all (env : Env) (pos : Pos) : ∀ es : List Expr, es.all notStar = true → (backTo pos (starEach es env)).all (fun x => !x.1) = true
  | [], _ => rfl
  | e :: es, h => by
    simp only [List.all_cons, Bool.and_eq_true] at h
    rw [star_cons h.1]
    show (true && (backTo pos (starEach es env)).all (fun x => !x.1)) = true
    rw [star_all env pos es h.2]
    rfl
theorem star_map (env : Env) : ∀ es : List Expr, es.all notStar = true → starEach es env = es.map fun e => (false, eval e env)
  | [], _ => rfl
  | e :: es, h => by
    simp only [List.all_cons, Bool.and_eq_true] at h
    rw [star_cons h.1, star_map env es h.2]
    rfl
theorem swaps_no {e : Expr} {t : Option Expr} {l : Nat} {env : Env} (h : notComp e = true) : swapsWith e t l env = pure false := by
  cases e <;> first | rfl | (exact nomatch h)
theorem set_no {e : Expr} {env : Env} (h : notSet e = true) (x : Value) : foldedSetIterable e env x = pure x := by
  cases e <;> first | rfl | (exact nomatch h)
theorem plain_ix {e : Expr} (h : notSlice e = true) : PlainIx e := fun o i => by
  cases e <;> first | rfl | (exact nomatch h)
theorem plainT_ok {e : Expr} {env : Env} (h : plainT e = true) (whole : Sem Value) : isTrue e env whole = (do let v ← whole; standAt e.pos; holding [v] (truthy v)) := by
  cases e with
  | UnaryOp op a p => cases op <;> first | rfl | (exact nomatch h)
  | BoolOp => exact nomatch h
  | IfExp => exact nomatch h
  | Compare => exact nomatch h
  | _ => rfl
theorem base_ok {o : Expr} {f : Str} {env : Env} (h : notSuper o = true) (w : Sem Value) : attributeBase o f env w = w := by
  unfold attributeBase
  cases o with
  | Call g args kws p =>
    cases g with
    | Name id q =>
      cases args with
      | nil =>
        cases kws with
        | nil =>
          have h' : (id != "super") = true := h
          simp only [h', Bool.true_or, if_true]
        | cons => rfl
      | cons => rfl
    | _ => rfl
  | _ => rfl

section
variable {W : Wo} {X : Cx} {φ φ' : Ph} {h h' : Hs} {H H' : Hp}
/-! ### expressions by their parts -/
theorem te_const {d : PD} {x : V} {e : Expr} (r : ∀ A H, RepD W.K A H x d) (p : PE X e (tC x)) : PE X e (teOf W fun _ => pure (.d d)) :=
  PE.imp p fun σ H Q ⟨φ, h, s, aH, aS, v, h', e, k⟩ => by
    obtain ⟨rfl, rfl⟩ := pure_inv e
    exact k x φ H Grow.refl aH (r _ _)
theorem te_var {i : Nat} {x : Str} {pos : Pos} (hN : X.N[i]? = some x) (hv : Vis X.env.scope x) (hd : (x == ("__debug__" : Str)) = false) (hcd : (x == ("__classdict__" : Str)) = false) : PE X (.Name x pos) (teOf W fun s => varV s i) :=
  PE.imp (pe_var hN hv hd hcd) fun σ H Q ⟨φ, h, s, aH, aS, v, h', e, k⟩ => by
    obtain ⟨rfl, e1⟩ := optM_inv (show optM (s[i]?).join h = .ok v h' from e)
    obtain ⟨x, e2, r⟩ := aS.at_ i v (by
      cases q : s[i]? with
      | none => rw [q] at e1; cases e1
      | some o => rw [q] at e1; exact congrArg some e1)
    exact ⟨x, e2, k x φ H Grow.refl aH r⟩
theorem te_op {r : R2} {f : Val → Val → M Val} {ma mb : Sg → M Val} (hr : R2S W r f) (σ : L2.St) (H : Hp) (Q : VK) (t : teOf W (fun s => ma s >>= fun x => mb s >>= fun y => f x y) σ H Q) : tOp r (teOf W ma) (teOf W mb) σ H Q := by
  obtain ⟨φ, h, s, aH, aS, v, h', e, k⟩ := t
  obtain ⟨x, h1, e1, e2⟩ := bind_inv e
  obtain ⟨y, h2, e3, e4⟩ := bind_inv e2
  exact ⟨φ, h, s, aH, aS, x, h1, e1, fun x' φ1 H1 g1 a1 r1 => ⟨φ1, h1, s, a1, aS.grow g1, y, h2, e3, fun y' φ2 H2 g2 a2 r2 =>
    hr φ2 h2 H2 x' y' x y v h' Q a2 (r1.grow g2) r2 e4 fun u φ' H' g a r => k u φ' H' ((g1.trans g2).trans g) a r⟩⟩
theorem te_bin (hK : X.K = W.K) {a b : Expr} {ma mb : Sg → M Val} {pos : Pos} (o : Bop) (m : Bool) (ha : PE X a (teOf W ma)) (hb : PE X b (teOf W mb)) : PE X (.BinOp a (bopO o) b pos) (teOf W fun s => ma s >>= fun x => mb s >>= fun y => bopL m o x y) := by
  obtain ⟨r, h1, h2⟩ := op_bop (W := W) hK o m
  exact PE.imp (pe_op h1 ha hb) (te_op h2)
theorem te_cmp (hK : X.K = W.K) (hu : X.A.units + 65 < cLine) {a b : Expr} {ma mb : Sg → M Val} {pos : Pos} (o : Cop) (hm : behindInMarks (copO o) b = false) (ha : PE X a (teOf W ma)) (hb : PE X b (teOf W mb)) : PE X (.Compare a [copO o] [b] pos) (teOf W fun s => ma s >>= fun x => mb s >>= fun y => cop o x y) := by
  obtain ⟨r, h1, h2⟩ := op_cop (W := W) hK hu o
  exact PE.imp (pe_cmpR h1 ha hb hm) (te_op h2)
/-- what a comparison gives is a bool -/
theorem cop_bool {o : Cop} {x y z : Val} (e : cop o x y h = .ok z h') : ∃ b, z = .d (.bool b) := by
  have hb : ∀ {c : Bool} {h h' : Hs} {z : Val}, bl c h = .ok z h' → ∃ b, z = .d (.bool b) := fun {c h h' z} e => ⟨c, (pure_inv e).1.symm⟩
  have hi : ∀ {p : Prop} [Decidable p] {c : Bool} {h h' : Hs} {z : Val}, (if p then bl c else bad) h = .ok z h' → ∃ b, z = .d (.bool b) := fun {p _ c h h' z} e => hb (ite_inv e).2
  have h2 : ∀ {α : Type} {m : M α} {f : α → M Val}, (∀ a h1, f a h1 = .ok z h' → ∃ b, z = .d (.bool b)) → (m >>= f) h = .ok z h' → ∃ b, z = .d (.bool b) := fun {α m f} k e => by
    obtain ⟨a, h1, _, e2⟩ := bind_inv e
    exact k a h1 e2
  cases o with
  | eq => exact h2 (fun a h1 e => by
      obtain ⟨b, i1, _, e2⟩ := bind_inv e
      exact hi e2) (show (datV x >>= fun a => datV y >>= fun b => if eqOk a b = true then bl (a.eqv b) else bad) h = .ok z h' from e)
  | ne => exact h2 (fun a h1 e => by
      obtain ⟨b, i1, _, e2⟩ := bind_inv e
      exact hi e2) (show (datV x >>= fun a => datV y >>= fun b => if eqOk a b = true then bl (!a.eqv b) else bad) h = .ok z h' from e)
  | isin =>
    cases x with
    | r => cases y <;> exact bad_ne e
    | d x =>
      cases y with
      | r i => exact h2 (fun a h1 e => by
        obtain ⟨b, i1, _, e2⟩ := bind_inv e
        exact hb e2) (show (getO i >>= fun o => inR o x >>= fun b => bl b) h = .ok z h' from by cases x <;> exact e)
      | d y => cases y <;> cases x <;> first | (exact bad_ne e) | (exact hb e) | exact hi e
  | notin =>
    cases x with
    | r => cases y <;> exact bad_ne e
    | d x =>
      cases y with
      | r i => exact h2 (fun a h1 e => by
        obtain ⟨b, i1, _, e2⟩ := bind_inv e
        exact hb e2) (show (getO i >>= fun o => inR o x >>= fun b => bl (!b)) h = .ok z h' from by cases x <;> exact e)
      | d y => cases y <;> cases x <;> first | (exact bad_ne e) | (exact hb e) | exact hi e
  | _ =>
    cases x with
    | r i =>
      cases y with
      | r => exact bad_ne e
      | d y => cases y <;> first | (exact bad_ne e) | exact hb e
    | d x =>
      cases y with
      | r => cases x <;> exact bad_ne e
      | d y => cases x <;> cases y <;> first | (exact bad_ne e) | exact hb e
theorem te_chn_tr {r r' : R2} {ma mb mc : Sg → M Val} {o o' : Cop} (h2 : R2S W r (cop o)) (h2' : R2S W r' (cop o')) (σ : L2.St) (H : Hp) (Q : VK) (t : teOf W (fun s => ma s >>= fun x => mb s >>= fun y => cop o x y >>= fun z => match z with
      | .d (.bool true) => mc s >>= fun w => cop o' y w
      | .d (.bool false) => bl false
      | _ => bad) σ H Q) : tChain r r' (teOf W ma) (teOf W mb) (teOf W mc) σ H Q := by
  obtain ⟨φ, h, s, aH, aS, v, h', e, k⟩ := t
  obtain ⟨x, i1, e1, e2⟩ := bind_inv e
  obtain ⟨y, i2, e3, e4⟩ := bind_inv e2
  obtain ⟨z, i3, e5, e6⟩ := bind_inv e4
  refine ⟨φ, h, s, aH, aS, x, i1, e1, fun x' φ1 H1 g1 a1 r1 => ⟨φ1, i1, s, a1, aS.grow g1, y, i2, e3, fun y' φ2 H2 g2 a2 r2 => ?_⟩⟩
  refine h2 φ2 i2 H2 x' y' x y z i3 _ a2 (r1.grow g2) r2 e5 fun u φ3 H3 g3 a3 r3 => ?_
  obtain ⟨b, rfl⟩ := cop_bool e5
  cases r3.d.bool_inv
  refine ⟨b, rfl, ?_⟩
  cases b with
  | false =>
    refine iteF ?_
    obtain ⟨rfl, rfl⟩ := pure_inv e6
    exact k _ φ3 H3 ((g1.trans g2).trans g3) a3 r3
  | true =>
    refine iteT ?_
    obtain ⟨w, i4, e7, e8⟩ := bind_inv e6
    refine ⟨φ3, i3, s, a3, aS.grow ((g1.trans g2).trans g3), w, i4, e7, fun w' φ4 H4 g4 a4 r4 => ?_⟩
    exact h2' φ4 i4 H4 y' w' y w v h' _ a4 ((r2.grow g3).grow g4) r4 e8 fun u φ' H' g a r => k u φ' H' ((((g1.trans g2).trans g3).trans g4).trans g) a r
theorem te_chain (hK : X.K = W.K) (hu : X.A.units + 65 < cLine) {a b c : Expr} {ma mb mc : Sg → M Val} {pos : Pos} (o o' : Cop) (hm : lastMarks [copO o, copO o'] [b, c] = false) (ha : PE X a (teOf W ma)) (hb : PE X b (teOf W mb)) (hc : PE X c (teOf W mc)) :
    PE X (.Compare a [copO o, copO o'] [b, c] pos) (teOf W fun s => ma s >>= fun x => mb s >>= fun y => cop o x y >>= fun z => match z with
      | .d (.bool true) => mc s >>= fun w => cop o' y w
      | .d (.bool false) => bl false
      | _ => bad) := by
  obtain ⟨r, h1, h2⟩ := op_cop (W := W) hK hu o
  obtain ⟨r', h1', h2'⟩ := op_cop (W := W) hK hu o'
  exact PE.imp (pe_chain h1 h1' ha hb hc hm) (te_chn_tr h2 h2')
theorem te_neg {a : Expr} {ma : Sg → M Val} {pos : Pos} (ha : PE X a (teOf W ma)) : PE X (.UnaryOp .USub a pos) (teOf W fun s => ma s >>= fun x => match x with
      | .d (.int i) => intV (-i)
      | _ => bad) := by
  refine PE.imp (pe_un un_neg ha) fun σ H Q ⟨φ, h, s, aH, aS, v, h', e, k⟩ => ?_
  obtain ⟨x, i1, e1, e2⟩ := bind_inv e
  refine ⟨φ, h, s, aH, aS, x, i1, e1, fun x' φ1 H1 g1 a1 r1 => ?_⟩
  have hs : ∃ i, x = .d (.int i) := by
    cases x with
    | r => exact bad_ne e2
    | d x => cases x <;> first | (exact bad_ne e2) | exact ⟨_, rfl⟩
  obtain ⟨i, rfl⟩ := hs
  obtain ⟨rfl, rfl⟩ := pure_inv e2
  cases r1.d.int_inv
  exact ⟨i, rfl, k _ φ1 H1 g1 a1 (show RepD _ _ _ _ _ from .int _)⟩
/-- by the truth of a first part -/
theorem te_tru {α : Type} {ma : Sg → M Val} {f : Val → Bool → M α} {s : Sg} {v : α} (e : (ma s >>= fun x => truth x >>= fun t => f x t) h = .ok v h') : ∃ x b i1, ma s h = .ok x i1 ∧ truth x i1 = .ok b i1 ∧ f x b i1 = .ok v h' := by
  obtain ⟨x, i1, e1, e2⟩ := bind_inv e
  obtain ⟨b, i2, e3, e4⟩ := bind_inv e2
  have : i2 = i1 := by
    cases x with
    | d x => cases x <;> first | (exact bad_ne e3) | (exact (pure_inv e3).2.symm)
    | r i =>
      obtain ⟨o, i3, e5, e6⟩ := bind_inv (show (getO i >>= fun o => truthO o) i1 = .ok b i2 from e3)
      obtain ⟨rfl, eo⟩ := getO_inv e5
      cases o <;> first | (exact bad_ne e6) | (exact (pure_inv e6).2.symm)
  subst this
  exact ⟨x, b, i2, e1, e3, e4⟩
theorem te_and (hK : X.K = W.K) {a b : Expr} {rest : List Expr} {ma mb : Sg → M Val} {pos : Pos} (ha : PE X a (teOf W ma)) (hb : PE X (.BoolOp .And (b :: rest) pos) (teOf W mb)) :
    PE X (.BoolOp .And (a :: b :: rest) pos) (teOf W fun s => ma s >>= fun x => truth x >>= fun t => if t = true then mb s else pure x) := by
  refine PE.imp (pe_andT ha hb) fun σ H Q ⟨φ, h, s, aH, aS, v, h', e, k⟩ => ?_
  obtain ⟨x, c, i1, e1, e2, e3⟩ := te_tru e
  refine ⟨φ, h, s, aH, aS, x, i1, e1, fun x' φ1 H1 g1 a1 r1 => ⟨c, hK ▸ (truth_inv a1 r1 e2).2, ?_⟩⟩
  cases c with
  | true => exact iteT ⟨φ1, i1, s, a1, aS.grow g1, v, h', e3, fun u φ' H' g a r => k u φ' H' (g1.trans g) a r⟩
  | false =>
    obtain ⟨rfl, rfl⟩ := pure_inv e3
    exact iteF (k x' φ1 H1 g1 a1 r1)
theorem te_or (hK : X.K = W.K) {a b : Expr} {rest : List Expr} {ma mb : Sg → M Val} {pos : Pos} (ha : PE X a (teOf W ma)) (hb : PE X (.BoolOp .Or (b :: rest) pos) (teOf W mb)) :
    PE X (.BoolOp .Or (a :: b :: rest) pos) (teOf W fun s => ma s >>= fun x => truth x >>= fun t => if t = true then pure x else mb s) := by
  refine PE.imp (pe_orT ha hb) fun σ H Q ⟨φ, h, s, aH, aS, v, h', e, k⟩ => ?_
  obtain ⟨x, c, i1, e1, e2, e3⟩ := te_tru e
  refine ⟨φ, h, s, aH, aS, x, i1, e1, fun x' φ1 H1 g1 a1 r1 => ⟨c, hK ▸ (truth_inv a1 r1 e2).2, ?_⟩⟩
  cases c with
  | false => exact iteF ⟨φ1, i1, s, a1, aS.grow g1, v, h', e3, fun u φ' H' g a r => k u φ' H' (g1.trans g) a r⟩
  | true =>
    obtain ⟨rfl, rfl⟩ := pure_inv e3
    exact iteT (k x' φ1 H1 g1 a1 r1)
theorem te_not (hK : X.K = W.K) {a : Expr} {ma : Sg → M Val} {pos : Pos} (ha : PE X a (teOf W ma)) : PE X (.UnaryOp .Not a pos) (teOf W fun s => ma s >>= fun x => truth x >>= fun t => bl (!t)) := by
  refine PE.imp (pe_notT ha) fun σ H Q ⟨φ, h, s, aH, aS, v, h', e, k⟩ => ?_
  obtain ⟨x, c, i1, e1, e2, e3⟩ := te_tru e
  refine ⟨φ, h, s, aH, aS, x, i1, e1, fun x' φ1 H1 g1 a1 r1 => ⟨c, hK ▸ (truth_inv a1 r1 e2).2, ?_⟩⟩
  obtain ⟨rfl, rfl⟩ := pure_inv e3
  exact k _ φ1 H1 g1 a1 (show RepD _ _ _ _ _ from .bl _)
/-! ### tests -/
abbrev tst (m : Sg → M Val) : Sg → M Bool := fun s => m s >>= fun x => truth x
theorem tt_val (hK : X.K = W.K) {e : Expr} {m : Sg → M Val} (p : PE X e (teOf W m)) (hp : plainT e = true) : PT X e (ttOf W (tst m)) := by
  refine PT.imp (pt_truth p (plainT_ok hp)) fun σ H Q ⟨φ, h, s, aH, aS, b, h', e, k⟩ => ?_
  obtain ⟨x, c, i1, e1, e2, e3⟩ := te_tru (f := fun _ t => pure t) (show (m s >>= fun x => truth x >>= fun t => pure t) h = .ok b h' from by
    obtain ⟨x, i1, e1, e2⟩ := bind_inv e
    rw [bind_ap, e1, bnd_ok, bind_ap, e2, bnd_ok]
    rfl)
  obtain ⟨rfl, rfl⟩ := pure_inv e3
  exact ⟨φ, h, s, aH, aS, x, i1, e1, fun x' φ1 H1 g1 a1 r1 => ⟨c, hK ▸ (truth_inv a1 r1 e2).2, k φ1 H1 g1 a1⟩⟩
/-- a test's value, and its truth -/
theorem tt_cmp {e : Expr} {m : Sg → M Val} {t : TE} (p : PT X e (tTest t)) (f : ∀ σ H Q, teOf W m σ H Q → t σ H Q) (hb : ∀ s h z h', m s h = .ok z h' → ∃ b, z = .d (.bool b)) : PT X e (ttOf W (tst m)) := by
  refine PT.imp p fun σ H Q ⟨φ, h, s, aH, aS, b, h', e, k⟩ => ?_
  refine f σ H _ ?_
  obtain ⟨x, i1, e1, e2⟩ := bind_inv e
  obtain ⟨c, rfl⟩ := hb _ _ _ _ e1
  obtain ⟨rfl, rfl⟩ := pure_inv (show (pure c : M Bool) i1 = .ok b h' from e2)
  refine ⟨φ, h, s, aH, aS, _, i1, e1, fun x φ1 H1 g1 a1 r1 => ?_⟩
  cases r1.d.bool_inv
  exact ⟨c, rfl, k φ1 H1 g1 a1⟩
theorem tt_and {a b : Expr} {rest : List Expr} {ma mb : Sg → M Val} {pos : Pos} (ha : PT X a (ttOf W (tst ma))) (hb : PW X (.BoolOp .And (b :: rest) pos) (ttOf W (tst mb))) :
    PW X (.BoolOp .And (a :: b :: rest) pos) (ttOf W (tst fun s => ma s >>= fun x => truth x >>= fun t => if t = true then mb s else pure x)) := by
  refine ⟨fun whole pins s σ H Q I z => (pw_and ha hb).run whole pins s σ H Q I ?_⟩
  obtain ⟨φ, h, s, aH, aS, b, h', e, k⟩ := z
  obtain ⟨v, i2, e1, e2⟩ := bind_inv e
  obtain ⟨x, c, i1, e3, e4, e5⟩ := te_tru e1
  refine ⟨φ, h, s, aH, aS, c, i1, ?_, fun φ1 H1 g1 a1 => ?_⟩
  · show (ma s >>= fun x => truth x) h = _
    rw [bind_ap, e3, bnd_ok, e4]
  · cases c with
    | true => exact iteT ⟨φ1, i1, s, a1, aS.grow g1, b, h', (by show (mb s >>= fun x => truth x) i1 = _; rw [bind_ap, show mb s i1 = .ok v i2 from e5, bnd_ok, e2]), fun φ' H' g a => k φ' H' (g1.trans g) a⟩
    | false =>
      obtain ⟨rfl, rfl⟩ := pure_inv e5
      rw [e4] at e2
      obtain ⟨rfl, rfl⟩ := ok_inj e2
      exact iteF (k φ1 H1 g1 a1)
theorem tt_or {a b : Expr} {rest : List Expr} {ma mb : Sg → M Val} {pos : Pos} (ha : PT X a (ttOf W (tst ma))) (hb : PW X (.BoolOp .Or (b :: rest) pos) (ttOf W (tst mb))) :
    PW X (.BoolOp .Or (a :: b :: rest) pos) (ttOf W (tst fun s => ma s >>= fun x => truth x >>= fun t => if t = true then pure x else mb s)) := by
  refine ⟨fun whole pins s σ H Q I z => (pw_or ha hb).run whole pins s σ H Q I ?_⟩
  obtain ⟨φ, h, s, aH, aS, b, h', e, k⟩ := z
  obtain ⟨v, i2, e1, e2⟩ := bind_inv e
  obtain ⟨x, c, i1, e3, e4, e5⟩ := te_tru e1
  refine ⟨φ, h, s, aH, aS, c, i1, ?_, fun φ1 H1 g1 a1 => ?_⟩
  · show (ma s >>= fun x => truth x) h = _
    rw [bind_ap, e3, bnd_ok, e4]
  · cases c with
    | false => exact iteF ⟨φ1, i1, s, a1, aS.grow g1, b, h', (by show (mb s >>= fun x => truth x) i1 = _; rw [bind_ap, show mb s i1 = .ok v i2 from e5, bnd_ok, e2]), fun φ' H' g a => k φ' H' (g1.trans g) a⟩
    | true =>
      obtain ⟨rfl, rfl⟩ := pure_inv e5
      rw [e4] at e2
      obtain ⟨rfl, rfl⟩ := ok_inj e2
      exact iteT (k φ1 H1 g1 a1)
theorem tt_not {a : Expr} {ma : Sg → M Val} {pos : Pos} (ha : PT X a (ttOf W (tst ma))) : PT X (.UnaryOp .Not a pos) (ttOf W (tst fun s => ma s >>= fun x => truth x >>= fun t => bl (!t))) := by
  refine PT.imp (pt_not ha) fun σ H Q ⟨φ, h, s, aH, aS, b, h', e, k⟩ => ?_
  obtain ⟨v, i2, e1, e2⟩ := bind_inv e
  obtain ⟨x, c, i1, e3, e4, e5⟩ := te_tru e1
  obtain ⟨rfl, rfl⟩ := pure_inv e5
  obtain ⟨rfl, rfl⟩ := pure_inv (show (pure (!c) : M Bool) i1 = .ok b h' from e2)
  refine ⟨φ, h, s, aH, aS, c, i1, ?_, fun φ1 H1 g1 a1 => k φ1 H1 g1 a1⟩
  show (ma s >>= fun x => truth x) h = _
  rw [bind_ap, e3, bnd_ok, e4]
theorem te_ite {c a b : Expr} {mc ma mb : Sg → M Val} {pos : Pos} (hc : PT X c (ttOf W (tst mc))) (ha : PE X a (teOf W ma)) (hb : PE X b (teOf W mb)) :
    PE X (.IfExp c a b pos) (teOf W fun s => mc s >>= fun x => truth x >>= fun t => if t = true then ma s else mb s) := by
  refine PE.imp (pe_ifExp hc ha hb) fun σ H Q ⟨φ, h, s, aH, aS, v, h', e, k⟩ => ?_
  obtain ⟨x, c, i1, e1, e2, e3⟩ := te_tru e
  refine ⟨φ, h, s, aH, aS, c, i1, (by show (mc s >>= fun x => truth x) h = _; rw [bind_ap, e1, bnd_ok, e2]), fun φ1 H1 g1 a1 => ?_⟩
  cases c with
  | true => exact iteT ⟨φ1, i1, s, a1, aS.grow g1, v, h', e3, fun u φ' H' g a r => k u φ' H' (g1.trans g) a r⟩
  | false => exact iteF ⟨φ1, i1, s, a1, aS.grow g1, v, h', e3, fun u φ' H' g a r => k u φ' H' (g1.trans g) a r⟩
/-! ### lists of expressions -/
theorem ta_nil : PA X [] (taOf W fun _ => pure []) := PA.imp pa_nil fun σ H Q ⟨φ, h, s, aH, aS, v, h', e, k⟩ => by
  obtain ⟨rfl, rfl⟩ := pure_inv e
  exact k [] φ H Grow.refl aH .nil
theorem ta_cons {e : Expr} {es : List Expr} {m : Sg → M Val} {ms : Sg → M (List Val)} (hn : notStar e = true) (he : PE X e (teOf W m)) (hs : PA X es (taOf W ms)) : PA X (e :: es) (taOf W fun s => m s >>= fun x => ms s >>= fun xs => pure (x :: xs)) := by
  refine PA.imp (pa_cons he hs (star_cons hn)) fun σ H Q ⟨φ, h, s, aH, aS, v, h', e, k⟩ => ?_
  obtain ⟨x, i1, e1, e2⟩ := bind_inv e
  obtain ⟨xs, i2, e3, e4⟩ := bind_inv e2
  obtain ⟨rfl, rfl⟩ := pure_inv e4
  exact ⟨φ, h, s, aH, aS, x, i1, e1, fun x' φ1 H1 g1 a1 r1 => ⟨φ1, i1, s, a1, aS.grow g1, xs, i2, e3, fun xs' φ2 H2 g2 a2 r2 => k _ φ2 H2 (g1.trans g2) a2 (.cons (r1.grow g2) r2)⟩⟩
theorem te_tup {es : List Expr} {ms : Sg → M (List Val)} {x1 : Nat} {pos : Pos} (n : ∀ s h vs h', ms s h = .ok vs h' → vs.length ≤ lim) (hs : PA X es (taOf W ms)) : PE X (.Tuple es x1 pos) (teOf W fun s => ms s >>= fun vs => frzs vs >>= fun ds => pure (.d (.tuple ds))) := by
  refine PE.imp (pe_tup hs) fun σ H Q ⟨φ, h, s, aH, aS, v, h', e, k⟩ => ?_
  obtain ⟨vs, i1, e1, e2⟩ := bind_inv e
  refine ⟨φ, h, s, aH, aS, vs, i1, e1, fun xs φ1 H1 g1 a1 r1 => ?_⟩
  have hl : xs.length ≤ sizeLine := by rw [RepVs.length r1]; exact n _ _ _ _ e1
  exact ⟨hl, fun p hp => tup_want a1 r1 hl e2 (fun u φ' H' g a r => k u φ' H' (g1.trans g) a r) hp⟩
theorem te_lst {es : List Expr} {ms : Sg → M (List Val)} {m : Bool} {pos : Pos} (n : ∀ s h vs h', ms s h = .ok vs h' → vs.length ≤ lim) (hs : PA X es (taOf W ms)) : PE X (.List es pos) (teOf W fun s => ms s >>= fun vs => mkL m vs) := by
  refine PE.imp (pe_lst hs) fun σ H Q ⟨φ, h, s, aH, aS, v, h', e, k⟩ => ?_
  obtain ⟨vs, i1, e1, e2⟩ := bind_inv e
  refine ⟨φ, h, s, aH, aS, vs, i1, e1, fun xs φ1 H1 g1 a1 r1 => ?_⟩
  have hl : xs.length ≤ sizeLine := by rw [RepVs.length r1]; exact n _ _ _ _ e1
  exact ⟨hl, fun p hp => mkL_want e2 (fun u φ' H' g a r => k u φ' H' (g1.trans g) a r) a1 hl r1 hp⟩
/-! ### items, slices -/
theorem te_ix (hK : X.K = W.K) (hu : X.A.units + 1 < cLine) {a b : Expr} {ma mb : Sg → M Val} {pos : Pos} (ns : notSlice b = true) (ha : PE X a (teOf W ma)) (hb : PE X b (teOf W mb)) : PE X (.Subscript a b pos) (teOf W fun s => ma s >>= fun x => mb s >>= fun y => ixV x y) :=
  PE.imp (pe_ix (ix_all hu) ha hb (plain_ix ns)) (te_op (hK ▸ s_ix))
def toOf (W : Wo) (m : Sg → M (Option Int)) : TO := fun σ H Q => ∃ φ h s, AbsH W φ h H ∧ AbsS W φ h H σ s ∧ ∃ v h', m s h = .ok v h' ∧ ∀ φ' H', Grow φ h H φ' h' H' → AbsH W φ' h' H' → Q v H'
theorem PO.imp {e : Option Expr} {t t' : TO} (p : PO X e t) (f : ∀ σ H Q, t' σ H Q → t σ H Q) : PO X e t' := ⟨fun pins s σ H Q I h => p.run pins s σ H Q I (f _ _ _ h)⟩
theorem to_none : PO X none (toOf W fun _ => pure none) := PO.imp po_none fun σ H Q ⟨φ, h, s, aH, aS, v, h', e, k⟩ => by
  obtain ⟨rfl, rfl⟩ := pure_inv e
  exact k φ H Grow.refl aH
theorem to_some {e : Expr} {m : Sg → M Val} (p : PE X e (teOf W m)) : PO X (some e) (toOf W fun s => m s >>= fun x => optI x) := PO.imp (po_some p) fun σ H Q ⟨φ, h, s, aH, aS, v, h', e, k⟩ => by
  obtain ⟨x, i1, e1, e2⟩ := bind_inv e
  have hs : ∃ i, x = .d (.int i) := by
    cases x with
    | r => exact bad_ne e2
    | d x => cases x <;> first | (exact bad_ne e2) | exact ⟨_, rfl⟩
  obtain ⟨i, rfl⟩ := hs
  obtain ⟨rfl, rfl⟩ := pure_inv (show (pure (some i) : M (Option Int)) i1 = .ok v h' from e2)
  refine ⟨φ, h, s, aH, aS, _, i1, e1, fun x' φ1 H1 g1 a1 r1 => ?_⟩
  cases r1.d.int_inv
  exact ⟨i, rfl, k φ1 H1 g1 a1⟩
theorem te_sl (hK : X.K = W.K) {a : Expr} {lo hi : Option Expr} {ma : Sg → M Val} {ml mh : Sg → M (Option Int)} {m : Bool} {pos p2 : Pos} (ha : PE X a (teOf W ma)) (hl : PO X lo (toOf W ml)) (hh : PO X hi (toOf W mh)) :
    PE X (.Subscript a (.Slice lo hi none p2) pos) (teOf W fun s => ma s >>= fun x => ml s >>= fun l => mh s >>= fun u => slV m x l u) := by
  refine PE.imp (pe_slice sl_all ha hl hh) fun σ H Q ⟨φ, h, s, aH, aS, v, h', e, k⟩ => ?_
  obtain ⟨x, i1, e1, e2⟩ := bind_inv e
  obtain ⟨l, i2, e3, e4⟩ := bind_inv e2
  obtain ⟨u, i3, e5, e6⟩ := bind_inv e4
  exact ⟨φ, h, s, aH, aS, x, i1, e1, fun x' φ1 H1 g1 a1 r1 => ⟨φ1, i1, s, a1, aS.grow g1, l, i2, e3, fun φ2 H2 g2 a2 => ⟨φ2, i2, s, a2, aS.grow (g1.trans g2), u, i3, e5, fun φ3 H3 g3 a3 =>
    hK ▸ s_sl a3 ((r1.grow g2).grow g3) e6 fun u φ' H' g a r => k u φ' H' (((g1.trans g2).trans g3).trans g) a r⟩⟩⟩
theorem paired_rev {α β : Type} {F : α → β → Prop} : ∀ {xs : List α} {ys : List β}, Paired F xs ys → Paired F xs.reverse ys.reverse
  | _, _, .nil => .nil
  | _, _, .cons r t => by
    rw [List.reverse_cons, List.reverse_cons]
    exact paired_app (paired_rev t) (.cons r .nil)
/-- x[::-1] -/
theorem te_rv (hK : X.K = W.K) {a : Expr} {ma : Sg → M Val} {m : Bool} {k : Nat} {p1 p2 p3 pos : Pos} (ha : PE X a (teOf W ma)) : PE X (.Subscript a (.Slice none none (some (.UnaryOp .USub (.Constant (.int 1) k p1) p2)) p3) pos) (teOf W fun s => ma s >>= fun x => revV m x) := by
  refine PE.imp (pe_revA ha) fun σ H Q ⟨φ, h, s, aH, aS, v, h', e, k⟩ => ?_
  obtain ⟨x, i1, e1, e2⟩ := bind_inv e
  refine ⟨φ, h, s, aH, aS, x, i1, e1, fun x' φ1 H1 g1 a1 r1 => ?_⟩
  have lst : (lstOf x >>= fun xs => mkL m xs.reverse) i1 = .ok v h' → (∃ a xs, x' = .ref a ∧ SqL X.K H1 a xs ∧ ∀ p, H1 p = none → Q (.ref p) (upd H1 p (.lst xs.reverse))) := fun e2 => by
    obtain ⟨xs, i2, e3, e4⟩ := bind_inv e2
    obtain ⟨rfl, p, us, rfl, l, r2, t⟩ := lstOf_inv a1 r1 e3
    exact ⟨p, us, rfl, .inl t, fun b hb => mkL_want e4 (fun u φ' H' g a r => k u φ' H' (g1.trans g) a r) a1 (by rw [List.length_reverse]; exact l) (paired_rev r2) hb⟩
  cases x with
  | r i => exact .inl (lst e2)
  | d d =>
    cases d with
    | str z =>
      obtain ⟨rfl, l, o⟩ := r1.d.str_inv
      refine .inr (.inl ⟨z, rfl, l, ?_⟩)
      cases e2
      exact k _ φ1 H1 g1 a1 (.d (.str _ (by
        show (revS z).cps.size ≤ sizeLine
        have hz' : z.cps.size ≤ sizeLine := l
        unfold revS
        simpa using hz') (asc_of fun c hc => asc_mem o (by simpa using hc))))
    | tuple ds =>
      obtain ⟨p, us, rfl, f, l, r2⟩ := r1.d.tup_inv
      cases e2
      exact .inr (.inr ⟨p, us, rfl, hK ▸ f.sq, fun b hb => (show Wnt W φ1 _ H1 (.d (.tuple ds.reverse)) _ Q from fun u φ' H' g a r => k u φ' H' (g1.trans g) a r).tup a1 (by rw [List.length_reverse]; exact l) r2.rev hb⟩)
    | list => exact .inl (lst e2)
    | none => exact .inl (lst e2)
    | bool => exact .inl (lst e2)
    | int => exact .inl (lst e2)
    | dict => exact .inl (lst e2)
end
end Nv
set_option Elab.async false
set_option linter.all false
set_option maxRecDepth 100000
/-! N9: calls. -/
namespace Nv
open PySem L2 PyProof.Rows

section
variable {W : Wo} {X : Cx} {φ φ' : Ph} {h h' : Hs} {H H' : Hp}
/-! ### built-in functions by name -/
def biN : Bi → Str
  | .len => "len" | .all => "all" | .any => "any" | .int => "int" | .str => "str" | .bool => "bool" | .repr => "repr" | .list => "list"
  | .tuple => "tuple" | .sorted => "sorted" | .sum => "sum" | .max => "max" | .min => "min" | .dict => "dict"
theorem boot_bi (o : Bi) : bootBuiltins (biN o) = some (biB o).v := by
  cases o
  · exact boot_len
  · exact boot_all
  · exact boot_any
  · exact boot_int
  · exact boot_str
  · exact boot_bool
  · exact boot_repr
  · exact boot_list
  · exact boot_tuple
  · exact boot_sorted
  · exact boot_sum
  · exact boot_max
  · exact boot_min
  · exact boot_dict
theorem te_bi (hK : X.K = W.K) (hc : X.calm = true) (hgd : X.A.guards = some []) (hu : X.A.units + 65 < cLine) (o : Bi) (m : Bool) {e : Expr} {es : List Expr} {ms : Sg → M (List Val)} {p pos : Pos} (hg : Gl X (biN o)) (hm : X.mg (biN o) = none)
    (hst : (e :: es).all notStar = true) (ha : PA X (e :: es) (taOf W ms)) : PE X (.Call (.Name (biN o) p) (e :: es) [] pos) (teOf W fun s => ms s >>= fun vs => biV o m vs) := by
  obtain ⟨r, h1, h2⟩ := op_bi (W := W) hK hc hgd hu o m
  have hs : notStar e = true ∧ es.all notStar = true := by simpa [List.all_cons, Bool.and_eq_true] using hst
  have step : PE X (.Call (.Name (biN o) p) (e :: es) [] pos) (tCB r (taOf W ms)) := by
    have hb := boot_bi o
    revert h1 hb
    cases hv : biB o with
    | fn id => exact fun h1 hb => pe_callB h1 hg hm hb ha (by cases o <;> decide) (by cases o <;> decide) (star_cons hs.1) (star_any _ _ _ hs.2)
    | ty T => exact fun h1 hb => pe_callTy h1 hg hm hb ha (by cases o <;> decide) (by cases o <;> decide) (star_cons hs.1) (star_any _ _ _ hs.2)
  refine PE.imp step fun σ H Q ⟨φ, h, s, aH, aS, v, h', e, k⟩ => ?_
  obtain ⟨vs, i1, e1, e2⟩ := bind_inv e
  exact ⟨φ, h, s, aH, aS, vs, i1, e1, fun xs φ1 H1 g1 a1 r1 => h2 φ1 i1 H1 xs vs v h' Q a1 r1 e2 fun u φ' H' g a r => k u φ' H' (g1.trans g) a r⟩
/-! ### isinstance -/
def tyN : Ty → String
  | .int => "int" | .str => "str" | .bool => "bool" | .tuple => "tuple" | .list => "list" | .dict => "dict"
def tyS (t : Ty) : Str := Str.ofString (tyN t)
def kdD : PD → String
  | .none => "NoneType" | .bool _ => "bool" | .int _ => "int" | .str _ => "str" | .list _ => "list" | .tuple _ => "tuple" | .dict _ => "dict"
theorem kitB_ok (d : PD) (t : Ty) : kitB (kdD d) (tyN t) = some (isTy t d) := by
  cases d <;> cases t <;> (simp only [kdD, tyN, isTy]; decide +kernel)
theorem tyx_d (a : AbsH W φ h H) {x : V} {d : PD} (r : RepD W.K (Al φ h) H x d) : TyX W.K H x (.type (kdD d)) := by
  cases r with
  | non => exact .base .non
  | bl => exact .base (.bl _)
  | int => exact .base (.int _)
  | str => exact .base (.str _)
  | lst f =>
    rcases f.1 with e | ⟨o, e⟩
    · exact .base (.lst e)
    · exact .base (.frz e)
  | tup f =>
    rcases f with ⟨e, _⟩ | ⟨o, its, n, e, c, _⟩
    · exact .base (.tup e)
    · exact .kTuple e c
  | dct f =>
    rcases f.1 with e | ⟨o, e⟩
    · exact .base (.dK e)
    · exact .fDict e
theorem s_isi (a : AbsH W φ h H) {x : V} {v z : Val} {t : Ty} (r : RepV W φ h H x v) (e : isV t v h = .ok z h') : h' = h ∧ ∃ tn b, TyX W.K H x (.type tn) ∧ kitB tn (tyN t) = some b ∧ z = .d (.bool b) := by
  cases v with
  | d v =>
    obtain ⟨rfl, rfl⟩ := pure_inv e
    exact ⟨rfl, _, _, tyx_d a r, kitB_ok v t, rfl⟩
  | r i =>
    obtain ⟨p, ep, rfl⟩ := r
    obtain ⟨o, h1, e1, e2⟩ := bind_inv (show (getO i >>= fun o => isO t o) h = .ok z h' from e)
    obtain ⟨rfl, eo⟩ := getO_inv e1
    cases o with
    | lst xs =>
      obtain ⟨rfl, rfl⟩ := pure_inv e2
      obtain ⟨vs, e3, _⟩ := a.ob i p _ ep eo
      refine ⟨rfl, _, _, .base (.lst e3), ?_, rfl⟩
      have := kitB_ok (.list []) t
      rw [show kdD (.list []) = "list" from rfl] at this
      rw [this]
      cases t <;> rfl
    | dct xs =>
      obtain ⟨rfl, rfl⟩ := pure_inv e2
      obtain ⟨vs, e3, _⟩ := a.ob i p _ ep eo
      refine ⟨rfl, _, _, .base (.dK e3), ?_, rfl⟩
      have := kitB_ok (.dict []) t
      rw [show kdD (.dict []) = "dict" from rfl] at this
      rw [this]
      cases t <;> rfl
    | ins => exact bad_ne e2
    | dtt => exact bad_ne e2
    | dead => exact bad_ne e2
def tyB (t : Ty) : Bi := match t with
  | .int => .int | .str => .str | .bool => .bool | .tuple => .tuple | .list => .list | .dict => .dict
theorem boot_ty (t : Ty) : bootBuiltins (biN (tyB t)) = some (.type (tyN t)) := by
  cases t
  · exact boot_int
  · exact boot_str
  · exact boot_bool
  · exact boot_tuple
  · exact boot_list
  · exact boot_dict
theorem te_isi (hK : X.K = W.K) {a : Expr} {ma : Sg → M Val} (t : Ty) {p p2 pos : Pos} (hg : Gl X "isinstance") (hm : X.mg "isinstance" = none) (hg2 : Gl X (biN (tyB t))) (hm2 : X.mg (biN (tyB t)) = none) (hst : notStar a = true) (ha : PE X a (teOf W ma)) :
    PE X (.Call (.Name "isinstance" p) [a, .Name (biN (tyB t)) p2] [] pos) (teOf W fun s => ma s >>= fun x => isV t x) := by
  have hT : PE X (.Name (biN (tyB t)) p2) (tC (.ty (tyN t))) := pe_bltn hg2 hm2 (boot_ty t) rfl (by cases t <;> decide) (by cases t <;> decide)
  refine PE.imp (pe_callB call_isi hg hm boot_isinstance (pa_cons ha (pa_cons hT pa_nil) (star_cons hst)) (by decide) (by decide) (star_cons hst) (by rfl)) fun σ H Q ⟨φ, h, s, aH, aS, v, h', e, k⟩ => ?_
  obtain ⟨x, i1, e1, e2⟩ := bind_inv e
  refine ⟨φ, h, s, aH, aS, x, i1, e1, fun x' φ1 H1 g1 a1 r1 => ?_⟩
  obtain ⟨rfl, tn, b, ty, kb, rfl⟩ := s_isi a1 r1 e2
  refine ⟨x', .ty (tyN t), _, _, b, rfl, .ty _, hK ▸ ty, kit_ty kb, ?_⟩
  exact k _ φ1 H1 g1 a1 (show RepD _ _ _ _ _ from .bl b)
/-! ### methods -/
def mtN : Mt → Str
  | .append => "append" | .extend => "extend" | .pop => "pop" | .join => "join" | .get1 => "get" | .get2 => "get" | .upper => "upper" | .idx => "index" | .cnt => "count" | .popi => "pop"
theorem te_mt0 (hK : X.K = W.K) {a : Expr} {ma : Sg → M Val} {apos cpos : Pos} (hl : (apos.endLine == cpos.line) = true) (hb : notSuper a = true) (ha : PE X a (teOf W ma)) :
    PE X (.Call (.Attribute a (mtN .pop) apos) [] [] cpos) (teOf W fun s => ma s >>= fun x => kdV (mtK .pop) x >>= fun _ => (pure [] : M (List Val)) >>= fun vs => mtV .pop x vs) := by
  refine PE.imp (pe_bm0 F.plainAttrs_list F.slot_list_pop F.type_list_pop mt_pop ha (base_ok hb _) hl) fun σ H Q ⟨φ, h, s, aH, aS, v, h', e, k⟩ => ?_
  obtain ⟨x, i1, e1, e2⟩ := bind_inv e
  obtain ⟨u, i2, e3, e4⟩ := bind_inv e2
  obtain ⟨vs, i3, e5, e6⟩ := bind_inv e4
  obtain ⟨rfl, rfl⟩ := pure_inv e5
  refine ⟨φ, h, s, aH, aS, x, i1, e1, fun x' φ1 H1 g1 a1 r1 => ?_⟩
  obtain ⟨rfl, ty⟩ := kd_ty (kd := mtK .pop) a1 (fun z => nomatch z) r1 e3
  exact ⟨hK ▸ ty, s_pop φ1 _ H1 x' [] x [] v h' Q a1 r1 .nil e6 fun u φ' H' g a r => k u φ' H' (g1.trans g) a r⟩
theorem te_up (hK : X.K = W.K) {a : Expr} {ma : Sg → M Val} {apos cpos : Pos} (hl : (apos.endLine == cpos.line) = true) (hb : notSuper a = true) (ha : PE X a (teOf W ma)) :
    PE X (.Call (.Attribute a (mtN .upper) apos) [] [] cpos) (teOf W fun s => ma s >>= fun x => kdV (mtK .upper) x >>= fun _ => (pure [] : M (List Val)) >>= fun vs => mtV .upper x vs) := by
  refine PE.imp (pe_bm0 F.plainAttrs_str F.slot_str_upper F.type_str_upper mt_upper ha (base_ok hb _) hl) fun σ H Q ⟨φ, h, s, aH, aS, v, h', e, k⟩ => ?_
  obtain ⟨x, i1, e1, e2⟩ := bind_inv e
  obtain ⟨u, i2, e3, e4⟩ := bind_inv e2
  obtain ⟨vs, i3, e5, e6⟩ := bind_inv e4
  obtain ⟨rfl, rfl⟩ := pure_inv e5
  refine ⟨φ, h, s, aH, aS, x, i1, e1, fun x' φ1 H1 g1 a1 r1 => ?_⟩
  obtain ⟨rfl, ty⟩ := kd_ty (kd := mtK .upper) a1 (fun z => nomatch z) r1 e3
  exact ⟨hK ▸ ty, s_upper φ1 _ H1 x' [] x [] v h' Q a1 r1 .nil e6 fun u φ' H' g a r => k u φ' H' (g1.trans g) a r⟩
theorem few_ok {pos : Pos} {env : Env} {es : List Expr} (h : es.all notStar = true) (hn : es.length < 30) : ((backTo pos (starEach es env)).all (fun x => !x.1) && (backToKw pos (keywordEach [] env)).all (fun x => x.1.isSome)
      && decide (es.length + ([] : List Keyword).length + (if ([] : List Keyword).isEmpty then 0 else 1) < 30)) = true := by
  rw [star_all env pos es h]
  show (true && true && _) = true
  simp [hn]
theorem te_mt (hK : X.K = W.K) (o : Mt) (ho : o ≠ .get1 ∧ o ≠ .get2) {a e : Expr} {es : List Expr} {ma : Sg → M Val} {ms : Sg → M (List Val)} {apos cpos : Pos} (hl : (apos.endLine == cpos.line) = true) (hb : notSuper a = true) (hst : (e :: es).all notStar = true) (hn : (e :: es).length < 30)
    (ha : PE X a (teOf W ma)) (hs : PA X (e :: es) (taOf W ms)) : PE X (.Call (.Attribute a (mtN o) apos) (e :: es) [] cpos) (teOf W fun s => ma s >>= fun x => kdV (mtK o) x >>= fun _ => ms s >>= fun vs => mtV o x vs) := by
  have hs2 : notStar e = true ∧ es.all notStar = true := by simpa [List.all_cons, Bool.and_eq_true] using hst
  have fin : ∀ {T : String} {r : V → List V → Hp → VK → Prop}, (kdN (mtK o) = T) → RMS W r (mtV o) → mtK o ≠ .dct → ∀ σ H Q, teOf W (fun s => ma s >>= fun x => kdV (mtK o) x >>= fun _ => ms s >>= fun vs => mtV o x vs) σ H Q → tBM X.K T r (teOf W ma) (taOf W ms) σ H Q := by
    intro T r hT hr nd σ H Q ⟨φ, h, s, aH, aS, v, h', e, k⟩
    obtain ⟨x, i1, e1, e2⟩ := bind_inv e
    obtain ⟨u, i2, e3, e4⟩ := bind_inv e2
    obtain ⟨vs, i3, e5, e6⟩ := bind_inv e4
    refine ⟨φ, h, s, aH, aS, x, i1, e1, fun x' φ1 H1 g1 a1 r1 => ?_⟩
    obtain ⟨rfl, ty⟩ := kd_ty a1 nd r1 e3
    rw [hT] at ty
    exact ⟨hK ▸ ty, φ1, _, s, a1, aS.grow g1, vs, i3, e5, fun xs φ2 H2 g2 a2 r2 => hr φ2 i3 H2 x' xs x vs v h' Q a2 (r1.grow g2) r2 e6 fun u φ' H' g a r => k u φ' H' ((g1.trans g2).trans g) a r⟩
  have few := few_ok (pos := cpos) (env := X.env) hst hn
  cases o with
  | append => exact PE.imp (pe_bm F.plainAttrs_list F.slot_list_append F.type_list_append mt_append ha hs (base_ok hb _) few hl (star_cons hs2.1) (star_any _ _ _ hs2.2)) (fin rfl s_append (fun z => nomatch z))
  | extend => exact PE.imp (pe_bm F.plainAttrs_list F.slot_list_extend F.type_list_extend mt_extR ha hs (base_ok hb _) few hl (star_cons hs2.1) (star_any _ _ _ hs2.2)) (fin rfl (hK ▸ s_extend) (fun z => nomatch z))
  | pop => exact PE.imp (pe_bm F.plainAttrs_list F.slot_list_pop F.type_list_pop mt_pop ha hs (base_ok hb _) few hl (star_cons hs2.1) (star_any _ _ _ hs2.2)) (fin rfl s_pop (fun z => nomatch z))
  | join => exact PE.imp (pe_bm F.plainAttrs_str F.slot_str_join F.type_str_join mt_join ha hs (base_ok hb _) few hl (star_cons hs2.1) (star_any _ _ _ hs2.2)) (fin rfl (hK ▸ s_join) (fun z => nomatch z))
  | get1 => exact absurd rfl ho.1
  | get2 => exact absurd rfl ho.2
  | upper => exact PE.imp (pe_bm F.plainAttrs_str F.slot_str_upper F.type_str_upper mt_upper ha hs (base_ok hb _) few hl (star_cons hs2.1) (star_any _ _ _ hs2.2)) (fin rfl s_upper (fun z => nomatch z))
  | idx => exact PE.imp (pe_bm F.plainAttrs_str F.slot_str_index F.type_str_index mt_sindex ha hs (base_ok hb _) few hl (star_cons hs2.1) (star_any _ _ _ hs2.2)) (fin rfl s_idx (fun z => nomatch z))
  | cnt => exact PE.imp (pe_bm F.plainAttrs_str F.slot_str_count F.type_str_count mt_count ha hs (base_ok hb _) few hl (star_cons hs2.1) (star_any _ _ _ hs2.2)) (fin rfl s_cnt (fun z => nomatch z))
  | popi => exact PE.imp (pe_bm F.plainAttrs_list F.slot_list_pop F.type_list_pop mt_popAt ha hs (base_ok hb _) few hl (star_cons hs2.1) (star_any _ _ _ hs2.2)) (fin rfl s_popi (fun z => nomatch z))
theorem te_get1 (hK : X.K = W.K) (hu : X.A.units + 1 < cLine) {a e : Expr} {ma : Sg → M Val} {ms : Sg → M (List Val)} {apos cpos : Pos} (hl : (apos.endLine == cpos.line) = true) (hb : notSuper a = true) (hst : notStar e = true)
    {me : Sg → M Val} (ha : PE X a (teOf W ma)) (he : PE X e (teOf W me)) (hms : ∀ s, ms s = me s >>= fun x => (pure [] : M (List Val)) >>= fun xs => pure (x :: xs)) : PE X (.Call (.Attribute a (mtN .get1) apos) [e] [] cpos) (teOf W fun s => ma s >>= fun x => kdV (mtK .get1) x >>= fun _ => ms s >>= fun vs => mtV .get1 x vs) := by
  have few := few_ok (pos := cpos) (env := X.env) (es := [e]) (by simp [hst]) (by simp)
  refine PE.imp (pe_dget1 hu ha he ⟨base_ok hb _, few, hl, by rw [star_cons hst]; rfl⟩) fun σ H Q ⟨φ, h, s, aH, aS, v, h', e0, k⟩ => ?_
  obtain ⟨x, i1, e1, e2⟩ := bind_inv e0
  obtain ⟨u, i2, e3, e4⟩ := bind_inv e2
  obtain ⟨vs, i3, e5, e6⟩ := bind_inv e4
  rw [hms] at e5
  obtain ⟨y, i4, e7, e8⟩ := bind_inv e5
  obtain ⟨ys, i5, e9, e10⟩ := bind_inv e8
  obtain ⟨rfl, rfl⟩ := pure_inv e9
  obtain ⟨rfl, rfl⟩ := pure_inv e10
  refine ⟨φ, h, s, aH, aS, x, i1, e1, fun x' φ1 H1 g1 a1 r1 => ?_⟩
  obtain ⟨rfl, p, rfl, hd⟩ := kd_d a1 r1 e3
  refine ⟨p, rfl, hd, φ1, _, s, a1, aS.grow g1, y, _, e7, fun y' φ2 H2 g2 a2 r2 => ?_⟩
  obtain ⟨p', o, e11, d, q⟩ := s_get (w := .non) (dv := .d .none) a2 (r1.grow g2) r2 (show RepD _ _ _ _ _ from .non) e6 fun u φ' H' g a r => k u φ' H' ((g1.trans g2).trans g) a r
  cases e11
  exact ⟨o, d, q⟩
theorem te_get2 (hK : X.K = W.K) (hu : X.A.units + 1 < cLine) {a e f : Expr} {ma : Sg → M Val} {ms : Sg → M (List Val)} {apos cpos : Pos} (hl : (apos.endLine == cpos.line) = true) (hb : notSuper a = true) (hst : notStar e = true) (hst2 : notStar f = true)
    {me mf : Sg → M Val} (ha : PE X a (teOf W ma)) (he : PE X e (teOf W me)) (hf : PE X f (teOf W mf)) (hms : ∀ s, ms s = me s >>= fun x => (mf s >>= fun y => (pure [] : M (List Val)) >>= fun xs => pure (y :: xs)) >>= fun xs => pure (x :: xs)) :
    PE X (.Call (.Attribute a (mtN .get2) apos) [e, f] [] cpos) (teOf W fun s => ma s >>= fun x => kdV (mtK .get2) x >>= fun _ => ms s >>= fun vs => mtV .get2 x vs) := by
  have few := few_ok (pos := cpos) (env := X.env) (es := [e, f]) (by simp [hst, hst2]) (by simp)
  refine PE.imp (pe_dget2 hu ha he hf ⟨base_ok hb _, few, hl, by rw [star_cons hst, star_cons hst2]; rfl⟩) fun σ H Q ⟨φ, h, s, aH, aS, v, h', e0, k⟩ => ?_
  obtain ⟨x, i1, e1, e2⟩ := bind_inv e0
  obtain ⟨u, i2, e3, e4⟩ := bind_inv e2
  obtain ⟨vs, i3, e5, e6⟩ := bind_inv e4
  rw [hms] at e5
  obtain ⟨y, i4, e7, e8⟩ := bind_inv e5
  obtain ⟨ys, i5, e9, e10⟩ := bind_inv e8
  obtain ⟨w, i6, e11, e12⟩ := bind_inv e9
  obtain ⟨ws, i7, e13, e14⟩ := bind_inv e12
  obtain ⟨rfl, rfl⟩ := pure_inv e13
  obtain ⟨rfl, rfl⟩ := pure_inv e14
  obtain ⟨rfl, rfl⟩ := pure_inv e10
  refine ⟨φ, h, s, aH, aS, x, i1, e1, fun x' φ1 H1 g1 a1 r1 => ?_⟩
  obtain ⟨rfl, p, rfl, hd⟩ := kd_d a1 r1 e3
  refine ⟨p, rfl, hd, φ1, _, s, a1, aS.grow g1, y, _, e7, fun y' φ2 H2 g2 a2 r2 => ⟨φ2, _, s, a2, aS.grow (g1.trans g2), w, _, e11, fun w' φ3 H3 g3 a3 r3 => ?_⟩⟩
  obtain ⟨p', o, e15, d, q⟩ := s_get a3 ((r1.grow g2).grow g3) (r2.grow g3) r3 e6 fun u φ' H' g a r => k u φ' H' (((g1.trans g2).trans g3).trans g) a r
  cases e15
  exact ⟨o, d, q⟩
/-! ### own functions -/
/-- what a callee finds -/
structure RoomG (k : Nat) (A : Around) : Prop where
  room : Room k A
  gd : A.guards = some []
theorem RoomG.deeper {k : Nat} {A : Around} (r : RoomG (k + 1) A) (env : Env) : RoomG k (A.deeper env) := ⟨r.room.deeper env, r.gd⟩
theorem RoomG.mono {j k : Nat} {A : Around} (r : RoomG k A) (h : j ≤ k) : RoomG j A := ⟨r.room.mono h, r.gd⟩
structure FnG (P : Program) (w : World) (K : PySem.W.Frag) (mg : Str → Option Value) (base : Heap) (CX : CXT) (k : Nat) (f : Addr) (fd : FuncData) (ps : List Str) (sp : Sp) : Prop where
  len : ∀ vs H Q E, sp vs H Q E → vs.length = ps.length
  run : ∀ (A : Around) (outer : List Env) (s : Shared) (H : Hp) (args : Args) (us : List Value) (vs : List V) (Q : VK) (E : XK), RoomG k A → Env0 P w K mg base A outer s H → BindsTo s fd args (ps.zip us) → Vals vs us → sp vs H Q E →
    codeAny (model P w) A (.call (.ref f) args) (CR CX outer P w H s Q E) s
theorem run_fnG {CX : CXT} {k : Nat} {f : Addr} {fd : FuncData} {ps : List Str} {sp : Sp} {E : XK} {pins : List (Addr × Obj)} {σ : L2.St} {H : Hp} {s : Shared} {Q : VK} {us zs : List Value} {vs : List V} {kw : List (Str × Value)} (F : FnG X.prog X.w X.K X.mg X.base CX k f fd ps sp) (hr : RoomG k X.A)
    (hb : BindsTo s fd ⟨us, kw⟩ (ps.zip zs)) (hx : Passes CX X E) (I : Inv X pins σ H s) (r : Vals vs zs) (h : sp vs H Q E) : wpAny (model X.prog X.w) X.A (call (.ref f) us kw) (EP X pins σ Q) X.xe s := by
  refine wpAny_call (codeAny_mono (F.run X.A X.stack s H ⟨us, kw⟩ zs vs Q E hr I.env0 hb r h) fun r s' hq => ?_)
  cases r with
  | error e => exact hx pins σ H s e s' I hq
  | ok fl =>
    cases fl with
    | ret u => exact I.after hq
    | next => exact hq.elim
    | brk => exact hq.elim
    | cont => exact hq.elim
/-- what call n promises -/
def spOf (W : Wo) (T : Tab) (k n : Nat) : Sp := fun vs H Q _ => ∃ φ h ws z h', AbsH W φ h H ∧ RepVs W φ h H vs ws ∧ (∃ fn, T.fns[n]? = some fn ∧ ws.length = fn.np) ∧ callN T k n ws h = .ok z h' ∧ Wnt W φ h H z h' Q
/-- a function of the program, in the written part -/
structure FnIn (X : Cx) (CX : CXT) (W : Wo) (T : Tab) (k n : Nat) (x : Str) where
  f : Addr
  fd : FuncData
  ps : List Str
  ok : FnG X.prog X.w X.K X.mg X.base CX k f fd ps (spOf W T k n)
  mg : X.mg x = some (.ref f)
  kp : PySem.W.keepIn X.K (.ref f) = true
  /-- how its arguments are bound -/
  bd : ∀ (s : Shared) (us : List Value), X.K.In s.heap → us.length = ps.length → BindsTo s fd ⟨us, []⟩ (ps.zip us)
  np : ∃ fn, T.fns[n]? = some fn ∧ ps.length = fn.np
theorem te_cal (hK : X.K = W.K) {CX : CXT} {E : XK} {T : Tab} {k n : Nat} {x : Str} (F : FnIn X CX W T k n x) (hr : RoomG k X.A) (hx : Passes CX X E) (hg : Gl X x) (hdb : (x == ("__debug__" : Str)) = false) {e : Expr} {es : List Expr} {ms : Sg → M (List Val)} {p pos : Pos}
    (hst : (e :: es).all notStar = true) (ha : PA X (e :: es) (taOf W ms)) : PE X (.Call (.Name x p) (e :: es) [] pos) (teOf W fun s => ms s >>= fun vs => callN T k n vs) := by
  have hs : notStar e = true ∧ es.all notStar = true := by simpa [List.all_cons, Bool.and_eq_true] using hst
  refine ⟨fun pins s σ H Q I ⟨φ, h, sg, aH, aS, v, h', e0, kk⟩ => ?_⟩
  obtain ⟨vs, i1, e1, e2⟩ := bind_inv e0
  refine wpAny_Call_Name_kw (ld_glob I hg F.mg ?_ hdb)
  refine PySem.W.callWith_K (h₀ := X.base) I.ok.mod.kin F.kp (thn (ha.run pos pins s σ H (fun xs H1 => spOf W T k n xs H1 Q E) I ⟨φ, h, sg, aH, aS, vs, i1, e1, fun xs φ1 H1 g1 a1 r1 => ?_⟩) fun us s1 ⟨xs, H1, I1, r, q⟩ => ⟨I1.kIn, ?_⟩) (star_cons hs.1) (star_any _ _ _ hs.2)
  · refine ⟨φ1, i1, vs, v, h', a1, r1, ?_, e2, fun u φ' H' g a r => kk u φ' H' (g1.trans g) a r⟩
    obtain ⟨fn, ef, _⟩ := F.np
    refine ⟨fn, ef, ?_⟩
    cases k with
    | zero => exact bad_ne e2
    | succ d =>
      have e2' : (match T.fns[n]? with
        | none => Res.bad
        | some fn => if vs.length = fn.np then (match exSs ⟨callN T d, T.g⟩ fn.body (startS fn.nn vs) i1 with
          | .ok (.ret v) h1 => exitC fn.fz i1 v h1
          | .ok (.nx _) h1 => exitC fn.fz i1 (.d .none) h1
          | _ => .bad) else .bad) = .ok v h' := e2
      rw [ef] at e2'
      simp only at e2'
      by_cases hl : vs.length = fn.np
      · exact hl
      · rw [if_neg hl] at e2'
        cases e2'
  · have hl := F.ok.len _ _ _ _ q
    exact run_fnG F.ok hr (F.bd s1 us I1.kIn (by rw [← r.length]; exact hl)) hx I1 r q
end
end Nv
set_option Elab.async false
set_option linter.all false
set_option maxRecDepth 100000
/-! N9b: calls with keywords; what is walked; targets. -/
namespace Nv
open PySem L2 PyProof.Rows

section
variable {W : Wo} {X : Cx} {φ φ' : Ph} {h h' : Hs} {H H' : Hp}
theorem PK.imp {X : Cx} {e : List Keyword} {t t' : TA} (p : PK X e t) (f : ∀ σ H Q, t' σ H Q → t σ H Q) : PK X e t' := ⟨fun pos pins s σ H Q I h => p.run pos pins s σ H Q I (f _ _ _ h)⟩
theorem tk_nil : PK X [] (taOf W fun _ => pure []) := PK.imp pk_nil fun σ H Q ⟨φ, h, s, aH, aS, v, h', e, k⟩ => by
  obtain ⟨rfl, rfl⟩ := pure_inv e
  exact k [] φ H Grow.refl aH .nil
theorem tk_cons {e : Expr} {nm : Option Str} {kpos : Pos} {es : List Keyword} {m : Sg → M Val} {ms : Sg → M (List Val)} (he : PE X e (teOf W m)) (hs : PK X es (taOf W ms)) : PK X (⟨nm, e, kpos⟩ :: es) (taOf W fun s => m s >>= fun x => ms s >>= fun xs => pure (x :: xs)) := by
  refine PK.imp (pk_cons he hs) fun σ H Q ⟨φ, h, s, aH, aS, v, h', e, k⟩ => ?_
  obtain ⟨x, i1, e1, e2⟩ := bind_inv e
  obtain ⟨xs, i2, e3, e4⟩ := bind_inv e2
  obtain ⟨rfl, rfl⟩ := pure_inv e4
  exact ⟨φ, h, s, aH, aS, x, i1, e1, fun x' φ1 H1 g1 a1 r1 => ⟨φ1, i1, s, a1, aS.grow g1, xs, i2, e3, fun xs' φ2 H2 g2 a2 r2 => k _ φ2 H2 (g1.trans g2) a2 (.cons (r1.grow g2) r2)⟩⟩
/-- the keywords' names, all of them written -/
def kwNm : List Keyword → Option (List Str)
  | [] => some []
  | ⟨some x, _, _⟩ :: r => (kwNm r).map (x :: ·)
  | ⟨none, _, _⟩ :: _ => none
theorem kw_all (pos : Pos) (env : Env) : ∀ {kws : List Keyword} {ks : List Str}, kwNm kws = some ks → (backToKw pos (keywordEach kws env)).all (·.1.isSome) = true ∧ (backToKw pos (keywordEach kws env)).filterMap (·.1) = ks ∧ (backToKw pos (keywordEach kws env)).any (·.1.isNone) = false
  | [], _, e => by cases e; exact ⟨rfl, rfl, rfl⟩
  | ⟨some x, a, p⟩ :: r, _, e => by
    simp only [kwNm, Option.map_eq_some_iff] at e
    obtain ⟨t, e1, rfl⟩ := e
    obtain ⟨h1, h2, h3⟩ := kw_all pos env e1
    refine ⟨?_, ?_, ?_⟩
    · show (true && (backToKw pos (keywordEach r env)).all (·.1.isSome)) = true
      rw [h1]
      rfl
    · show x :: (backToKw pos (keywordEach r env)).filterMap (·.1) = _
      rw [h2]
    · show (false || (backToKw pos (keywordEach r env)).any (·.1.isNone)) = false
      rw [h3]
      rfl
  | ⟨none, _, _⟩ :: _, _, e => by cases e
theorem star_none (env : Env) (pos : Pos) {es : List Expr} (h : es.all notStar = true) : (backTo pos (starEach es env)).any (·.1) = false := star_any env pos es h
/-- the arguments of a call with keywords in the parameters' order -/
def perm {α : Type} (us ws : List α) (p : List Nat) : List α := us ++ p.filterMap fun i => ws[i]?
theorem perm_vals {xs zs : List V} {us ws : List Value} (r1 : Vals xs us) (r2 : Vals zs ws) (p : List Nat) : Vals (perm xs zs p) (perm us ws p) := by
  refine r1.append ?_
  induction p with
  | nil => exact .nil
  | cons i p ih =>
    simp only [List.filterMap_cons]
    cases e : zs[i]? with
    | none =>
      have : ws[i]? = none := by
        rw [List.getElem?_eq_none_iff] at e ⊢
        rw [← r2.length]
        exact e
      rw [this]
      exact ih
    | some z =>
      obtain ⟨w, ew, rw'⟩ := r2.get e
      rw [ew]
      exact .cons rw' ih
theorem paired_get {α β : Type} {F : α → β → Prop} : ∀ {xs : List α} {ys : List β}, Paired F xs ys → ∀ (i : Nat), (xs[i]? = none ∧ ys[i]? = none) ∨ ∃ x y, xs[i]? = some x ∧ ys[i]? = some y ∧ F x y
  | _, _, .nil, i => .inl ⟨by simp, by simp⟩
  | _, _, .cons r t, 0 => .inr ⟨_, _, rfl, rfl, r⟩
  | _, _, .cons r t, i + 1 => by simpa using paired_get t i
theorem perm_rep {xs zs : List V} {us ws : List Val} (r1 : RepVs W φ h H xs us) (r2 : RepVs W φ h H zs ws) (p : List Nat) : RepVs W φ h H (perm xs zs p) (perm us ws p) := by
  refine paired_app r1 ?_
  induction p with
  | nil => exact .nil
  | cons i p ih =>
    simp only [List.filterMap_cons]
    rcases paired_get r2 i with ⟨e1, e2⟩ | ⟨x, y, e1, e2, r⟩
    · rw [e1, e2]; exact ih
    · rw [e1, e2]; exact .cons r ih
/-- the names n positional and the keywords ks, in the order p -/
def KwB (X : Cx) (fd : FuncData) (ps : List Str) (n : Nat) (ks : List Str) (p : List Nat) : Prop :=
  ∀ (s : Shared) (us ws : List Value), X.K.In s.heap → us.length = n → ws.length = ks.length → BindsTo s fd ⟨us, ks.zip ws⟩ (ps.zip (perm us ws p))
theorem call_np {T : Tab} {k n : Nat} {vs : List Val} {v : Val} (e2 : callN T k n vs h = .ok v h') : ∃ fn, T.fns[n]? = some fn ∧ vs.length = fn.np := by
  cases k with
  | zero => exact bad_ne e2
  | succ d =>
    have e2' : (match T.fns[n]? with
      | none => Res.bad
      | some fn => if vs.length = fn.np then (match exSs ⟨callN T d, T.g⟩ fn.body (startS fn.nn vs) h with
        | .ok (.ret v) h1 => exitC fn.fz h v h1
        | .ok (.nx _) h1 => exitC fn.fz h (.d .none) h1
        | _ => .bad) else .bad) = .ok v h' := e2
    cases ef : T.fns[n]? with
    | none => rw [ef] at e2'; cases e2'
    | some fn =>
      rw [ef] at e2'
      simp only at e2'
      by_cases hl : vs.length = fn.np
      · exact ⟨fn, rfl, hl⟩
      · rw [if_neg hl] at e2'
        cases e2'
theorem te_calk (hK : X.K = W.K) {CX : CXT} {E : XK} {T : Tab} {k n : Nat} {x : Str} (F : FnIn X CX W T k n x) (hr : RoomG k X.A) (hx : Passes CX X E) (hg : Gl X x) (hdb : (x == ("__debug__" : Str)) = false) {es : List Expr} {kws : List Keyword} {ks : List Str} {ms mk : Sg → M (List Val)} {p pos : Pos} {pm : List Nat}
    (hst : es.all notStar = true) (hks : kwNm kws = some ks) (hb : KwB X F.fd F.ps es.length ks pm) (l1 : ∀ s h vs h', ms s h = .ok vs h' → vs.length = es.length) (l2 : ∀ s h vs h', mk s h = .ok vs h' → vs.length = ks.length) (h0 : es = [] → ∀ s, ms s = pure []) (ha : PA X es (taOf W ms)) (hkw : PK X kws (taOf W mk)) :
    PE X (.Call (.Name x p) es kws pos) (teOf W fun s => ms s >>= fun vs => mk s >>= fun ws => callN T k n (perm vs ws pm)) := by
  obtain ⟨q1, q2, q3⟩ := kw_all pos X.env hks
  have fin : ∀ {pins : List (Addr × Obj)} {s2 : Shared} {σ : L2.St} {H2 : Hp} {Q : VK} {us ws : List Value} {xs zs : List V}, Inv X pins σ H2 s2 → Vals xs us → Vals zs ws → xs.length = es.length ∧ zs.length = ks.length ∧ spOf W T k n (perm xs zs pm) H2 Q E →
      X.K.In s2.heap ∧ wpAny (model X.prog X.w) X.A (call (.ref F.f) ([] ++ us) (((backToKw pos (keywordEach kws X.env)).filterMap (·.1)).zip ws)) (EP X pins σ Q) X.xe s2 := by
    intro pins s2 σ H2 Q us ws xs zs I r rz ⟨l1, l2, q⟩
    refine ⟨I.kIn, ?_⟩
    rw [q2]
    exact run_fnG F.ok hr (hb s2 us ws I.kIn (by rw [← r.length]; exact l1) (by rw [← rz.length]; exact l2)) hx I (perm_vals r rz pm) q
  have sem : ∀ {σ : L2.St} {H : Hp} {Q : VK}, teOf W (fun s => ms s >>= fun vs => mk s >>= fun ws => callN T k n (perm vs ws pm)) σ H Q → taOf W ms σ H fun xs H1 => taOf W mk σ H1 fun zs H2 => xs.length = es.length ∧ zs.length = ks.length ∧ spOf W T k n (perm xs zs pm) H2 Q E := by
    intro σ H Q ⟨φ, h, sg, aH, aS, v, h', e0, kk⟩
    obtain ⟨vs, i1, e1, e2⟩ := bind_inv e0
    obtain ⟨ws, i2, e3, e4⟩ := bind_inv e2
    exact ⟨φ, h, sg, aH, aS, vs, i1, e1, fun xs φ1 H1 g1 a1 r1 => ⟨φ1, i1, sg, a1, aS.grow g1, ws, i2, e3, fun zs φ2 H2 g2 a2 r2 => ⟨(RepVs.length r1).trans (l1 _ _ _ _ e1), (RepVs.length r2).trans (l2 _ _ _ _ e3),
      φ2, i2, _, v, h', a2, perm_rep (RepVs.grow g2 r1) r2 pm, call_np e4, e4, fun u φ' H' g a r => kk u φ' H' ((g1.trans g2).trans g) a r⟩⟩⟩
  refine ⟨fun pins s σ H Q I h => ?_⟩
  have h2 := sem h
  refine wpAny_Call_Name_kw (ld_glob I hg F.mg ?_ hdb)
  cases es with
  | nil =>
    refine PySem.W.callWith_KW0 (h₀ := X.base) I.ok.mod.kin F.kp q1 ?_ (by rw [q3]; rfl)
    obtain ⟨φ, h, sg, aH, aS, vs, h', e0, kk⟩ := h2
    rw [h0 rfl] at e0
    obtain ⟨rfl, rfl⟩ := pure_inv e0
    exact thn (hkw.run pos pins s σ H _ I (kk [] φ H Grow.refl aH .nil)) fun ws s2 ⟨zs, H2, I2, rz, q2⟩ => fin (xs := []) (us := []) I2 .nil rz q2
  | cons e es =>
    have hs : notStar e = true ∧ es.all notStar = true := by simpa [List.all_cons, Bool.and_eq_true] using hst
    refine PySem.W.callWith_KW (h₀ := X.base) I.ok.mod.kin F.kp q1 (thn (ha.run pos pins s σ H _ I h2) fun us s1 ⟨xs, H1, I1, r, q⟩ => ?_) (by rw [star_any _ _ _ hst, q3]; rfl) (star_cons hs.1)
    exact thn (hkw.run pos pins s1 σ H1 _ I1 q) fun ws s2 ⟨zs, H2, I2, rz, q2⟩ => fin I2 r rz q2
/-! ### what is walked -/
/-- list, tuple, str, or a dict's keys -/
def iVal (K : PySem.W.Frag) (te : TE) : TI := fun σ H R => te σ H fun x H1 =>
  (∃ a, x = .ref a ∧ (∃ xs, SqL K H1 a xs) ∧ R (Itl K a) H1) ∨ (∃ a, x = .ref a ∧ (∃ xs, SqT K H1 a xs) ∧ R (Itt K a) H1) ∨ (∃ z, x = .str z ∧ R (Its z) H1) ∨
  (∃ d kvs, x = .ref d ∧ ((H1 d = some (.dK kvs) ∧ ∀ o, R (Itk d o kvs) (upd H1 d (.frz o (.dK kvs)))) ∨ ∃ o, H1 d = some (.frz o (.dK kvs)) ∧ R (Itk d o kvs) H1))
theorem pi_val {tg e : Expr} {te : TE} (he : PE X e te) : PI X tg e (iVal X.K te) := by
  refine ⟨fun pins s σ H R I h => thn (he.run pins s σ H _ I h) fun u s1 ⟨x, H1, I1, rx, q⟩ => ?_⟩
  have keys : ∀ {d : Addr} {o : Obj} {kvs : List (Key × V)} {H2 : Hp}, Inv X pins σ H2 s1 → H2 d = some (.frz o (.dK kvs)) → R (Itk d o kvs) H2 → wpAny (model X.prog X.w) X.A (pyIter (.ref d)) (PIE X pins σ tg R) X.xe s1 := by
    intro d o kvs H2 I2 hd q
    obtain ⟨hs, hgd, hx, es, ep, vs, hdt, hsz, kv, hm⟩ := I2.frzK hd
    refine iter_keys hs hgd hx hdt (pi_one (tk := s1.toks) I2 _ (turn_keys _ hdt) ⟨_, Heap.get?_push_size _ rfl, rfl, ?_⟩ q)
    rw [hsz] <;> rfl
  rcases q with ⟨a, rfl, ⟨xs, hq⟩, q⟩ | ⟨a, rfl, ⟨xs, hq⟩, q⟩ | ⟨z, rfl, q⟩ | ⟨d, kvs, rfl, q⟩
  · cases rx
    obtain ⟨its, rv, p, hz⟩ := I1.list hq
    exact wpAny_pyIter_list p.isList (pi_one (tk := s1.toks) I1 _ (turn_list a _) ⟨_, Heap.get?_push_size _ rfl, rfl, rfl⟩ q)
  · cases rx
    obtain ⟨its, rv, p, hz⟩ := I1.tuple hq
    exact wpAny_pyIter_tuple (show s1.heap.IsTuple a its.toArray from p) (pi_one (tk := s1.toks) I1 _ (turn_tuple a _) ⟨_, Heap.get?_push_size _ rfl, rfl, rfl⟩ q)
  · obtain ⟨t, rfl⟩ := rx
    cases ha : z.cps.all (· < 128)
    · exact wpAny_pyIter_wide ha (pi_one (tk := s1.toks) I1 _ (turn_str _ z t "str_iterator" (.inr rfl)) ⟨_, Heap.get?_push_size _ rfl, rfl, rfl⟩ q)
    · exact wpAny_pyIter_ascii ha (pi_one (tk := s1.toks) I1 _ (turn_str _ z t "str_ascii_iterator" (.inl rfl)) ⟨_, Heap.get?_push_size _ rfl, rfl, rfl⟩ q)
  · obtain rfl : u = Value.ref d := rx
    rcases q with ⟨hd, q⟩ | ⟨o, hd, q⟩
    · obtain ⟨o, I2⟩ := I1.lock hd True.intro
      exact keys I2 upd_same (q o)
    · exact keys I1 hd q
/-- what an iterator yields, by turn -/
structure Wlk (W : Wo) (J : L2.It) (r : Src) (φ0 : Ph) (h0 : Hs) (H0 : Hp) : Prop where
  len : r.items.length ≤ sizeLine
  go : ∀ φ h H, Gr0 φ0 h0 H0 φ h H → AbsH W φ h H → stays r.live h → ∀ i v, r.items[i]? = some v → J.go i H ∧ ∀ x H', J.yld i H x H' → Grow φ h H φ h H' ∧ AbsH W φ h H' ∧ RepV W φ h H' x v
  stop : ∀ φ h H, Gr0 φ0 h0 H0 φ h H → AbsH W φ h H → stays r.live h → J.stop r.items.length H
def tiOf (W : Wo) (m : Sg → M Src) : TI := fun σ H R => ∃ φ h s, AbsH W φ h H ∧ AbsS W φ h H σ s ∧ ∃ r h', m s h = .ok r h' ∧
  ∀ J φ' H', Grow φ h H φ' h' H' → AbsH W φ' h' H' → Wlk W J r φ' h' H' → R J H'
theorem repVs_at {xs : List V} {vs : List Val} (r : RepVs W φ h H xs vs) {i : Nat} {v : Val} (e : vs[i]? = some v) : ∃ x, xs[i]? = some x ∧ RepV W φ h H x v := by
  rcases paired_get r i with ⟨_, e2⟩ | ⟨x, y, e1, e2, q⟩
  · rw [e2] at e; cases e
  · rw [e2] at e; cases e; exact ⟨x, e1, q⟩
theorem lockG (a : AbsH W φ h H) {d : Addr} {kvs : List (Key × V)} {o : Obj} (e : H d = some (.dK kvs)) (n : ¬ Al φ h d) : Grow φ h H φ h (upd H d (.frz o (.dK kvs))) ∧ AbsH W φ h (upd H d (.frz o (.dK kvs))) := by
  have nz : ∀ b ∈ φ.z, b ≠ d := fun b hb z => n (by rw [← z]; exact .inr hb)
  have g : Grow φ h H φ h (upd H d (.frz o (.dK kvs))) := by
    refine ⟨⟨⟨[], by simp⟩, fun b u nb eb => ?_, fun _ z => .inl z⟩, rfl, fun b hb => upd_ne (nz b hb)⟩
    by_cases q : b = d
    · subst q
      rw [e] at eb
      cases eb
      exact .inr ⟨kvs, o, rfl, upd_same⟩
    · exact .inl (by rw [upd_ne q]; exact eb)
  refine ⟨g, a.len, a.inj, fun i x u e1 e2 => ?_, fun b hb => by rw [upd_ne (nz b hb)]; exact a.zs b hb, a.zd⟩
  by_cases nd : u = .dead
  · subst nd; trivial
  · exact (a.ob i x u e1 e2).grow0 g.toGr0 (upd_ne fun z => n (by rw [← z]; exact .inl ⟨i, u, e1, e2, nd⟩))
theorem map_at {α β : Type} {f : α → β} {xs : List α} {i : Nat} {v : β} (e : (xs.map f)[i]? = some v) : ∃ x, xs[i]? = some x ∧ v = f x := by
  rw [List.getElem?_map] at e
  cases q : xs[i]? with
  | none => rw [q] at e; cases e
  | some x => rw [q] at e; cases e; exact ⟨x, rfl, rfl⟩
theorem repKs_at {K : PySem.W.Frag} {A : Addr → Prop} : ∀ {xs : List (Key × V)} {ds : List (PD × PD)}, RepKs K A H xs ds → ∀ {i : Nat} {p : PD × PD}, ds[i]? = some p → ∃ k v, xs[i]? = some (k, v) ∧ p.1 = kD k ∧ ∀ z, k = .inr z → z.length ≤ sizeLine ∧ ascOk z = true
  | _, _, .nil, _, _, e => by simp at e
  | _, _, .cons hk h t, 0, _, e => by simp at e; subst e; exact ⟨_, _, rfl, rfl, hk⟩
  | _, _, .cons hk h t, i + 1, _, e => by simpa using repKs_at t (by simpa using e)
theorem rep_key {k : Key} (hk : ∀ z, k = .inr z → z.length ≤ sizeLine ∧ ascOk z = true) : RepV W φ h H (kV k) (.d (kD k)) := by
  cases k with
  | inl i => exact (show RepD _ _ _ _ _ from .int i)
  | inr z => exact (show RepD _ _ _ _ _ from .str z (hk z rfl).1 (hk z rfl).2)
theorem wlk_src (a : AbsH W φ h H) {x : V} {v : Val} {r : Src} {R : L2.It → Hp → Prop} (rx : RepV W φ h H x v) (e : srcOf v h = .ok r h') (k : ∀ J φ' H', Grow φ h H φ' h' H' → AbsH W φ' h' H' → Wlk W J r φ' h' H' → R J H') :
    (∃ a, x = .ref a ∧ (∃ xs, SqL W.K H a xs) ∧ R (Itl W.K a) H) ∨ (∃ a, x = .ref a ∧ (∃ xs, SqT W.K H a xs) ∧ R (Itt W.K a) H) ∨ (∃ z, x = .str z ∧ R (Its z) H) ∨
    (∃ d kvs, x = .ref d ∧ ((H d = some (.dK kvs) ∧ ∀ o, R (Itk d o kvs) (upd H d (.frz o (.dK kvs)))) ∨ ∃ o, H d = some (.frz o (.dK kvs)) ∧ R (Itk d o kvs) H)) := by
  cases v with
  | r i =>
    obtain ⟨p, ep, rfl⟩ := rx
    obtain ⟨o, h1, e1, e2⟩ := bind_inv (show (getO i >>= fun o => itemsO o >>= fun xs => (pure ⟨xs, some (i, .lst xs)⟩ : M Src)) h = .ok r h' from e)
    obtain ⟨rfl, eo⟩ := getO_inv e1
    obtain ⟨xs, h2, e3, e4⟩ := bind_inv e2
    obtain ⟨rfl, rfl⟩ := itemsO_inv e3
    obtain ⟨rfl, rfl⟩ := pure_inv e4
    obtain ⟨ws, e5, l, rr⟩ := a.ob i p _ ep eo
    refine .inl ⟨p, rfl, ⟨ws, .inl (.inl e5)⟩, k _ φ H Grow.refl a ⟨by show xs.length ≤ _; rw [← RepVs.length rr]; exact l, fun φ1 h1 H1 g a1 st j v ev => ?_, fun φ1 h1 H1 g a1 st => ?_⟩⟩
    · obtain ⟨us, e6, l6, r6⟩ := a1.ob i p _ (g.at_ ep) st
      obtain ⟨x, ex, rx⟩ := repVs_at r6 ev
      refine ⟨⟨us, x, .inl (.inl e6), ex⟩, fun y H' ⟨e7, e8⟩ => ?_⟩
      subst e7
      have := e8 us (.inl (.inl e6))
      rw [ex] at this
      cases this
      exact ⟨Grow.refl, a1, rx⟩
    · obtain ⟨us, e6, l6, r6⟩ := a1.ob i p _ (g.at_ ep) st
      exact ⟨us, .inl (.inl e6), by rw [RepVs.length r6]; exact Nat.le_refl _⟩
  | d d =>
    have rx : RepD W.K (Al φ h) H x d := rx
    cases rx with
    | non => exact bad_ne e
    | bl => exact bad_ne e
    | int => exact bad_ne e
    | str z hz ho =>
      obtain ⟨rfl, rfl⟩ := pure_inv e
      refine .inr (.inr (.inl ⟨z, rfl, k _ φ H Grow.refl a ⟨by show (z.cps.toList.map _).length ≤ _; rw [List.length_map]; exact hz, fun φ1 h1 H1 g a1 st j v ev => ?_, fun φ1 h1 H1 g a1 st => ?_⟩⟩))
      · obtain ⟨c, ec, rfl⟩ := map_at ev
        have hl : j < z.cps.size := by simpa using (List.getElem?_eq_some_iff.mp ec).1
        refine ⟨hl, fun y H' ⟨e7, c', e8, e9⟩ => ?_⟩
        subst e7 e9
        have : z.cps[j]? = some c := by simpa using ec
        rw [this] at e8
        cases e8
        exact ⟨Grow.refl, a1, (show RepD _ _ _ _ _ from .str _ (by show 1 ≤ sizeLine; decide) (asc_one (asc_mem ho (List.mem_of_getElem? ec))))⟩
      · show z.cps.size ≤ (z.cps.toList.map _).length
        simp
    | @lst p xs ds f l rr =>
      obtain ⟨rfl, rfl⟩ := pure_inv e
      refine .inl ⟨p, rfl, ⟨xs, .inl f.1⟩, k _ φ H Grow.refl a ⟨by show (ds.map _).length ≤ _; rw [List.length_map, ← rr.length]; exact l, fun φ1 h1 H1 g a1 st j v ev => ?_, fun φ1 h1 H1 g a1 st => ?_⟩⟩
      · obtain ⟨x, ex, rx⟩ := repVs_at (RepVs.grow0 g (repDs_v rr)) ev
        have f1 := (f.grow g.keep g.new).1
        refine ⟨⟨xs, x, .inl f1, ex⟩, fun y H' ⟨e7, e8⟩ => ?_⟩
        subst e7
        have := e8 xs (.inl f1)
        rw [ex] at this
        cases this
        exact ⟨Grow.refl, a1, rx⟩
      · exact ⟨xs, .inl (f.grow g.keep g.new).1, by show xs.length ≤ (ds.map _).length; rw [List.length_map, rr.length]; exact Nat.le_refl _⟩
    | @tup p xs ds f l rr =>
      obtain ⟨rfl, rfl⟩ := pure_inv e
      refine .inr (.inl ⟨p, rfl, ⟨xs, f.sq⟩, k _ φ H Grow.refl a ⟨by show (ds.map _).length ≤ _; rw [List.length_map, ← rr.length]; exact l, fun φ1 h1 H1 g a1 st j v ev => ?_, fun φ1 h1 H1 g a1 st => ?_⟩⟩)
      · obtain ⟨x, ex, rx⟩ := repVs_at (RepVs.grow0 g (repDs_v rr)) ev
        have f1 := (f.grow g.keep g.new).sq
        refine ⟨⟨xs, x, f1, ex⟩, fun y H' ⟨e7, e8⟩ => ?_⟩
        subst e7
        have := e8 xs f1
        rw [ex] at this
        cases this
        exact ⟨Grow.refl, a1, rx⟩
      · exact ⟨xs, (f.grow g.keep g.new).sq, by show xs.length ≤ (ds.map _).length; rw [List.length_map, rr.length]; exact Nat.le_refl _⟩
    | @dct p xs ds f l rr =>
      obtain ⟨rfl, rfl⟩ := pure_inv e
      have wk : ∀ {H2 : Hp} {o : Obj}, H2 p = some (.frz o (.dK xs)) → ¬ Al φ h p → Wlk W (Itk p o xs) (src (ds.map fun q => .d q.1)) φ h H2 := by
        intro H2 o e2 na
        have at1 : ∀ {φ1 : Ph} {h1 : Hs} {H1 : Hp}, Gr0 φ h H2 φ1 h1 H1 → H1 p = some (.frz o (.dK xs)) := fun {φ1 h1 H1} g => by
          rcases g.keep p _ na e2 with q | ⟨_, _, q, _⟩
          · exact q
          · cases q
        refine ⟨by show (ds.map _).length ≤ _; rw [List.length_map, ← rr.length]; exact l, fun φ1 h1 H1 g a1 st j v ev => ?_, fun φ1 h1 H1 g a1 st => ⟨at1 g, ?_⟩⟩
        · obtain ⟨q, eq, rfl⟩ := map_at ev
          obtain ⟨kk, vv, e5, e6, hk⟩ := repKs_at rr eq
          refine ⟨⟨at1 g, (List.getElem?_eq_some_iff.mp e5).1⟩, fun y H' ⟨e7, k2, v2, e8, e9⟩ => ?_⟩
          subst e7 e9
          rw [e5] at e8
          cases e8
          refine ⟨Grow.refl, a1, ?_⟩
          rw [e6]
          exact rep_key hk
        · show xs.length ≤ (ds.map _).length
          rw [List.length_map, rr.length]
          exact Nat.le_refl _
      refine .inr (.inr (.inr ⟨p, xs, rfl, ?_⟩))
      rcases f.1 with e2 | ⟨o, e2⟩
      · refine .inl ⟨e2, fun o => ?_⟩
        obtain ⟨g, a2⟩ := lockG a (o := o) e2 f.2
        exact k _ φ _ g a2 (wk upd_same f.2)
      · exact .inr ⟨o, e2, k _ φ H Grow.refl a (wk e2 f.2)⟩
theorem ti_sq (hK : X.K = W.K) {tg e : Expr} {m : Sg → M Val} (p : PE X e (teOf W m)) : PI X tg e (tiOf W fun s => m s >>= fun x => srcOf x) := by
  refine PI.imp (pi_val p) fun σ H R ⟨φ, h, s, aH, aS, r, h', e0, k⟩ => ?_
  obtain ⟨x, i1, e1, e2⟩ := bind_inv e0
  refine ⟨φ, h, s, aH, aS, x, i1, e1, fun x' φ1 H1 g1 a1 r1 => ?_⟩
  have := wlk_src a1 r1 e2 fun J φ' H' g a w => k J φ' H' (g1.trans g) a w
  rw [hK]
  exact this
theorem rangeI_at {lo c : Int} {n i : Nat} {v : Val} (e : (rangeI lo n c)[i]? = some v) : i < n ∧ v = .d (.int (lo + i * c)) := by
  obtain ⟨j, ej, rfl⟩ := map_at e
  obtain ⟨hj, e2⟩ := List.getElem?_eq_some_iff.mp ej
  rw [List.length_range] at hj
  rw [List.getElem_range] at e2
  exact ⟨hj, by rw [e2]⟩
theorem rangeI_len {lo c : Int} {n : Nat} : (rangeI lo n c).length = n := by simp [rangeI]
theorem wlk_rgC {lo c : Int} {n : Nat} (hn : n ≤ lim) : Wlk W (Itc lo c n) (src (rangeI lo n c)) φ h H := by
  refine ⟨by show (rangeI lo n c).length ≤ _; rw [rangeI_len]; exact hn, fun φ1 h1 H1 g a1 st j v ev => ?_, fun φ1 h1 H1 g a1 st => by show n ≤ (rangeI lo n c).length; rw [rangeI_len]; exact Nat.le_refl _⟩
  obtain ⟨hj, rfl⟩ := rangeI_at ev
  refine ⟨hj, fun y H' ⟨e7, e8⟩ => ?_⟩
  subst e7 e8
  exact ⟨Grow.refl, a1, (show RepD _ _ _ _ _ from .int _)⟩
theorem wlk_rg {lo : Int} {n : Nat} (hn : n ≤ lim) : Wlk W (Itr lo n) (src (rangeI lo n 1)) φ h H := by
  refine ⟨by show (rangeI lo n 1).length ≤ _; rw [rangeI_len]; exact hn, fun φ1 h1 H1 g a1 st j v ev => ?_, fun φ1 h1 H1 g a1 st => by show n ≤ (rangeI lo n 1).length; rw [rangeI_len]; exact Nat.le_refl _⟩
  obtain ⟨hj, rfl⟩ := rangeI_at ev
  refine ⟨hj, fun y H' ⟨e7, e8⟩ => ?_⟩
  subst e7 e8
  refine ⟨Grow.refl, a1, ?_⟩
  rw [Int.mul_one]
  exact (show RepD _ _ _ _ _ from .int _)
end
section
variable {W : Wo} {X : Cx} {φ φ' : Ph} {h h' : Hs} {H H' : Hp}
theorem starE (env : Env) : ∀ {es : List Expr}, es.all notStar = true → starEach es env = es.map fun e => (false, eval e env) := fun h => star_map env _ h
theorem ti_rg (hg : Gl X "range") (hm : X.mg "range" = none) {tg : Expr} {es : List Expr} {ms : Sg → M (List Val)} {p pos : Pos} (hst : es.all notStar = true) (l : ∀ s h vs h', ms s h = .ok vs h' → vs.length = es.length) (ha : PA X es (taOf W ms)) :
    PI X tg (.Call (.Name "range" p) es [] pos) (tiOf W fun s => ms s >>= fun vs => rgV vs) := by
  match es, hst, l, ha with
  | [], hst, l, ha =>
    refine ⟨fun pins s σ H R I ⟨φ, h, sg, aH, aS, r, h', e0, k⟩ => ?_⟩
    obtain ⟨vs, i1, e1, e2⟩ := bind_inv e0
    have := List.eq_nil_of_length_eq_zero (l _ _ _ _ e1)
    subst this
    exact bad_ne e2
  | [a], hst, l, ha =>
    refine PI.imp (pi_range1 hg hm ha (star_map _ _ hst)) fun σ H R ⟨φ, h, s, aH, aS, r, h', e0, k⟩ => ?_
    obtain ⟨vs, i1, e1, e2⟩ := bind_inv e0
    have hl := l _ _ _ _ e1
    refine ⟨φ, h, s, aH, aS, vs, i1, e1, fun xs φ1 H1 g1 a1 r1 => ?_⟩
    match vs, hl, r1, e2 with
    | [.r _], _, _, e2 => exact bad_ne e2
    | [.d v], _, .cons rv .nil, e2 =>
      cases v <;> first | (exact bad_ne e2) | skip
      obtain ⟨⟨hj, hn⟩, e3⟩ := ite_inv e2
      obtain ⟨rfl, rfl⟩ := pure_inv e3
      cases rv.d.int_inv
      exact ⟨_, rfl, hj.1, hj.2, k _ φ1 H1 g1 a1 (wlk_rg hn)⟩
  | [a, b], hst, l, ha =>
    have h1 : notStar a = true ∧ notStar b = true := by simpa using hst
    refine PI.imp (pi_range2 hg hm ha (star_map _ _ hst) (star_map _ _ (by simpa using h1.2))) fun σ H R ⟨φ, h, s, aH, aS, r, h', e0, k⟩ => ?_
    obtain ⟨vs, i1, e1, e2⟩ := bind_inv e0
    have hl := l _ _ _ _ e1
    refine ⟨φ, h, s, aH, aS, vs, i1, e1, fun xs φ1 H1 g1 a1 r1 => ?_⟩
    match vs, hl, r1, e2 with
    | [.r _, _], _, _, e2 => exact bad_ne e2
    | [.d v, .r _], _, _, e2 => cases v <;> exact bad_ne e2
    | [.d v, .d w], _, .cons rv (.cons rw' .nil), e2 =>
      cases v <;> cases w <;> first | (exact bad_ne e2) | skip
      obtain ⟨⟨hj, hn⟩, e3⟩ := ite_inv e2
      obtain ⟨rfl, rfl⟩ := pure_inv e3
      cases rv.d.int_inv
      cases rw'.d.int_inv
      exact ⟨_, _, rfl, ⟨hj.1.1, hj.1.2, hj.2.1, hj.2.2⟩, k _ φ1 H1 g1 a1 (wlk_rg hn)⟩
  | [a, b, c], hst, l, ha =>
    have h1 : notStar a = true ∧ [b, c].all notStar = true := by simpa using hst
    refine PI.imp (pi_range3 hg hm ha (star_cons h1.1) (star_any _ _ _ h1.2)) fun σ H R ⟨φ, h, s, aH, aS, r, h', e0, k⟩ => ?_
    obtain ⟨vs, i1, e1, e2⟩ := bind_inv e0
    have hl := l _ _ _ _ e1
    refine ⟨φ, h, s, aH, aS, vs, i1, e1, fun xs φ1 H1 g1 a1 r1 => ?_⟩
    match vs, hl, r1, e2 with
    | [.r _, _, _], _, _, e2 => exact bad_ne e2
    | [.d v, .r _, _], _, _, e2 => cases v <;> exact bad_ne e2
    | [.d v, .d w, .r _], _, _, e2 => cases v <;> cases w <;> exact bad_ne e2
    | [.d v, .d w, .d u], _, .cons rv (.cons rw' (.cons ru .nil)), e2 =>
      cases v <;> cases w <;> cases u <;> first | (exact bad_ne e2) | skip
      obtain ⟨⟨⟨hj, hc⟩, hn⟩, e3⟩ := ite_inv e2
      obtain ⟨rfl, rfl⟩ := pure_inv e3
      subst hc
      cases rv.d.int_inv
      cases rw'.d.int_inv
      cases ru.d.int_inv
      exact ⟨_, _, -1, _, rfl, RgC.neg hj.1.1 hj.1.2 hj.2.1 hj.2.2, k _ φ1 H1 g1 a1 (wlk_rgC hn)⟩
  | _ :: _ :: _ :: _ :: _, hst, l, ha =>
    refine ⟨fun pins s σ H R I ⟨φ, h, sg, aH, aS, r, h', e0, k⟩ => ?_⟩
    obtain ⟨vs, i1, e1, e2⟩ := bind_inv e0
    have hl := l _ _ _ _ e1
    match vs, hl, e2 with
    | a :: b :: c :: d :: r, hl, e2 =>
      have : rgV (a :: b :: c :: d :: r) = bad := by
        unfold rgV
        split <;> first | rfl | (rename_i q; simp at q)
      rw [this] at e2
      exact bad_ne e2
end
end Nv
set_option Elab.async false
set_option linter.all false
set_option maxRecDepth 100000
/-! N9z: zip of two texts, two tuples, two lists. -/
namespace Nv
open PySem PySem.Spec L2 PyProof.Rows

/-- two texts walked together -/
def ItzS (x y : Str) : L2.It :=
  ⟨fun i _ => i < x.cps.size ∧ i < y.cps.size,
   fun i H v H' => ∃ T c d, v = .ref T ∧ H T = none ∧ H' = upd H T (.tup [.str ⟨#[c]⟩, .str ⟨#[d]⟩]) ∧ x.cps[i]? = some c ∧ y.cps[i]? = some d,
   fun i _ => x.cps.size ≤ i ∨ y.cps.size ≤ i⟩
/-- how the cells stand -/
def ZsAt (x y : Str) (t u : Tok) (z a b p q : Addr) (i : Nat) (h : Heap) : Prop :=
  IsZip h z a b .none ∧ IsTupOf2 h a (.ref p) (.ref q) ∧ (∃ m n, IsTupOf2 h b m n) ∧ h.IsStrIter p (strIterType x) x t i ∧ h.IsStrIter q (strIterType y) y u i ∧ i ≤ x.cps.size ∧ i ≤ y.cps.size
theorem zsAt_in {z a b p q c : Addr} {P : Prop} (m : c ∈ [z, a, b, p, q]) (h1 : c = z → P) (h2 : c = a → P) (h3 : c = b → P) (h4 : c = p → P) (h5 : c = q → P) : P := by
  have m' : c = z ∨ c = a ∨ c = b ∨ c = p ∨ c = q := by simpa using m
  rcases m' with e | e | e | e | e
  · exact h1 e
  · exact h2 e
  · exact h3 e
  · exact h4 e
  · exact h5 e
theorem turn_zs {P : Program} {w : World} {K : PySem.W.Frag} {elts : List Expr} {kk : Nat} {tpos : Pos} {x y : Str} {t u : Tok} {z a b p q : Addr} (S : ZipSep2 z a b p q [p] [q]) :
    Turn P w K (.Tuple elts kk tpos) (ItzS x y) [z, a, b, p, q] z (ZsAt x y t u z a b p q) where
  mem := List.mem_cons_self ..
  obj := fun i h st c mc => by
    obtain ⟨hz, ha, ⟨m, n, hb⟩, ⟨o1, e1, _, d1⟩, ⟨o2, e2, _, d2⟩, _⟩ := st
    refine zsAt_in mc ?_ ?_ ?_ ?_ ?_
    · intro e; rw [e]; exact ⟨_, hz, fun v r => nomatch r⟩
    · intro e; rw [e]; exact ⟨_, ha, fun v r => nomatch r⟩
    · intro e; rw [e]; exact ⟨_, hb, fun v r => nomatch r⟩
    · intro e; rw [e]; exact ⟨o1, e1, fun v r => by rw [d1] at r; cases r⟩
    · intro e; rw [e]; exact ⟨o2, e2, fun v r => by rw [d2] at r; cases r⟩
  keep := fun i h h' st k => by
    obtain ⟨hz, ha, ⟨m, n, hb⟩, ⟨o1, e1, r1⟩, ⟨o2, e2, r2⟩, l⟩ := st
    exact ⟨k z (by simp) _ hz, k a (by simp) _ ha, ⟨m, n, k b (by simp) _ hb⟩, ⟨o1, k p (by simp) o1 e1, r1⟩, ⟨o2, k q (by simp) o2 e2, r2⟩, l⟩
  item := by
    intro X hP hw hK hc i pins s σ H E I hf st hg
    subst hP hw hK
    obtain ⟨hz, ha, ⟨m, n, hb⟩, s1, s2, l1, l2⟩ := st
    obtain ⟨g1, g2⟩ := hg
    have hh : X.A.in1.handled = none := I.ok.hd hc
    have hzl : z < s.heap.objs.size := Heap.lt_size hz
    refine wpAny_pyNext_zipD2_item S (Draws.text hh p x t) (Draws.text hh q y u) hz ha hb s1 s2 g1 g2 fun x1 x2 h' tk y1 y2 hz' hb' s1' s2' hT hsz hk => ?_
    obtain ⟨c, tc, ec, rfl⟩ := y1
    obtain ⟨d, td, ed, rfl⟩ := y2
    refine ⟨_, rfl, wpAny_letOwnedTupleGo_zip (s := { s with heap := h', toks := tk }) hz' fun h'' z'' sb => ?_⟩
    have hT2 : h''.get? s.heap.objs.size = some { cls := .type "tuple", data := .seq #[.str ⟨#[c]⟩ tc, .str ⟨#[d]⟩ td] } := (sb.2 _ (Nat.ne_of_gt hzl)).trans hT
    have nw : ObjOk X.prog X.w (upd H s.heap.objs.size (.tup [.str ⟨#[c]⟩, .str ⟨#[d]⟩])) h'' s.heap.objs.size (.tup [.str ⟨#[c]⟩, .str ⟨#[d]⟩]) :=
      ⟨by show 2 ≤ sizeLine; decide, [.str ⟨#[c]⟩ tc, .str ⟨#[d]⟩ td], .cons ⟨tc, rfl⟩ (.cons ⟨td, rfl⟩ .nil), ⟨_, hT2, rfl, _, rfl⟩⟩
    have out : ∀ e : Addr, e ∉ [z, a, b, p, q] → e ≠ z ∧ e ≠ b ∧ e ≠ p ∧ e ≠ q := fun e ne => ⟨fun r => ne (by simp [r]), fun r => ne (by simp [r]), fun r => ne (by simp [r]), fun r => ne (by simp [r])⟩
    have I1 : Inv X pins σ (upd H s.heap.objs.size (.tup [.str ⟨#[c]⟩, .str ⟨#[d]⟩])) { s with heap := h'', toks := tk } :=
      I.turnedNew (t' := tk) (ch := [z, a, b, p, q]) (fun e o ne r => (sb.2 e (out e ne).1).trans (hk e o (out e ne).1 (out e ne).2.1 (out e ne).2.2.1 (out e ne).2.2.2 r)) hf (Nat.le_refl _) nw
    refine ⟨.ref s.heap.objs.size, _, I1, rfl, ⟨_, c, d, rfl, I.hok.fresh (Nat.le_refl _), rfl, ec, ed⟩, ⟨z'', ?_, ⟨_, _, (sb.2 _ S.TOz).trans hb'⟩, ?_, ?_, g1, g2⟩, fun e me => ?_⟩
    · exact (sb.2 _ S.TIz).trans (hk _ _ S.TIz S.TITO S.TIi1 S.TIi2 ha)
    · obtain ⟨o1, e1, r1⟩ := s1'
      exact ⟨o1, (sb.2 _ S.zi1.symm).trans e1, r1⟩
    · obtain ⟨o2, e2, r2⟩ := s2'
      exact ⟨o2, (sb.2 _ S.zi2.symm).trans e2, r2⟩
    · have hlt : e < s.heap.objs.size := by
        refine zsAt_in me ?_ ?_ ?_ ?_ ?_
        · intro r; rw [r]; exact hzl
        · intro r; rw [r]; exact Heap.lt_size ha
        · intro r; rw [r]; exact Heap.lt_size hb
        · intro r; rw [r]; obtain ⟨_, e1, _⟩ := s1; exact Heap.lt_size e1
        · intro r; rw [r]; obtain ⟨_, e2, _⟩ := s2; exact Heap.lt_size e2
      rw [upd_ne (Nat.ne_of_lt hlt)]
      exact (hf e me).1
  done := by
    intro X hP hw hK hc i pins s σ H E I hf st hg
    subst hP hw hK
    obtain ⟨hz, ha, ⟨m, n, hb⟩, s1, s2, l1, l2⟩ := st
    have hh : X.A.in1.handled = none := I.ok.hd hc
    refine wpAny_pyNext_zipD2_end S (Draws.text hh p x t) (Draws.text hh q y u) hz ha hb s1 s2 l1 l2 (hg.imp (Nat.le_antisymm l1) (Nat.le_antisymm l2)) fun h' tk hk => ⟨rfl, ?_⟩
    exact I.turnedL (t' := tk) (ch := [z, a, b, p, q]) (fun e o ne r => hk e o (fun v => ne (by simp [v])) (fun v => ne (by simp [v])) (fun v => ne (by simp [v])) (fun v => ne (by simp [v])) r) hf
  self := fun A i s Q E st h => wpAny_pyIter_zip st.1 h

def iZip3 (K : PySem.W.Frag) (ta : TA) : TI := fun σ H R => ta σ H fun vs H1 => (∃ a b xs ys, vs = [.ref a, .ref b] ∧ ((SqL K H1 a xs ∧ SqL K H1 b ys ∧ R (Itz K a b) H1) ∨ (SqT K H1 a xs ∧ SqT K H1 b ys ∧ R (RZ.ItzT K a b) H1))) ∨
  ∃ x y, vs = [.str x, .str y] ∧ R (ItzS x y) H1
theorem mem5 {n c : Nat} (m : c ∈ [n + 4, n + 2, n + 3, n, n + 1]) : n ≤ c := by
  have m' : c = n + 4 ∨ c = n + 2 ∨ c = n + 3 ∨ c = n ∨ c = n + 1 := by simpa using m
  omega
theorem pi_zip3 {X : Cx} {e e2 : Expr} {ta : TA} {p pos tpos : Pos} {elts : List Expr} {kk : Nat} (hg : Gl X "zip") (hm : X.mg "zip" = none) (ha : PA X [e, e2] ta)
    (hs : starEach [e, e2] X.env = (false, eval e X.env) :: starEach [e2] X.env) (hpl : (backTo pos (starEach [e2] X.env)).any (·.1) = false) : PI X (.Tuple elts kk tpos) (.Call (.Name "zip" p) [e, e2] [] pos) (iZip3 X.K ta) := by
  refine ⟨fun pins s σ H R I h => Call_ (ld_blt I hg hm PyProof.Rows.boot_zip (PyProof.Rows.callWith_type1 (thn (ha.run pos pins s σ H _ I h) fun us s1 ⟨vs, H1, I1, r1, q1⟩ => ?_) hs hpl))⟩
  have fresh5 : ∀ c, c ∈ [s1.heap.objs.size + 4, s1.heap.objs.size + 2, s1.heap.objs.size + 3, s1.heap.objs.size, s1.heap.objs.size + 1] → FpOk X pins H1 c := fun c mc => I1.fpOk (mem5 mc) (I1.hok.fresh (mem5 mc))
  rcases q1 with ⟨a, b, xs, ys, rfl, q1⟩ | ⟨x, y, rfl, q⟩
  · cases r1 with
    | cons ra rr =>
      cases rr with
      | cons rb rr =>
        cases rr
        cases ra
        cases rb
        rcases q1 with ⟨qx, qy, q⟩ | ⟨qx, qy, q⟩
        · obtain ⟨u1, v1, p1, _⟩ := I1.list qx
          obtain ⟨u2, v2, p2, _⟩ := I1.list qy
          refine call_zip_2 p1.isList p2.isList fun h' hz hTI hTO h1 h2 hsz hk => wpAny_pyIter_zip hz ?_
          have I2 : Inv X pins σ H1 { s1 with heap := h' } := I1.kept (t' := s1.toks) hk
          exact ⟨_, [s1.heap.objs.size + 4, s1.heap.objs.size + 2, s1.heap.objs.size + 3, s1.heap.objs.size, s1.heap.objs.size + 1], _, _, H1, rfl, I2, turn_zip (PySem.W.ktu_apart s1.heap.objs.size a b p1.lt p2.lt), ⟨hz, hTI, ⟨_, _, hTO⟩, h1, h2⟩, fresh5, q⟩
        · obtain ⟨u1, v1, p1, _⟩ := I1.tuple qx
          obtain ⟨u2, v2, p2, _⟩ := I1.tuple qy
          obtain ⟨o1, ho1, _⟩ := id p1
          obtain ⟨o2, ho2, _⟩ := id p2
          refine RZ.call_zipT (show s1.heap.IsTuple a u1.toArray from p1) (show s1.heap.IsTuple b u2.toArray from p2) fun h' hz hTI hTO h1 h2 hsz hk => wpAny_pyIter_zip hz ?_
          have I2 : Inv X pins σ H1 { s1 with heap := h' } := I1.kept (t' := s1.toks) hk
          exact ⟨_, [s1.heap.objs.size + 4, s1.heap.objs.size + 2, s1.heap.objs.size + 3, s1.heap.objs.size, s1.heap.objs.size + 1], _, _, H1, rfl, I2, RZ.turn_zipT (PySem.W.ktu_apart s1.heap.objs.size a b (Heap.lt_size ho1) (Heap.lt_size ho2)), ⟨hz, hTI, ⟨_, _, hTO⟩, h1, h2⟩, fresh5, q⟩
  · cases r1 with
    | cons ra rr =>
      cases rr with
      | cons rb rr =>
        cases rr
        obtain ⟨t, rfl⟩ := ra
        obtain ⟨u, rfl⟩ := rb
        refine zip_begins2 (begins_text x t) (begins_text y u) True.intro True.intro fun h' hz hTI hTO h1 h2 hsz hk => wpAny_pyIter_zip hz ?_
        have I2 : Inv X pins σ H1 { s1 with heap := h' } := I1.kept (t' := s1.toks) hk
        exact ⟨_, [s1.heap.objs.size + 4, s1.heap.objs.size + 2, s1.heap.objs.size + 3, s1.heap.objs.size, s1.heap.objs.size + 1], _, _, H1, rfl, I2, turn_zs (zip_sep2 (fp1 := []) (fp2 := []) (fun _ m => nomatch m) (fun _ m => nomatch m)),
          ⟨hz, hTI, ⟨_, _, hTO⟩, ⟨_, h1, rfl, rfl⟩, ⟨_, h2, rfl, rfl⟩, Nat.zero_le _, Nat.zero_le _⟩, fresh5, q⟩
section
variable {W : Wo} {X : Cx} {φ φ' : Ph} {h h' : Hs} {H H' : Hp}
/-- a new pair of data -/
theorem pair_new (a : AbsH W φ h H) {T : Addr} {x y : V} {d e : PD} (hT : H T = none) (rx : RepD W.K (Al φ h) H x d) (ry : RepD W.K (Al φ h) H y e) :
    Grow φ h H φ h (upd H T (.tup [x, y])) ∧ AbsH W φ h (upd H T (.tup [x, y])) ∧ RepV W φ h (upd H T (.tup [x, y])) (.ref T) (.d (.tuple [d, e])) := by
  have g : Grow φ h H φ h (upd H T (.tup [x, y])) := Grow.fresh a hT
  refine ⟨g, a.fresh hT, (show RepD _ _ _ _ _ from .tup (.inl ⟨upd_same, ?_⟩) (by show 2 ≤ sizeLine; decide) (.cons (RepD.grow g.keep g.new d x rx) (.cons (RepD.grow g.keep g.new e y ry) .nil)))⟩
  exact a.nal hT
theorem zip_get {xs ys : List PD} {i : Nat} {v : Val} (e : (zipP xs ys).items[i]? = some v) : ∃ d u, xs[i]? = some d ∧ ys[i]? = some u ∧ v = .d (.tuple [d, u]) := by
  obtain ⟨p, ep, rfl⟩ := map_at (show ((xs.zip ys).map fun p => Val.d (.tuple [p.1, p.2]))[i]? = some v from e)
  have q := List.getElem?_zip_eq_some.mp ep
  exact ⟨p.1, p.2, q.1, q.2, rfl⟩
theorem zip_len {xs ys : List PD} : (zipP xs ys).items.length = min xs.length ys.length := by
  show ((xs.zip ys).map _).length = _
  rw [List.length_map, List.length_zip]
theorem wlk_zipL {a b : Addr} {xs ys : List V} {ds es : List PD} (f1 : FzL (Al φ h) H a xs) (r1 : RepDs W.K (Al φ h) H xs ds) (f2 : FzL (Al φ h) H b ys) (r2 : RepDs W.K (Al φ h) H ys es) (l : xs.length ≤ sizeLine) : Wlk W (Itz W.K a b) (zipP ds es) φ h H := by
  refine ⟨by rw [zip_len, ← r1.length]; omega, fun φ1 h1 H1 g a1 st i v ev => ?_, fun φ1 h1 H1 g a1 st => ?_⟩
  · obtain ⟨d, e, e1, e2, rfl⟩ := zip_get ev
    obtain ⟨x, ex, rx⟩ := (RepDs.grow g.keep g.new ds xs r1).get e1
    obtain ⟨y, ey, ry⟩ := (RepDs.grow g.keep g.new es ys r2).get e2
    have q1 := (f1.grow g.keep g.new).sq (K := W.K)
    have q2 := (f2.grow g.keep g.new).sq (K := W.K)
    refine ⟨⟨xs, ys, x, y, q1, q2, ex, ey⟩, fun z H' ⟨T, x', y', e3, e4, e5, e6, e7⟩ => ?_⟩
    subst e3 e5
    have e8 := e6 xs q1
    have e9 := e7 ys q2
    rw [ex] at e8
    rw [ey] at e9
    cases e8
    cases e9
    exact pair_new a1 e4 rx ry
  · refine ⟨xs, ys, (f1.grow g.keep g.new).sq, (f2.grow g.keep g.new).sq, ?_⟩
    rw [zip_len, ← r1.length, ← r2.length]
    omega
theorem wlk_zipT {a b : Addr} {xs ys : List V} {ds es : List PD} (f1 : FzT W.K (Al φ h) H a xs) (r1 : RepDs W.K (Al φ h) H xs ds) (f2 : FzT W.K (Al φ h) H b ys) (r2 : RepDs W.K (Al φ h) H ys es) (l : xs.length ≤ sizeLine) : Wlk W (RZ.ItzT W.K a b) (zipP ds es) φ h H := by
  refine ⟨by rw [zip_len, ← r1.length]; omega, fun φ1 h1 H1 g a1 st i v ev => ?_, fun φ1 h1 H1 g a1 st => ?_⟩
  · obtain ⟨d, e, e1, e2, rfl⟩ := zip_get ev
    obtain ⟨x, ex, rx⟩ := (RepDs.grow g.keep g.new ds xs r1).get e1
    obtain ⟨y, ey, ry⟩ := (RepDs.grow g.keep g.new es ys r2).get e2
    have q1 := (f1.grow g.keep g.new).sq
    have q2 := (f2.grow g.keep g.new).sq
    refine ⟨⟨xs, ys, x, y, q1, q2, ex, ey⟩, fun z H' ⟨T, x', y', e3, e4, e5, e6, e7⟩ => ?_⟩
    subst e3 e5
    have e8 := e6 xs q1
    have e9 := e7 ys q2
    rw [ex] at e8
    rw [ey] at e9
    cases e8
    cases e9
    exact pair_new a1 e4 rx ry
  · refine ⟨xs, ys, (f1.grow g.keep g.new).sq, (f2.grow g.keep g.new).sq, ?_⟩
    rw [zip_len, ← r1.length, ← r2.length]
    omega
theorem sigs_at {x : Str} {i : Nat} {d : PD} (e : (sigs x)[i]? = some d) : ∃ c, x.cps[i]? = some c ∧ d = .str ⟨#[c]⟩ := by
  unfold sigs at e
  obtain ⟨c, ec, rfl⟩ := map_at e
  exact ⟨c, by simpa using ec, rfl⟩
theorem sigs_len (x : Str) : (sigs x).length = x.cps.size := by simp [sigs]
theorem wlk_zipS {x y : Str} (o1 : ascOk x = true) (o2 : ascOk y = true) (l : x.length ≤ sizeLine) : Wlk W (ItzS x y) (zipP (sigs x) (sigs y)) φ h H := by
  have l' : x.cps.size ≤ sizeLine := l
  refine ⟨by rw [zip_len, sigs_len]; omega, fun φ1 h1 H1 g a1 st i v ev => ?_, fun φ1 h1 H1 g a1 st => ?_⟩
  · obtain ⟨d, e, e1, e2, rfl⟩ := zip_get ev
    obtain ⟨c, ec, rfl⟩ := sigs_at e1
    obtain ⟨c', ec', rfl⟩ := sigs_at e2
    have h1 : i < x.cps.size := (Array.getElem?_eq_some_iff.mp ec).1
    have h2 : i < y.cps.size := (Array.getElem?_eq_some_iff.mp ec').1
    refine ⟨⟨h1, h2⟩, fun z H' ⟨T, p, q, e3, e4, e5, e6, e7⟩ => ?_⟩
    subst e3 e5
    rw [ec] at e6
    rw [ec'] at e7
    cases e6
    cases e7
    exact pair_new a1 e4 (.str _ (by show 1 ≤ sizeLine; decide) (asc_one (asc_mem o1 (by simpa using List.mem_of_getElem? (show x.cps.toList[i]? = some c by simpa using ec)))))
      (.str _ (by show 1 ≤ sizeLine; decide) (asc_one (asc_mem o2 (by simpa using List.mem_of_getElem? (show y.cps.toList[i]? = some c' by simpa using ec')))))
  · show x.cps.size ≤ _ ∨ y.cps.size ≤ _
    rw [zip_len, sigs_len, sigs_len]
    omega
theorem ti_zip (hK : X.K = W.K) (hg : Gl X "zip") (hm : X.mg "zip" = none) {e e2 : Expr} {ma mb : Sg → M Val} {p pos tpos : Pos} {elts : List Expr} {kk : Nat} (hst : notStar e = true) (hst2 : notStar e2 = true) (ha : PE X e (teOf W ma)) (hb : PE X e2 (teOf W mb)) :
    PI X (.Tuple elts kk tpos) (.Call (.Name "zip" p) [e, e2] [] pos) (tiOf W fun s => ma s >>= fun x => mb s >>= fun y => zipV x y) := by
  refine PI.imp (pi_zip3 hg hm (ta_cons hst ha (ta_cons hst2 hb ta_nil)) (star_cons hst) (star_any _ _ _ (by simp [hst2]))) fun σ H R ⟨φ, h, s, aH, aS, r, h', e0, k⟩ => ?_
  obtain ⟨x, i1, e1, e3⟩ := bind_inv e0
  obtain ⟨y, i2, e4, e5⟩ := bind_inv e3
  refine ⟨φ, h, s, aH, aS, [x, y], i2, ?_, fun xs φ1 H1 g1 a1 r1 => ?_⟩
  · show (ma s >>= fun x => (mb s >>= fun y => (pure [] : M (List Val)) >>= fun ys => pure (y :: ys)) >>= fun xs => (pure (x :: xs) : M (List Val))) h = _
    rw [bind_ap, e1, bnd_ok, bind_ap, bind_ap, e4, bnd_ok]
    rfl
  · match r1 with
    | .cons rx (.cons ry .nil) =>
      cases x with
      | r => cases y <;> exact bad_ne e5
      | d x =>
        cases y with
        | r => cases x <;> exact bad_ne e5
        | d y =>
          cases x <;> cases y <;> first | (exact bad_ne e5) | skip
          · obtain ⟨rfl, rfl⟩ := pure_inv e5
            obtain ⟨rfl, l1, o1⟩ := rx.d.str_inv
            obtain ⟨rfl, l2, o2⟩ := ry.d.str_inv
            exact .inr ⟨_, _, rfl, k _ φ1 H1 g1 a1 (wlk_zipS o1 o2 l1)⟩
          · obtain ⟨rfl, rfl⟩ := pure_inv e5
            obtain ⟨a, us, rfl, f1, l1, q1⟩ := rx.d.lst_inv
            obtain ⟨b, vs, rfl, f2, l2, q2⟩ := ry.d.lst_inv
            exact .inl ⟨a, b, us, vs, rfl, .inl ⟨f1.sq, f2.sq, hK ▸ k _ φ1 H1 g1 a1 (wlk_zipL f1 q1 f2 q2 l1)⟩⟩
          · obtain ⟨rfl, rfl⟩ := pure_inv e5
            obtain ⟨a, us, rfl, f1, l1, q1⟩ := rx.d.tup_inv
            obtain ⟨b, vs, rfl, f2, l2, q2⟩ := ry.d.tup_inv
            exact .inl ⟨a, b, us, vs, rfl, .inr ⟨hK ▸ f1.sq, hK ▸ f2.sq, hK ▸ k _ φ1 H1 g1 a1 (wlk_zipT f1 q1 f2 q2 l1)⟩⟩
theorem enum_get {ds : List PD} {i : Nat} {v : Val} (e : (enumP ds)[i]? = some v) : ∃ d, ds[i]? = some d ∧ v = .d (.tuple [.int (i : Nat), d]) := by
  obtain ⟨p, ep, rfl⟩ := map_at e
  rw [List.getElem?_zipIdx] at ep
  cases q : ds[i]? with
  | none => rw [q] at ep; cases ep
  | some d =>
    rw [q] at ep
    cases ep
    exact ⟨d, rfl, by simp⟩
theorem enum_len (ds : List PD) : (enumP ds).length = ds.length := by simp [enumP]
theorem ti_enum (hK : X.K = W.K) (hg : Gl X "enumerate") (hm : X.mg "enumerate" = none) {e : Expr} {ma : Sg → M Val} {p pos tpos : Pos} {elts : List Expr} {kk : Nat} (hst : notStar e = true) (ha : PE X e (teOf W ma)) :
    PI X (.Tuple elts kk tpos) (.Call (.Name "enumerate" p) [e] [] pos) (tiOf W fun s => ma s >>= fun x => enumV x) := by
  refine PI.imp (pi_enum hg hm (ta_cons hst ha ta_nil) (star_cons hst)) fun σ H R ⟨φ, h, s, aH, aS, r, h', e0, k⟩ => ?_
  obtain ⟨x, i1, e1, e3⟩ := bind_inv e0
  refine ⟨φ, h, s, aH, aS, [x], i1, ?_, fun xs φ1 H1 g1 a1 r1 => ?_⟩
  · show (ma s >>= fun x => (pure [] : M (List Val)) >>= fun xs => (pure (x :: xs) : M (List Val))) h = _
    rw [bind_ap, e1, bnd_ok]
    rfl
  · match r1 with
    | .cons rx .nil =>
      have at1 : ∀ {φ2 : Ph} {h2 : Hs} {H2 : Hp} {a : Addr} {us : List V} {ds : List PD} {i : Nat} {v : Val}, AbsH W φ2 h2 H2 → SqL W.K H2 a us → RepDs W.K (Al φ2 h2) H2 us ds → (enumP ds)[i]? = some v →
          (Ite W.K a).go i H2 ∧ ∀ z H', (Ite W.K a).yld i H2 z H' → Grow φ2 h2 H2 φ2 h2 H' ∧ AbsH W φ2 h2 H' ∧ RepV W φ2 h2 H' z v := by
        intro φ2 h2 H2 a us ds i v a2 q1 q2 ev
        obtain ⟨d, ed, rfl⟩ := enum_get ev
        obtain ⟨x, ex, rx⟩ := q2.get ed
        refine ⟨⟨us, x, q1, ex⟩, fun z H' ⟨T, x', e3, e4, e5, e6⟩ => ?_⟩
        subst e3 e5
        have e8 := e6 us q1
        rw [ex] at e8
        cases e8
        exact pair_new a2 e4 (.int _) rx
      cases x with
      | r n =>
        obtain ⟨a, ep, rfl⟩ := rx
        obtain ⟨o, i2, e4, e5⟩ := bind_inv (show (getO n >>= fun o => itemsO o >>= fun xs => optM (dats xs) >>= fun ds => (pure ⟨enumP ds, some (n, .lst xs)⟩ : M Src)) i1 = .ok r h' from e3)
        obtain ⟨rfl, eo⟩ := getO_inv e4
        obtain ⟨ys, i3, e6, e7⟩ := bind_inv e5
        obtain ⟨rfl, rfl⟩ := itemsO_inv e6
        obtain ⟨ds, i4, e8, e9⟩ := bind_inv e7
        obtain ⟨rfl, e10⟩ := optM_inv e8
        obtain ⟨rfl, rfl⟩ := pure_inv e9
        obtain ⟨us, e11, l, rr⟩ := a1.ob n a _ ep eo
        refine ⟨a, us, rfl, .inl (.inl e11), hK ▸ k _ φ1 H1 g1 a1 ⟨?_, fun φ2 h2 H2 g a2 st i v ev => ?_, fun φ2 h2 H2 g a2 st => ?_⟩⟩
        · show (enumP ds).length ≤ _
          rw [enum_len, ← List.length_map (f := Val.d), ← dats_inv e10, ← RepVs.length rr]
          exact l
        · obtain ⟨us2, e12, l2, rr2⟩ := a2.ob n a _ (g.at_ ep) st
          rw [dats_inv e10] at rr2
          exact at1 a2 (.inl (.inl e12)) (repVs_d rr2) ev
        · obtain ⟨us2, e12, l2, rr2⟩ := a2.ob n a _ (g.at_ ep) st
          refine ⟨us2, .inl (.inl e12), ?_⟩
          show us2.length ≤ (enumP ds).length
          rw [enum_len, RepVs.length rr2, dats_inv e10, List.length_map]
          exact Nat.le_refl _
      | d x =>
        cases x <;> first | (exact bad_ne e3) | skip
        obtain ⟨rfl, rfl⟩ := pure_inv e3
        obtain ⟨a, us, rfl, f1, l1, q1⟩ := rx.d.lst_inv
        refine ⟨a, us, rfl, f1.sq, hK ▸ k _ φ1 H1 g1 a1 ⟨?_, fun φ2 h2 H2 g a2 st i v ev => ?_, fun φ2 h2 H2 g a2 st => ?_⟩⟩
        · show (enumP _).length ≤ _
          rw [enum_len, ← q1.length]
          exact l1
        · exact at1 a2 (f1.grow g.keep g.new).sq (RepDs.grow g.keep g.new _ us q1) ev
        · refine ⟨us, (f1.grow g.keep g.new).sq, ?_⟩
          show us.length ≤ (enumP _).length
          rw [enum_len, q1.length]
          exact Nat.le_refl _
end
end Nv
set_option Elab.async false
set_option linter.all false
set_option maxRecDepth 100000
/-! N9c: targets, comprehensions. -/
namespace Nv
open PySem L2 PyProof.Rows

def gsT : List Nat → TGs
  | [] => gNil
  | i :: is => gCons (gName i) (gsT is)
def tgT (K : PySem.W.Frag) : Tgt → TG
  | .v i => gName i
  | .t is => gTT K is.length (gsT is)
section
variable {W : Wo} {X : Cx} {φ φ' : Ph} {h h' : Hs} {H H' : Hp}
/-- as AbsS, without the slots ex -/
structure AbsX (W : Wo) (φ : Ph) (h : Hs) (H : Hp) (σ : L2.St) (s : Sg) (ex : Nat → Prop) : Prop where
  len : σ.length = s.length
  at_ : ∀ (i : Nat) (v : Val), ¬ ex i → s[i]? = some (some v) → ∃ x, σ[i]? = some (some x) ∧ RepV W φ h H x v
theorem AbsS.absX {σ : L2.St} {s : Sg} (a : AbsS W φ h H σ s) (ex : Nat → Prop) : AbsX W φ h H σ s ex := ⟨a.len, fun i v _ e => a.at_ i v e⟩
theorem AbsX.absS {σ : L2.St} {s : Sg} {ex : Nat → Prop} (a : AbsX W φ h H σ s ex) (n : ∀ i, ¬ ex i) : AbsS W φ h H σ s := ⟨a.len, fun i v e => a.at_ i v (n i) e⟩
theorem AbsX.set {σ : L2.St} {s : Sg} {ex : Nat → Prop} (a : AbsX W φ h H σ s ex) {x : V} {v : Val} (r : RepV W φ h H x v) (i : Nat) : AbsX W φ h H (σ.set i (some x)) (s.set i (some v)) fun j => ex j ∧ j ≠ i := by
  refine ⟨by rw [List.length_set, List.length_set, a.len], fun j w nj e => ?_⟩
  by_cases q : i = j
  · subst q
    have hl : i < s.length := by
      have := (List.getElem?_eq_some_iff.mp e).1
      rwa [List.length_set] at this
    rw [List.getElem?_set_self hl] at e
    cases e
    exact ⟨x, by rw [List.getElem?_set_self (by rw [a.len]; exact hl)], r⟩
  · rw [List.getElem?_set_ne q] at e ⊢
    exact a.at_ j w (fun z => nj ⟨z, fun z => q z.symm⟩) e
theorem AbsS.set {σ : L2.St} {s : Sg} (a : AbsS W φ h H σ s) {x : V} {v : Val} (r : RepV W φ h H x v) (i : Nat) : AbsS W φ h H (σ.set i (some x)) (s.set i (some v)) := ((a.absX fun _ => False).set r i).absS fun _ z => z.1
theorem AbsS.wiped {σ : L2.St} {s : Sg} (a : AbsS W φ h H σ s) (vs : List Nat) : AbsX W φ h H (wipe σ vs) s fun i => i ∈ vs := by
  refine ⟨(wipe_length σ vs).trans a.len, fun i v ni e => ?_⟩
  rw [wipe_out ni]
  exact a.at_ i v e
theorem reps_signs {K : PySem.W.Frag} {A : Addr → Prop} {z : Str} (o : ascOk z = true) : RepDs K A H (signsV z) (sigs z) := by
  have o' : ∀ c ∈ z.cps.toList, c < 128 := fun c m => by
    have := Array.all_eq_true_iff_forall_mem.mp o c (Array.mem_toList_iff.mp m)
    simpa using this
  unfold signsV sigs
  revert o'
  generalize z.cps.toList = L
  intro o'
  induction L with
  | nil => exact .nil
  | cons c l ih =>
    refine .cons (.str _ (by show 1 ≤ sizeLine; decide) (by show (#[c] : Array Nat).all (· < 128) = true; have := o' c (List.mem_cons_self ..); simpa using this)) (ih fun c m => o' c (List.mem_cons_of_mem _ m))
theorem gs_ok : ∀ {is : List Nat} {xs : List V} {ds : List PD} {σ : L2.St} {s s1 : Sg} {ex : Nat → Prop}, AbsX W φ h H σ s ex → RepDs W.K (Al φ h) H xs ds → stores is ds s h = .ok s1 h' →
    h' = h ∧ ∃ σ1, AbsX W φ h H σ1 s1 (fun j => ex j ∧ j ∉ is) ∧ (∀ j, j ∉ is → σ1[j]? = σ[j]?) ∧ σ1.length = σ.length ∧ ∀ Q : L2.St → Hp → Prop, Q σ1 H → gsT is xs σ H Q
  | [], [], _, σ, s, s1, ex, a, .nil, e => by
    obtain ⟨rfl, rfl⟩ := pure_inv (show (pure s : M Sg) h = .ok s1 h' from e)
    exact ⟨rfl, σ, ⟨a.len, fun i v n e => a.at_ i v (fun z => n ⟨z, by simp⟩) e⟩, fun _ _ => rfl, rfl, fun Q q => ⟨rfl, q⟩⟩
  | [], _ :: _, _, _, _, _, _, _, .cons _ _, e => bad_ne e
  | _ :: _, _, _, _, _, _, _, _, .nil, e => bad_ne e
  | i :: is, x :: xs, d :: ds, σ, s, s1, ex, a, .cons r t, e => by
    obtain ⟨e1, σ1, a1, k1, l1, q1⟩ := gs_ok (a.set (v := .d d) (show RepV W φ h H x (.d d) from r) i) t (show stores is ds (s.set i (some (.d d))) h = .ok s1 h' from e)
    refine ⟨e1, σ1, ⟨a1.len, fun j v n e => a1.at_ j v (fun z => n ⟨z.1.1, fun m => (List.mem_cons.mp m).elim z.1.2 z.2⟩) e⟩, fun j hj => ?_, l1.trans (by simp), fun Q q => ⟨x, xs, rfl, q1 Q q⟩⟩
    rw [List.mem_cons, not_or] at hj
    rw [k1 j hj.2, List.getElem?_set_ne (fun z => hj.1 z.symm)]
theorem tg_ok {t : Tgt} {x : V} {v : Val} {σ : L2.St} {s s1 : Sg} {ex : Nat → Prop} (a : AbsX W φ h H σ s ex) (hx : ∀ i, ex i → i ∈ tgS t) (r : RepV W φ h H x v) (e : asg t v s h = .ok s1 h') :
    h' = h ∧ ∃ σ1, AbsS W φ h H σ1 s1 ∧ (∀ j, j ∉ tgS t → σ1[j]? = σ[j]?) ∧ σ1.length = σ.length ∧ ∀ Q : L2.St → Hp → Prop, Q σ1 H → tgT W.K t x σ H Q := by
  cases t with
  | v i =>
    obtain ⟨rfl, rfl⟩ := pure_inv (show (pure (s.set i (some v)) : M Sg) h = .ok s1 h' from e)
    refine ⟨rfl, σ.set i (some x), (a.set r i).absS fun j z => z.2 (List.mem_singleton.mp (hx j z.1)), fun j hj => ?_, by simp, fun Q q => q⟩
    rw [List.getElem?_set_ne]
    exact fun z => hj (List.mem_singleton.mpr z.symm)
  | t is =>
    cases v with
    | r => exact bad_ne e
    | d v =>
      cases v <;> first | (exact bad_ne e) | skip
      · rename_i z
        have r' : RepD W.K (Al φ h) H x (.str z) := r
        cases r' with
        | str _ l o =>
          obtain ⟨hl, e1⟩ := ite_inv (show (if is.length = z.length then stores is (sigs z) s else bad) h = .ok s1 h' from by exact e)
          obtain ⟨rfl, σ1, a1, k1, l1, q1⟩ := gs_ok a (reps_signs (K := W.K) (A := Al φ h) (H := H) o) e1
          exact ⟨rfl, σ1, a1.absS fun j z => z.2 (hx j z.1), k1, l1, fun Q q => .inr ⟨_, rfl, hl.symm, q1 Q q⟩⟩
      · rename_i ds
        have r' : RepD W.K (Al φ h) H x (.tuple ds) := r
        cases r' with
        | tup f l rr =>
          obtain ⟨hl, e1⟩ := ite_inv (show (if is.length = ds.length then stores is ds s else bad) h = .ok s1 h' from by exact e)
          obtain ⟨rfl, σ1, a1, k1, l1, q1⟩ := gs_ok a rr e1
          exact ⟨rfl, σ1, a1.absS fun j z => z.2 (hx j z.1), k1, l1, fun Q q => .inl ⟨_, _, rfl, f.sq, by rw [rr.length, hl], q1 Q q⟩⟩
theorem wipe_eq {σ1 σ : L2.St} : ∀ {vs : List Nat}, σ1.length = σ.length → (∀ j, j ∉ vs → σ1[j]? = (wipe σ vs)[j]?) → wipe σ1 vs = wipe σ vs := by
  intro vs hl hk
  have at1 : ∀ (τ : L2.St) (vs : List Nat) (j : Nat), j ∈ vs → (wipe τ vs)[j]? = (if j < τ.length then some none else none) := by
    intro τ vs
    induction vs with
    | nil => intro j hj; cases hj
    | cons v vs ih =>
      intro j hj
      show ((wipe τ vs).set v none)[j]? = _
      by_cases q : v = j
      · subst q
        by_cases hv : v < τ.length
        · rw [List.getElem?_set_self (by rw [wipe_length]; exact hv), if_pos hv]
        · rw [if_neg hv, List.getElem?_eq_none]
          rw [List.length_set, wipe_length]
          omega
      · rw [List.getElem?_set_ne q]
        exact ih j ((List.mem_cons.mp hj).resolve_left fun z => q z.symm)
  refine List.ext_getElem? fun j => ?_
  by_cases hj : j ∈ vs
  · rw [at1 _ _ _ hj, at1 _ _ _ hj, hl]
  · rw [wipe_out hj, hk j hj]
theorem PTs.imp {X : Cx} {e : List Expr} {t t' : TT} (p : PTs X e t) (f : ∀ σ H Q, t' σ H Q → t σ H Q) : PTs X e t' := ⟨fun pins s σ H Q I h => p.run pins s σ H Q I (f _ _ _ h)⟩
theorem ts_nil : PTs X [] (ttOf W fun _ => pure true) := PTs.imp pts_nil fun σ H Q ⟨φ, h, s, aH, aS, b, h', e, k⟩ => by
  obtain ⟨rfl, rfl⟩ := pure_inv e
  exact k φ H Grow.refl aH
theorem ts_one {c : Expr} {m : Sg → M Val} (p : PT X c (ttOf W (tst m))) : PTs X [c] (ttOf W (tst m)) := pts_one p
/-! ### comprehensions -/
theorem staysM_inv {l : Option (Nat × AO)} {u : Unit} (e : staysM l h = .ok u h') : h' = h ∧ stays l h := by
  unfold staysM at e
  by_cases q : stays l h
  · rw [if_pos q] at e; cases e; exact ⟨rfl, q⟩
  · rw [if_neg q] at e; cases e
/-- what stood apart gets a number -/
theorem adopt_at {φ0 : Ph} {h0 : Hs} {H0 : Hp} {D : Addr} {o : AO} (g : Gr0 φ0 h0 H0 (φ.cons D) h H) (hz : φ.z = φ0.z) (hzk : ∀ b ∈ φ0.z, H b = H0 b) (a : AbsH W (φ.cons D) h H) (nz : D ∉ φ.z) (there : H D ≠ none) (r : ObR W (φ.cons D) h H D o) :
    Grow φ0 h0 H0 (φ.push D) (h ++ [o]) H ∧ AbsH W (φ.push D) (h ++ [o]) H ∧ (φ.push D).l[h.length]? = some D := by
  have a0 : AbsH W φ h H := a.back
  have nl : ¬ Lv φ h D := a.zd D (List.mem_cons_self ..)
  have na : ¬ Al φ h D := fun z => z.elim nl nz
  let Hm : Hp := fun x => if x = D then none else H x
  have hm : ∀ x, x ≠ D → Hm x = H x := fun x n => if_neg n
  have hD0 : Hm D = none := if_pos rfl
  have g1 : Gr0 (φ.cons D) h H φ h Hm := ⟨⟨[], by simp [Ph.cons]⟩, fun b u nb eb => .inl (by rw [hm b fun z => nb (al_cons.mpr (.inr z))]; exact eb), fun x z => .inl (al_cons.mpr (.inl z))⟩
  have a1 : AbsH W φ h Hm := by
    refine ⟨a.len, a.inj, fun i x u e1 e2 => ?_, fun b hb => ?_, fun b hb => a0.zd b hb⟩
    · by_cases n : u = .dead
      · subst n; trivial
      · exact (a.ob i x u e1 e2).grow0 g1 (hm x fun z => nl (by rw [← z]; exact ⟨i, u, e1, e2, n⟩))
    · rw [hm b fun z => nz (by rw [← z]; exact hb)]
      exact a0.zs b hb
  have g2 : Gr0 φ h Hm (φ.push D) (h ++ [o]) H := ⟨⟨[D], rfl⟩, fun b u nb eb => .inl (by rw [← hm b (ne_of_none eb hD0)]; exact eb), fun x z => (Gr0.adopt a1 x z).imp id fun e => by rw [e]; exact hD0⟩
  refine ⟨⟨g.trans (g1.trans g2), hz, hzk⟩, a1.adopt g2 (fun x n => (hm x n).symm) na there (r.grow0 (g1.trans g2) rfl), ?_⟩
  show (φ.l ++ [D])[h.length]? = some D
  rw [← a0.len, List.getElem?_append_right (Nat.le_refl _)]
  simp
/-- the list that stood apart is the value -/
theorem mkL_adopt {m : Bool} {vs : List Val} {v : Val} {Q : VK} {φ0 : Ph} {h0 : Hs} {H0 : Hp} {D : Addr} (e : mkL m vs h = .ok v h') (k : Wnt W φ0 h0 H0 v h' Q) (g : Gr0 φ0 h0 H0 (φ.cons D) h H) (hz : φ.z = φ0.z) (hzk : ∀ b ∈ φ0.z, H b = H0 b)
    (a : AbsH W (φ.cons D) h H) {xs : List V} (hD : H D = some (.lst xs)) (l : xs.length ≤ sizeLine) (r : RepVs W (φ.cons D) h H xs vs) (nz : D ∉ φ.z) : Q (.ref D) H := by
  have r0 : RepVs W φ h H xs vs := RepVs.grow0 Gr0.back r
  have na : ¬ Al φ h D := fun z => z.elim (a.zd D (List.mem_cons_self ..)) nz
  have obj : ∀ {h' : Hs} {v : Val}, Res.ok (.r h.length) (h ++ [.lst vs]) = Res.ok v h' → Wnt W φ0 h0 H0 v h' Q → Q (.ref D) H := by
    intro h' v e k
    cases e
    obtain ⟨g2, a2, e2⟩ := adopt_at (o := .lst vs) g hz hzk a nz (by rw [hD]; exact fun z => nomatch z) ⟨xs, hD, l, r⟩
    exact k (.ref D) _ H g2 a2 ⟨D, e2, rfl⟩
  cases m with
  | true => exact obj (h' := h') (v := v) e k
  | false =>
    cases hd : dats vs with
    | some ds =>
      rw [dats_inv hd] at r0
      simp only [mkL, hd] at e
      cases e
      exact k (.ref D) φ H ⟨g.trans Gr0.back, hz, hzk⟩ a.back (show RepD _ _ _ _ _ from .lst ⟨.inl hD, na⟩ l (repVs_d r0))
    | none =>
      simp only [mkL, hd] at e
      exact obj (h' := h') (v := v) e k
/-- .. the dict -/
theorem mkD_adopt {m : Bool} {kvs : List (Key × Val)} {v : Val} {Q : VK} {φ0 : Ph} {h0 : Hs} {H0 : Hp} {D : Addr} (e : mkD m kvs h = .ok v h') (k : Wnt W φ0 h0 H0 v h' Q) (g : Gr0 φ0 h0 H0 (φ.cons D) h H) (hz : φ.z = φ0.z) (hzk : ∀ b ∈ φ0.z, H b = H0 b)
    (a : AbsH W (φ.cons D) h H) {ws : List (Key × V)} (hD : H D = some (.dK ws)) (l : ws.length ≤ sizeLine) (r : RepW W (φ.cons D) h H ws kvs) (nz : D ∉ φ.z) : Q (.ref D) H := by
  have na : ¬ Al φ h D := fun z => z.elim (a.zd D (List.mem_cons_self ..)) nz
  have obj : ∀ {h' : Hs} {v : Val}, Res.ok (.r h.length) (h ++ [.dct kvs]) = Res.ok v h' → Wnt W φ0 h0 H0 v h' Q → Q (.ref D) H := by
    intro h' v e k
    cases e
    obtain ⟨g2, a2, e2⟩ := adopt_at (o := .dct kvs) g hz hzk a nz (by rw [hD]; exact fun z => nomatch z) ⟨ws, hD, l, r⟩
    exact k (.ref D) _ H g2 a2 ⟨D, e2, rfl⟩
  cases m with
  | true => exact obj (h' := h') (v := v) e k
  | false =>
    cases hd : datK kvs with
    | some ds =>
      have r0 : RepW W φ h H ws kvs := paired_imp (fun _ _ q => ⟨q.1, q.2.1, q.2.2.grow0 Gr0.back⟩) r
      simp only [mkD, hd] at e
      cases e
      exact k (.ref D) φ H ⟨g.trans Gr0.back, hz, hzk⟩ a.back (show RepD _ _ _ _ _ from .dct ⟨.inl hD, na⟩ l (repKs_of r0 hd))
    | none =>
      simp only [mkD, hd] at e
      exact obj (h' := h') (v := v) e k
/-! dict displays -/
theorem putK_new {k : Key} {v : V} : ∀ {kvs : List (Key × V)}, k ∉ kvs.map (·.1) → putK kvs k v = kvs ++ [(k, v)] := by
  intro kvs n
  unfold putK
  rw [if_neg]
  intro e
  simp only [List.any_eq_true, decide_eq_true_eq] at e
  obtain ⟨p, m, rfl⟩ := e
  exact n (List.mem_map_of_mem m)
theorem mergeK_new : ∀ {more kvs : List (Key × V)}, (kvs.map (·.1) ++ more.map (·.1)).Nodup → mergeK kvs more = kvs ++ more
  | [], kvs, _ => by show kvs = kvs ++ []; simp
  | p :: r, kvs, n => by
    have h1 : p.1 ∉ kvs.map (·.1) := fun m => by
      rw [List.map_cons, List.nodup_append] at n
      exact n.2.2 _ m _ (List.mem_cons_self ..) rfl
    show mergeK (putK kvs p.1 p.2) r = _
    rw [putK_new h1, mergeK_new (by rw [List.map_append, List.append_assoc]; exact n), List.append_assoc]
    rfl
/-- the pairs of a display by their values -/
def PrOf (W : Wo) (X : Cx) (pos : Pos) (keys : List (Option Expr)) (values : List Expr) (ks : List Key) (m : Sg → M (List Val)) : Prop :=
  ∃ trs, PPs X pos keys values trs ∧ ∀ (σ : L2.St) (φ : Ph) (h : Hs) (H : Hp) (s : Sg) (vs : List Val) (h' : Hs) (Q : List (V × V) → Hp → Prop), AbsH W φ h H → AbsS W φ h H σ s → m s h = .ok vs h' →
    (∀ xs φ' H', Grow φ h H φ' h' H' → AbsH W φ' h' H' → RepVs W φ' h' H' xs vs → Q ((ks.zip xs).map fun p => (kV p.1, p.2)) H') → tPairs trs σ H Q
theorem pr_nil {pos : Pos} : PrOf W X pos [] [] [] fun _ => pure [] := ⟨[], pps_nil, fun σ φ h H s vs h' Q a aS e k => by
  obtain ⟨rfl, rfl⟩ := pure_inv e
  exact k [] φ H Grow.refl a .nil⟩
theorem pr_cons {pos : Pos} {e1 e2 : Expr} {keys : List (Option Expr)} {values : List Expr} {kk : Key} {ks : List Key} {mv : Sg → M Val} {m : Sg → M (List Val)} (hk : PE X e1 (tC (kV kk))) (hv : PE X e2 (teOf W mv)) (r : PrOf W X pos keys values ks m) :
    PrOf W X pos (some e1 :: keys) (e2 :: values) (kk :: ks) fun s => mv s >>= fun x => m s >>= fun xs => pure (x :: xs) := by
  obtain ⟨trs, p, q⟩ := r
  refine ⟨_, pps_cons hk hv p, fun σ φ h H s vs h' Q a aS e k => ?_⟩
  obtain ⟨x, i1, e3, e4⟩ := bind_inv e
  obtain ⟨xs, i2, e5, e6⟩ := bind_inv e4
  obtain ⟨rfl, rfl⟩ := pure_inv e6
  exact ⟨φ, h, s, a, aS, x, i1, e3, fun x' φ1 H1 g1 a1 r1 => q σ φ1 i1 H1 s xs i2 _ a1 (aS.grow g1) e5 fun xs' φ2 H2 g2 a2 r2 => k (x' :: xs') φ2 H2 (g1.trans g2) a2 (.cons (r1.grow g2) r2)⟩
theorem zip_keys {α : Type} : ∀ {ks : List Key} {xs : List α}, ks.length = xs.length → (ks.zip xs).map (·.1) = ks
  | [], [], _ => rfl
  | k :: ks, x :: xs, h => by
    rw [List.zip_cons_cons, List.map_cons, zip_keys (by simpa using h)]
theorem repW_zip : ∀ {ks : List Key} {xs : List V} {vs : List Val}, (∀ k ∈ ks, KeyOk k) → RepVs W φ h H xs vs → RepW W φ h H (ks.zip xs) (ks.zip vs)
  | [], _, _, _, _ => .nil
  | k :: ks, _, _, hk, .nil => .nil
  | k :: ks, _, _, hk, .cons r t => .cons ⟨rfl, hk k (List.mem_cons_self ..), r⟩ (repW_zip (fun q m => hk q (List.mem_cons_of_mem _ m)) t)
theorem te_dct {pos : Pos} {keys : List (Option Expr)} {values : List Expr} {ks : List Key} {ms : Sg → M (List Val)} {m : Bool} (p : PrOf W X pos keys values ks ms) (hall : keys.all (·.isSome) = true) (hl : keys.length = values.length) (h0 : keys ≠ [])
    (h15 : keys.length ≤ 15) (hlk : ks.length ≤ 15) (nd : ks.Nodup) (hk : ∀ k ∈ ks, KeyOk k) : PE X (.Dict keys values pos) (teOf W fun s => ms s >>= fun vs => if ks.length = vs.length then mkD m (ks.zip vs) else bad) := by
  obtain ⟨trs, p, q⟩ := p
  refine PE.imp (pe_disp p hall hl h0 h15) fun σ H Q ⟨φ, h, s, aH, aS, v, h', e, k⟩ D hD => ?_
  obtain ⟨vs, i1, e1, e2⟩ := bind_inv e
  obtain ⟨ln, e3⟩ := ite_inv e2
  have nz0 : D ∉ φ.z := fun z => aH.zs D z hD
  refine q σ (φ.cons D) h _ s vs i1 _ (aH.apart hD) (aS.grow0 (Gr0.apart aH hD)) e1 fun xs φ1 H1 g1 a1 r1 => ?_
  obtain ⟨φ1l, φ1z⟩ := φ1
  have hz1 : φ1z = D :: φ.z := g1.z
  subst hz1
  have hd1 : H1 D = some (.dK []) := by
    rw [g1.zk D (List.mem_cons_self ..)]
    exact upd_same
  have hx : ks.length = xs.length := ln.trans (RepVs.length r1).symm
  refine ⟨hd1, ks.zip xs, rfl, by rw [List.length_zip]; omega, ?_⟩
  rw [mergeK_new (by rw [zip_keys hx]; simpa using nd), List.nil_append]
  have hDz : D ∈ (Ph.mk φ1l (D :: φ.z)).z := List.mem_cons_self ..
  have gs : Gr0 ⟨φ1l, D :: φ.z⟩ i1 H1 ⟨φ1l, D :: φ.z⟩ i1 (upd H1 D (.dK (ks.zip xs))) := Gr0.stir hDz
  refine mkD_adopt (φ := ⟨φ1l, φ.z⟩) (φ0 := φ) (h0 := h) (H0 := H) e3 k ((Gr0.apart aH hD).trans (g1.toGr0.trans gs)) rfl (fun b hb => ?_) (a1.stir hDz) upd_same (by rw [List.length_zip]; exact Nat.le_trans (Nat.min_le_left _ _) (Nat.le_trans hlk (by decide))) (repW_zip hk (RepVs.grow0 gs r1)) nz0
  rw [upd_ne fun z => nz0 (by rw [← z]; exact hb), g1.zk b (List.mem_cons_of_mem _ hb), upd_ne fun z => nz0 (by rw [← z]; exact hb)]
/-- {} -/
theorem te_dct0 {pos : Pos} {m : Bool} : PE X (.Dict [] [] pos) (teOf W fun s => (pure [] : M (List Val)) >>= fun vs => if ([] : List Key).length = vs.length then mkD m (([] : List Key).zip vs) else bad) := by
  refine PE.imp pe_dnewK fun σ H Q ⟨φ, h, s, aH, aS, v, h', e, k⟩ D hD => ?_
  have nz0 : D ∉ φ.z := fun z => aH.zs D z hD
  exact mkD_adopt (φ := φ) (φ0 := φ) (h0 := h) (H0 := H) (kvs := []) (m := m) e k (Gr0.apart aH hD) rfl (fun b hb => upd_ne fun z => nz0 (by rw [← z]; exact hb)) (aH.apart hD) upd_same (Nat.zero_le _) .nil nz0
/-- {} of tuple keys -/
theorem te_dtn (tk : TkOk W.K) {pos : Pos} : PE X (.Dict [] [] pos) (teOf W fun s => new (.dtt [])) := by
  refine PE.imp pe_dnewT fun σ H Q ⟨φ, h, s, aH, aS, v, h', e, k⟩ D hD => ?_
  cases e
  have g : Grow φ h H (φ.push D) (h ++ [AO.dtt []]) (upd H D (.dT [])) := Grow.alloc aH hD
  refine k (.ref D) (φ.push D) _ g (aH.alloc hD ⟨tk, [], upd_same, Nat.zero_le _, .nil⟩) ⟨D, ?_, rfl⟩
  show (φ.l ++ [D])[h.length]? = some D
  rw [← aH.len, List.getElem?_append_right (Nat.le_refl _)]
  simp
/-- one round of a comprehension -/
theorem lc_cons {l : Option (Nat × AO)} {t : Tgt} {c : Sg → M Bool} {e : Sg → M Val} {s : Sg} {x : Val} {xs zs : List Val} (he : lcL l t c e s (x :: xs) h = .ok zs h') :
    stays l h ∧ ∃ s1 b i1 i2, asg t x s h = .ok s1 i1 ∧ c s1 i1 = .ok b i2 ∧ ((b = true ∧ ∃ y ys i3, e s1 i2 = .ok y i3 ∧ lcL l t c e s xs i3 = .ok ys h' ∧ zs = y :: ys) ∨ (b = false ∧ lcL l t c e s xs i2 = .ok zs h')) := by
  obtain ⟨u, h1, e1, e2⟩ := bind_inv (show (staysM l >>= fun _ => asg t x s >>= fun s1 => c s1 >>= fun b => if b = true then (e s1 >>= fun y => lcL l t c e s xs >>= fun ys => pure (y :: ys)) else lcL l t c e s xs) h = .ok zs h' from he)
  obtain ⟨rfl, st⟩ := staysM_inv e1
  obtain ⟨s1, i1, e3, e4⟩ := bind_inv e2
  obtain ⟨b, i2, e5, e6⟩ := bind_inv e4
  refine ⟨st, s1, b, i1, i2, e3, e5, ?_⟩
  cases b with
  | true =>
    obtain ⟨y, i3, e7, e8⟩ := bind_inv (show (e s1 >>= fun y => lcL l t c e s xs >>= fun ys => pure (y :: ys)) i2 = .ok zs h' from e6)
    obtain ⟨ys, i4, e9, e10⟩ := bind_inv e8
    obtain ⟨rfl, rfl⟩ := pure_inv e10
    exact .inl ⟨rfl, y, ys, i3, e7, e9, rfl⟩
  | false => exact .inr ⟨rfl, e6⟩
theorem lc_tr {t : Tgt} {m : Bool} {mi : Sg → M Src} {mc : Sg → M Bool} {me : Sg → M Val} {σ : L2.St} {H : Hp} {Q : VK} (z : teOf W (fun s => mi s >>= fun r => lcL r.live t mc me s r.items >>= fun ys => mkL m ys) σ H Q) :
    tLc (tiOf W mi) (tgT W.K t) (ttOf W mc) (teOf W me) (tgS t) σ H Q := by
  obtain ⟨φ, h, s, aH, aS, v, h', e0, k⟩ := z
  obtain ⟨r, i1, e1, e2⟩ := bind_inv e0
  obtain ⟨all, i2, e3, e4⟩ := bind_inv e2
  refine ⟨φ, h, s, aH, aS, r, i1, e1, fun J φ0 H0 g0 a0 wk D hD => ?_⟩
  have nz0 : D ∉ φ0.z := fun z => a0.zs D z hD
  refine ⟨fun i m H => ∃ (φ1 : Ph) (h1 : Hs) (acc : List V) (ys zs : List Val), m = r.items.length - i ∧ i ≤ r.items.length ∧ Gr0 φ0 i1 H0 (φ1.cons D) h1 H ∧ φ1.z = φ0.z ∧ (∀ b ∈ φ0.z, H b = H0 b) ∧ AbsH W (φ1.cons D) h1 H ∧ H D = some (.lst acc) ∧ acc.length ≤ i ∧ RepVs W (φ1.cons D) h1 H acc ys ∧
    lcL r.live t mc me s (r.items.drop i) h1 = .ok zs i2 ∧ ys ++ zs = all, ⟨r.items.length, φ0, i1, [], [], all, by simp, Nat.zero_le _, Gr0.apart a0 hD, rfl, fun b hb => upd_ne fun z => nz0 (by rw [← z]; exact hb), a0.apart hD, upd_same, Nat.le_refl _, .nil, by rw [List.drop_zero]; exact e3, rfl⟩, ?_⟩
  rintro i mm H ⟨φ1, h1, acc, ys, zs, rfl, hi2, g1, z1, zk1, a1, hd1, la, ra, el, rfl⟩
  by_cases hlt : i < r.items.length
  · rw [List.drop_eq_getElem_cons hlt] at el
    obtain ⟨st, s1, b, j1, j2, e5, e6, e7⟩ := lc_cons el
    have hv : r.items[i]? = some r.items[i] := List.getElem?_eq_getElem hlt
    obtain ⟨go, yl⟩ := wk.go (φ1.cons D) h1 H g1 a1 st i _ hv
    refine .inr ⟨go, fun H' => ∃ (φ1 : Ph) (h1 : Hs) (acc : List V) (ys' zs' : List Val), Gr0 φ0 i1 H0 (φ1.cons D) h1 H' ∧ φ1.z = φ0.z ∧ (∀ b ∈ φ0.z, H' b = H0 b) ∧ AbsH W (φ1.cons D) h1 H' ∧ H' D = some (.lst acc) ∧ acc.length ≤ i + 1 ∧ RepVs W (φ1.cons D) h1 H' acc ys' ∧
      lcL r.live t mc me s (r.items.drop (i + 1)) h1 = .ok zs' i2 ∧ ys' ++ zs' = ys ++ zs, fun H' ⟨φ2, h2, acc2, ys2, zs2, p⟩ => ⟨r.items.length - (i + 1), by omega, φ2, h2, acc2, ys2, zs2, rfl, hlt, p⟩, fun x H' y => ?_⟩
    obtain ⟨g2, a2, rx⟩ := yl x H' y
    obtain ⟨rfl, σ1, aσ, kσ, lσ, qσ⟩ := tg_ok ((aS.grow0 (g0.toGr0.trans (g1.trans g2.toGr0))).wiped (tgS t)) (fun _ z => z) rx e5
    refine qσ _ ⟨wipe_eq (lσ.trans (wipe_length ..)) fun j hj => kσ j hj, φ1.cons D, _, s1, a2, aσ, b, j2, e6, fun φ3 H3 g3 a3 => ?_⟩
    obtain ⟨φ3l, φ3z⟩ := φ3
    have hz3 : φ3z = D :: φ1.z := g3.z
    subst hz3
    have hd3 : H3 D = some (.lst acc) := by
      rw [g3.zk D (List.mem_cons_self ..), g2.zk D (List.mem_cons_self ..)]
      exact hd1
    have zk3 : ∀ b ∈ φ0.z, H3 b = H0 b := fun b hb => by
      rw [g3.zk b (List.mem_cons_of_mem _ (by rw [z1]; exact hb)), g2.zk b (List.mem_cons_of_mem _ (by rw [z1]; exact hb)), zk1 b hb]
    have g13 := g1.trans (g2.toGr0.trans g3.toGr0)
    have ra3 := RepVs.grow0 (g2.toGr0.trans g3.toGr0) ra
    rcases e7 with ⟨rfl, y, ys3, j3, e8, e9, rfl⟩ | ⟨rfl, e8⟩
    · refine iteT ⟨⟨φ3l, D :: φ1.z⟩, j2, s1, a3, aσ.grow0 g3.toGr0, y, j3, e8, fun yv φ4 H4 g4 a4 r4 => ?_⟩
      obtain ⟨φ4l, φ4z⟩ := φ4
      have hz4 : φ4z = D :: φ1.z := g4.z
      subst hz4
      have hd4 : H4 D = some (.lst acc) := by
        rw [g4.zk D (List.mem_cons_self ..)]
        exact hd3
      have hDz : D ∈ (Ph.mk φ4l (D :: φ1.z)).z := List.mem_cons_self ..
      have hl : acc.length < sizeLine := Nat.lt_of_le_of_lt la (Nat.lt_of_lt_of_le hlt wk.len)
      have gs : Gr0 ⟨φ4l, D :: φ1.z⟩ j3 H4 ⟨φ4l, D :: φ1.z⟩ j3 (upd H4 D (.lst (acc ++ [yv]))) := Gr0.stir hDz
      refine ⟨acc, hd4, hl, ⟨φ4l, φ1.z⟩, j3, acc ++ [yv], ys ++ [y], ys3, g13.trans (g4.toGr0.trans gs), z1, fun b hb => ?_, a4.stir hDz, upd_same, by rw [List.length_append]; exact Nat.add_le_add_right la 1, paired_app (RepVs.grow0 (g4.toGr0.trans gs) ra3) (.cons (r4.grow0 gs) .nil), e9, by simp⟩
      rw [upd_ne fun z => nz0 (by rw [← z]; exact hb), g4.zk b (List.mem_cons_of_mem _ (by rw [z1]; exact hb)), zk3 b hb]
    · exact iteF ⟨⟨φ3l, φ1.z⟩, j2, acc, ys, zs, g13, z1, zk3, a3, hd3, Nat.le_succ_of_le la, ra3, e8, rfl⟩
  · have hi3 : i = r.items.length := by omega
    subst hi3
    rw [List.drop_eq_nil_of_le (Nat.le_refl _)] at el
    obtain ⟨u, j1, e5, e6⟩ := bind_inv (show (staysM r.live >>= fun _ => (pure [] : M (List Val))) h1 = .ok zs i2 from el)
    obtain ⟨rfl, st⟩ := staysM_inv e5
    obtain ⟨rfl, rfl⟩ := pure_inv e6
    rw [List.append_nil] at e4
    refine .inl ⟨wk.stop (φ1.cons D) _ H g1 a1 st, ?_⟩
    exact mkL_adopt (φ0 := φ0) (h0 := i1) (H0 := H0) e4 (fun u φ' H' g a r => k u φ' H' (g0.trans g) a r) g1 z1 zk1 a1 hd1 (Nat.le_trans la wk.len) ra (by rw [z1]; exact nz0)
theorem te_lc (hK : X.K = W.K) (hc : X.calm = true) (hN : X.N.Nodup) {t : Tgt} {m : Bool} {mi : Sg → M Src} {mc : Sg → M Bool} {me : Sg → M Val} {elt tg iter : Expr} {ifs : List Expr} {scope : Scope} {own : List (Str × Nat)} {pos : Pos} (hi : PI X tg iter (tiOf W mi)) (ok : BlkOk X.N X.env.scope scope own)
    (ho : own.map (·.2) = tgS t) (hg : ∀ (s : Shared) (H : Hp) (C : Addr) (cl : List (Str × Addr)) (fp : List Addr), PG (X.blk s H scope (compEnvC scope cl C X.env) fp) tg (tgT W.K t))
    (ht : ∀ (s : Shared) (H : Hp) (C : Addr) (cl : List (Str × Addr)) (fp : List Addr), PTs (X.blk s H scope (compEnvC scope cl C X.env) fp) ifs (ttOf W mc))
    (he : ∀ (s : Shared) (H : Hp) (C : Addr) (cl : List (Str × Addr)) (fp : List Addr), PE (X.blk s H scope (compEnvC scope cl C X.env) fp) elt (teOf W me)) (hs : notSet iter = true) :
    PE X (.ListComp elt [⟨tg, iter, ifs, 0⟩] scope pos) (teOf W fun s => mi s >>= fun r => lcL r.live t mc me s r.items >>= fun ys => mkL m ys) := by
  refine PE.imp (pe_lc hc hN hi ok hg ht he (set_no hs)) fun σ H Q z => ?_
  rw [ho]
  exact lc_tr z
/-- one round of the outer walk -/
theorem lc2_cons {l : Option (Nat × AO)} {t : Tgt} {f : Sg → M (List Val)} {s : Sg} {x : Val} {xs zs : List Val} (he : lcL2 l t f s (x :: xs) h = .ok zs h') :
    stays l h ∧ ∃ s1 i1 ys i2 us, asg t x s h = .ok s1 i1 ∧ f s1 i1 = .ok ys i2 ∧ lcL2 l t f s xs i2 = .ok us h' ∧ zs = ys ++ us := by
  obtain ⟨u, h1, e1, e2⟩ := bind_inv (show (staysM l >>= fun _ => asg t x s >>= fun s1 => f s1 >>= fun ys => lcL2 l t f s xs >>= fun zs => pure (ys ++ zs)) h = .ok zs h' from he)
  obtain ⟨rfl, st⟩ := staysM_inv e1
  obtain ⟨s1, i1, e3, e4⟩ := bind_inv e2
  obtain ⟨ys, i2, e5, e6⟩ := bind_inv e4
  obtain ⟨us, i3, e7, e8⟩ := bind_inv e6
  obtain ⟨rfl, rfl⟩ := pure_inv e8
  exact ⟨st, s1, i1, ys, i2, us, e3, e5, e7, rfl⟩
theorem wS_len : ∀ (is : List Nat) (s : Sg), (wS is s).length = s.length
  | [], _ => rfl
  | i :: is, s => by
    show ((wS is s).set i none).length = _
    rw [List.length_set, wS_len is s]
theorem wS_in : ∀ {is : List Nat} {s : Sg} {i : Nat} {v : Val}, i ∈ is → (wS is s)[i]? = some (some v) → False
  | j :: is, s, i, v, m, e => by
    have e : ((wS is s).set j none)[i]? = some (some v) := e
    by_cases q : j = i
    · subst q
      have hl := (List.getElem?_eq_some_iff.mp e).1
      rw [List.length_set] at hl
      rw [List.getElem?_set_self hl] at e
      cases e
    · rw [List.getElem?_set_ne q] at e
      exact wS_in ((List.mem_cons.mp m).resolve_left fun z => q z.symm) e
theorem wS_out : ∀ {is : List Nat} {s : Sg} {i : Nat} {v : Val}, (wS is s)[i]? = some (some v) → s[i]? = some (some v)
  | [], _, _, _, e => e
  | j :: is, s, i, v, e => by
    have e : ((wS is s).set j none)[i]? = some (some v) := e
    by_cases q : j = i
    · subst q
      have hl := (List.getElem?_eq_some_iff.mp e).1
      rw [List.length_set] at hl
      rw [List.getElem?_set_self hl] at e
      cases e
    · rw [List.getElem?_set_ne q] at e
      exact wS_out e
theorem AbsS.wiped2 {σ : L2.St} {s : Sg} (a : AbsS W φ h H σ s) (ts is : List Nat) : AbsX W φ h H (wipe σ (ts ++ is)) (wS is s) fun i => i ∈ ts := by
  refine ⟨by rw [wipe_length, wS_len, a.len], fun i v ni e => ?_⟩
  have n2 : i ∉ is := fun m => wS_in m e
  rw [wipe_out fun m => (List.mem_append.mp m).elim ni n2]
  exact a.at_ i v (wS_out e)
theorem lc2_tr {t t2 : Tgt} {m : Bool} {mi mi2 : Sg → M Src} {mc : Sg → M Bool} {me : Sg → M Val} {σ : L2.St} {H : Hp} {Q : VK}
    (z : teOf W (fun s => mi s >>= fun r => lcL2 r.live t (fun s1 => mi2 s1 >>= fun r2 => lcL r2.live t2 mc me s1 r2.items) (wS (tgS t2) s) r.items >>= fun ys => if ys.length ≤ lim then mkL m ys else bad) σ H Q) :
    tLc2 (tiOf W mi) (tgT W.K t) (ttOf W fun _ => pure true) (tiOf W mi2) (tgT W.K t2) (ttOf W mc) (teOf W me) (tgS t ++ tgS t2) (tgS t2) σ H Q := by
  obtain ⟨φ, h, s, aH, aS, v, h', e0, k⟩ := z
  obtain ⟨r, i1, e1, e2⟩ := bind_inv e0
  obtain ⟨all, i2, e3, e4'⟩ := bind_inv e2
  obtain ⟨hall, e4⟩ := ite_inv e4'
  refine ⟨φ, h, s, aH, aS, r, i1, e1, fun J φ0 H0 g0 a0 wk D hD => ?_⟩
  have nz0 : D ∉ φ0.z := fun z => a0.zs D z hD
  let f : Sg → M (List Val) := fun s1 => mi2 s1 >>= fun r2 => lcL r2.live t2 mc me s1 r2.items
  let s' := wS (tgS t2) s
  refine ⟨fun i m H => ∃ (φ1 : Ph) (h1 : Hs) (acc : List V) (ys zs : List Val), m = r.items.length - i ∧ i ≤ r.items.length ∧ Gr0 φ0 i1 H0 (φ1.cons D) h1 H ∧ φ1.z = φ0.z ∧ (∀ b ∈ φ0.z, H b = H0 b) ∧ AbsH W (φ1.cons D) h1 H ∧ H D = some (.lst acc) ∧ RepVs W (φ1.cons D) h1 H acc ys ∧
    lcL2 r.live t f s' (r.items.drop i) h1 = .ok zs i2 ∧ ys ++ zs = all, ⟨r.items.length, φ0, i1, [], [], all, by simp, Nat.zero_le _, Gr0.apart a0 hD, rfl, fun b hb => upd_ne fun z => nz0 (by rw [← z]; exact hb), a0.apart hD, upd_same, .nil, by rw [List.drop_zero]; exact e3, rfl⟩, ?_⟩
  rintro i mm H ⟨φ1, h1, acc, ys, zs, rfl, hi2, g1, z1, zk1, a1, hd1, ra, el, hyz⟩
  by_cases hlt : i < r.items.length
  · rw [List.drop_eq_getElem_cons hlt] at el
    obtain ⟨st, s1, j1, xs, j2, us, e5, e6, e7, rfl⟩ := lc2_cons el
    have hv : r.items[i]? = some r.items[i] := List.getElem?_eq_getElem hlt
    obtain ⟨go, yl⟩ := wk.go (φ1.cons D) h1 H g1 a1 st i _ hv
    refine .inr ⟨go, fun H' => ∃ (φ1 : Ph) (h1 : Hs) (acc : List V) (ys' zs' : List Val), Gr0 φ0 i1 H0 (φ1.cons D) h1 H' ∧ φ1.z = φ0.z ∧ (∀ b ∈ φ0.z, H' b = H0 b) ∧ AbsH W (φ1.cons D) h1 H' ∧ H' D = some (.lst acc) ∧ RepVs W (φ1.cons D) h1 H' acc ys' ∧
      lcL2 r.live t f s' (r.items.drop (i + 1)) h1 = .ok zs' i2 ∧ ys' ++ zs' = all, fun H' ⟨φ2, h2, acc2, ys2, zs2, p⟩ => ⟨r.items.length - (i + 1), by omega, φ2, h2, acc2, ys2, zs2, rfl, hlt, p⟩, fun x H' y => ?_⟩
    obtain ⟨g2, a2, rx⟩ := yl x H' y
    obtain ⟨rfl, σ1, aσ, kσ, lσ, qσ⟩ := tg_ok ((aS.grow0 (g0.toGr0.trans (g1.trans g2.toGr0))).wiped2 (tgS t) (tgS t2)) (fun _ z => z) rx e5
    refine qσ _ ⟨wipe_eq (lσ.trans (wipe_length ..)) fun j hj => kσ j fun z => hj (List.mem_append_left _ z), φ1.cons D, _, s1, a2, aσ, true, _, rfl, fun φ3 H3 g3 a3 => iteT ?_⟩
    obtain ⟨φ3l, φ3z⟩ := φ3
    have hz3 : φ3z = D :: φ1.z := g3.z
    subst hz3
    have hd3 : H3 D = some (.lst acc) := by
      rw [g3.zk D (List.mem_cons_self ..), g2.zk D (List.mem_cons_self ..)]
      exact hd1
    have zk3 : ∀ b ∈ φ0.z, H3 b = H0 b := fun b hb => by
      rw [g3.zk b (List.mem_cons_of_mem _ (by rw [z1]; exact hb)), g2.zk b (List.mem_cons_of_mem _ (by rw [z1]; exact hb)), zk1 b hb]
    have g13 := g1.trans (g2.toGr0.trans g3.toGr0)
    have ra3 := RepVs.grow0 (g2.toGr0.trans g3.toGr0) ra
    -- the inner walk
    obtain ⟨r2, k1, e8, e9⟩ := bind_inv (show (mi2 s1 >>= fun r2 => lcL r2.live t2 mc me s1 r2.items) _ = .ok xs j2 from e6)
    refine ⟨⟨φ3l, D :: φ1.z⟩, _, s1, a3, aσ.grow0 g3.toGr0, r2, k1, e8, fun J2 φ4 H4 g4 a4 wk2 => ?_⟩
    obtain ⟨φ4l, φ4z⟩ := φ4
    have hz4 : φ4z = D :: φ1.z := g4.z
    subst hz4
    have hd4 : H4 D = some (.lst acc) := by
      rw [g4.zk D (List.mem_cons_self ..)]
      exact hd3
    have zk4 : ∀ b ∈ φ0.z, H4 b = H0 b := fun b hb => by rw [g4.zk b (List.mem_cons_of_mem _ (by rw [z1]; exact hb)), zk3 b hb]
    have ra4 := RepVs.grow0 g4.toGr0 ra3
    have as4 := (aσ.grow0 g3.toGr0).grow0 g4.toGr0
    have g14 := g13.trans g4.toGr0
    refine ⟨fun j m H => ∃ (φ5 : Ph) (h5 : Hs) (acc5 : List V) (ys5 zs5 : List Val), m = r2.items.length - j ∧ j ≤ r2.items.length ∧ Gr0 ⟨φ4l, D :: φ1.z⟩ k1 H4 (φ5.cons D) h5 H ∧ φ5.z = φ0.z ∧ (∀ b ∈ φ0.z, H b = H0 b) ∧ AbsH W (φ5.cons D) h5 H ∧ H D = some (.lst acc5) ∧ RepVs W (φ5.cons D) h5 H acc5 ys5 ∧
      lcL r2.live t2 mc me s1 (r2.items.drop j) h5 = .ok zs5 j2 ∧ ys5 ++ zs5 = ys ++ xs, ⟨r2.items.length, ⟨φ4l, φ1.z⟩, k1, acc, ys, xs, by simp, Nat.zero_le _, Gr0.refl, z1, zk4, a4, hd4, ra4, by rw [List.drop_zero]; exact e9, rfl⟩, ?_⟩
    rintro j mm2 H5 ⟨φ5, h5, acc5, ys5, zs5, rfl, hj2, g5, z5, zk5, a5, hd5, ra5, el5, hyz5⟩
    by_cases hlt2 : j < r2.items.length
    · rw [List.drop_eq_getElem_cons hlt2] at el5
      obtain ⟨st2, s2, b, l1, l2, e10, e11, e12⟩ := lc_cons el5
      have hv2 : r2.items[j]? = some r2.items[j] := List.getElem?_eq_getElem hlt2
      obtain ⟨go2, yl2⟩ := wk2.go (φ5.cons D) h5 H5 g5 a5 st2 j _ hv2
      refine .inr ⟨go2, fun H' => ∃ (φ6 : Ph) (h6 : Hs) (acc6 : List V) (ys6 zs6 : List Val), Gr0 ⟨φ4l, D :: φ1.z⟩ k1 H4 (φ6.cons D) h6 H' ∧ φ6.z = φ0.z ∧ (∀ b ∈ φ0.z, H' b = H0 b) ∧ AbsH W (φ6.cons D) h6 H' ∧ H' D = some (.lst acc6) ∧ RepVs W (φ6.cons D) h6 H' acc6 ys6 ∧
        lcL r2.live t2 mc me s1 (r2.items.drop (j + 1)) h6 = .ok zs6 j2 ∧ ys6 ++ zs6 = ys ++ xs, fun H' ⟨φ6, h6, acc6, ys6, zs6, p⟩ => ⟨r2.items.length - (j + 1), by omega, φ6, h6, acc6, ys6, zs6, rfl, hlt2, p⟩, fun x2 H' y2 => ?_⟩
      obtain ⟨g6, a6, rx2⟩ := yl2 x2 H' y2
      obtain ⟨rfl, σ2, aσ2, kσ2, lσ2, qσ2⟩ := tg_ok ((as4.grow0 (g5.trans g6.toGr0)).wiped (tgS t2)) (fun _ z => z) rx2 e10
      refine qσ2 _ ⟨wipe_eq (lσ2.trans (wipe_length ..)) fun j hj => kσ2 j hj, φ5.cons D, _, s2, a6, aσ2, b, l2, e11, fun φ7 H7 g7 a7 => ?_⟩
      obtain ⟨φ7l, φ7z⟩ := φ7
      have hz7 : φ7z = D :: φ5.z := g7.z
      subst hz7
      have hd7 : H7 D = some (.lst acc5) := by
        rw [g7.zk D (List.mem_cons_self ..), g6.zk D (List.mem_cons_self ..)]
        exact hd5
      have zk7 : ∀ b ∈ φ0.z, H7 b = H0 b := fun b hb => by
        rw [g7.zk b (List.mem_cons_of_mem _ (by rw [z5]; exact hb)), g6.zk b (List.mem_cons_of_mem _ (by rw [z5]; exact hb)), zk5 b hb]
      have g57 := g5.trans (g6.toGr0.trans g7.toGr0)
      have ra7 := RepVs.grow0 (g6.toGr0.trans g7.toGr0) ra5
      rcases e12 with ⟨rfl, y3, ys3, j3, e13, e14, rfl⟩ | ⟨rfl, e13⟩
      · refine iteT ⟨⟨φ7l, D :: φ5.z⟩, l2, s2, a7, aσ2.grow0 g7.toGr0, y3, j3, e13, fun yv φ8 H8 g8 a8 r8 => ?_⟩
        obtain ⟨φ8l, φ8z⟩ := φ8
        have hz8 : φ8z = D :: φ5.z := g8.z
        subst hz8
        have hd8 : H8 D = some (.lst acc5) := by
          rw [g8.zk D (List.mem_cons_self ..)]
          exact hd7
        have hDz : D ∈ (Ph.mk φ8l (D :: φ5.z)).z := List.mem_cons_self ..
        have ln1 := RepVs.length ra5
        have ln2 := congrArg List.length hyz5
        have ln3 := congrArg List.length hyz
        simp only [List.length_append, List.length_cons] at ln2 ln3
        have hl : acc5.length < sizeLine := by
          have hall' : all.length ≤ sizeLine := hall
          omega
        have gs : Gr0 ⟨φ8l, D :: φ5.z⟩ j3 H8 ⟨φ8l, D :: φ5.z⟩ j3 (upd H8 D (.lst (acc5 ++ [yv]))) := Gr0.stir hDz
        refine ⟨acc5, hd8, hl, ⟨φ8l, φ5.z⟩, j3, acc5 ++ [yv], ys5 ++ [y3], ys3, g57.trans (g8.toGr0.trans gs), z5, fun b hb => ?_, a8.stir hDz, upd_same, paired_app (RepVs.grow0 (g8.toGr0.trans gs) ra7) (.cons (r8.grow0 gs) .nil), e14, by rw [← hyz5]; simp⟩
        rw [upd_ne fun z => nz0 (by rw [← z]; exact hb), g8.zk b (List.mem_cons_of_mem _ (by rw [z5]; exact hb)), zk7 b hb]
      · exact iteF ⟨⟨φ7l, φ5.z⟩, l2, acc5, ys5, zs5, g57, z5, zk7, a7, hd7, ra7, e13, hyz5⟩
    · have hj3 : j = r2.items.length := by omega
      subst hj3
      rw [List.drop_eq_nil_of_le (Nat.le_refl _)] at el5
      obtain ⟨u, n1, e10, e11⟩ := bind_inv (show (staysM r2.live >>= fun _ => (pure [] : M (List Val))) h5 = .ok zs5 j2 from el5)
      obtain ⟨rfl, st2⟩ := staysM_inv e10
      obtain ⟨rfl, rfl⟩ := pure_inv e11
      rw [List.append_nil] at hyz5
      subst hyz5
      exact .inl ⟨wk2.stop (φ5.cons D) _ H5 g5 a5 st2, φ5, _, acc5, ys ++ xs, us, g14.trans g5, z5, zk5, a5, hd5, ra5, e7, by rw [List.append_assoc]; exact hyz⟩
  · have hi3 : i = r.items.length := by omega
    subst hi3
    rw [List.drop_eq_nil_of_le (Nat.le_refl _)] at el
    obtain ⟨u, j1, e5, e6⟩ := bind_inv (show (staysM r.live >>= fun _ => (pure [] : M (List Val))) h1 = .ok zs i2 from el)
    obtain ⟨rfl, st⟩ := staysM_inv e5
    obtain ⟨rfl, rfl⟩ := pure_inv e6
    rw [List.append_nil] at hyz
    subst hyz
    refine .inl ⟨wk.stop (φ1.cons D) _ H g1 a1 st, ?_⟩
    exact mkL_adopt (φ0 := φ0) (h0 := i1) (H0 := H0) e4 (fun u φ' H' g a r => k u φ' H' (g0.trans g) a r) g1 z1 zk1 a1 hd1 (by rw [RepVs.length ra]; exact hall) ra (by rw [z1]; exact nz0)
theorem te_lc2 (hK : X.K = W.K) (hc : X.calm = true) (hN : X.N.Nodup) {t t2 : Tgt} {m : Bool} {mi mi2 : Sg → M Src} {mc : Sg → M Bool} {me : Sg → M Val} {elt tg iter tg2 iter2 : Expr} {ifs : List Expr} {scope : Scope} {own : List (Str × Nat)} {pos : Pos} (hi : PI X tg iter (tiOf W mi)) (ok : BlkOk X.N X.env.scope scope own)
    (ho : own.map (·.2) = tgS t ++ tgS t2) (hg : ∀ (s : Shared) (H : Hp) (C : Addr) (cl : List (Str × Addr)) (fp : List Addr), PG (X.blk s H scope (compEnvC scope cl C X.env) fp) tg (tgT W.K t))
    (hi2 : ∀ (s : Shared) (H : Hp) (C : Addr) (cl : List (Str × Addr)) (fp : List Addr), PI (X.blk s H scope (compEnvC scope cl C X.env) fp) tg2 iter2 (tiOf W mi2))
    (hg2 : ∀ (s : Shared) (H : Hp) (C : Addr) (cl : List (Str × Addr)) (fp : List Addr), PG (X.blk s H scope (compEnvC scope cl C X.env) fp) tg2 (tgT W.K t2))
    (ht : ∀ (s : Shared) (H : Hp) (C : Addr) (cl : List (Str × Addr)) (fp : List Addr), PTs (X.blk s H scope (compEnvC scope cl C X.env) fp) ifs (ttOf W mc))
    (he : ∀ (s : Shared) (H : Hp) (C : Addr) (cl : List (Str × Addr)) (fp : List Addr), PE (X.blk s H scope (compEnvC scope cl C X.env) fp) elt (teOf W me)) (hs : notSet iter = true) (hs2 : notSet iter2 = true) :
    PE X (.ListComp elt [⟨tg, iter, [], 0⟩, ⟨tg2, iter2, ifs, 0⟩] scope pos) (teOf W fun s => mi s >>= fun r => lcL2 r.live t (fun s1 => mi2 s1 >>= fun r2 => lcL r2.live t2 mc me s1 r2.items) (wS (tgS t2) s) r.items >>= fun ys => if ys.length ≤ lim then mkL m ys else bad) := by
  refine PE.imp (pe_lc2 hc hN hi ok (vs1 := tgS t2) (fun i mi => by rw [ho]; exact List.mem_append_right _ mi) hg (tt := ttOf W fun _ => pure true) (fun _ _ _ _ _ => ts_nil) hi2 hg2 ht he (set_no hs) (fun _ => set_no hs2)) fun σ H Q z => ?_
  rw [ho]
  exact lc2_tr z
end
end Nv
set_option Elab.async false
set_option linter.all false
set_option maxRecDepth 100000
/-! N10: statements. -/
namespace Nv
open PySem L2 PyProof.Rows

/-- where a statement's end leads -/
def FlW (W : Wo) (φ : Ph) (h : Hs) (H : Hp) (h' : Hs) (D : Ends) : Fl → Prop
  | .nx s1 => ∀ σ' φ' H', Grow φ h H φ' h' H' → AbsH W φ' h' H' → AbsS W φ' h' H' σ' s1 → D.nx σ' H'
  | .ct s1 => ∀ σ' φ' H', Grow φ h H φ' h' H' → AbsH W φ' h' H' → AbsS W φ' h' H' σ' s1 → D.ct σ' H'
  | .brk s1 => ∀ σ' φ' H', Grow φ h H φ' h' H' → AbsH W φ' h' H' → AbsS W φ' h' H' σ' s1 → D.bk σ' H'
  | .ret v => ∀ x φ' H', Grow φ h H φ' h' H' → AbsH W φ' h' H' → RepV W φ' h' H' x v → D.rt x H'
def tsOf (W : Wo) (m : Sg → M Fl) : TS := fun D σ H => ∃ φ h s, AbsH W φ h H ∧ AbsS W φ h H σ s ∧ ∃ f h', m s h = .ok f h' ∧ FlW W φ h H h' D f
section
variable {W : Wo} {X : Cx} {φ φ1 φ' : Ph} {h h1 h' : Hs} {H H1 H' : Hp}
theorem FlW.pre {D : Ends} (g : Grow φ h H φ1 h1 H1) : ∀ {f : Fl}, FlW W φ h H h' D f → FlW W φ1 h1 H1 h' D f
  | .nx _, k => fun σ' φ' H' g2 a s => k σ' φ' H' (g.trans g2) a s
  | .ct _, k => fun σ' φ' H' g2 a s => k σ' φ' H' (g.trans g2) a s
  | .brk _, k => fun σ' φ' H' g2 a s => k σ' φ' H' (g.trans g2) a s
  | .ret _, k => fun σ' φ' H' g2 a s => k σ' φ' H' (g.trans g2) a s
theorem ss_nil : PSs X [] (tsOf W fun s => pure (.nx s)) := PSs.imp pss_nil fun D σ H ⟨φ, h, s, aH, aS, f, h', e, k⟩ => by
  obtain ⟨rfl, rfl⟩ := pure_inv e
  exact k σ φ H Grow.refl aH aS
theorem ss_cons {st : Stmt} {rest : List Stmt} {m1 m2 : Sg → M Fl} (p1 : PS X st (tsOf W m1)) (p2 : PSs X rest (tsOf W m2)) : PSs X (st :: rest) (tsOf W fun s => m1 s >>= fun f => match f with
    | .nx s1 => m2 s1
    | f => pure f) := by
  refine PSs.imp (pss_cons p1 p2) fun D σ H ⟨φ, h, s, aH, aS, f, h', e, k⟩ => ?_
  obtain ⟨f0, i1, e1, e2⟩ := bind_inv e
  refine ⟨φ, h, s, aH, aS, f0, i1, e1, ?_⟩
  cases f0 with
  | nx s1 => exact fun σ' φ' H' g a s => ⟨φ', i1, s1, a, s, f, h', e2, k.pre g⟩
  | ct s1 => obtain ⟨rfl, rfl⟩ := pure_inv (show (pure (Fl.ct s1) : M Fl) i1 = .ok f h' from e2); exact k
  | brk s1 => obtain ⟨rfl, rfl⟩ := pure_inv (show (pure (Fl.brk s1) : M Fl) i1 = .ok f h' from e2); exact k
  | ret v => obtain ⟨rfl, rfl⟩ := pure_inv (show (pure (Fl.ret v) : M Fl) i1 = .ok f h' from e2); exact k
theorem st_pass {pos : Pos} : PS X (.Pass pos) (tsOf W fun s => pure (.nx s)) := PS.imp ps_pass fun D σ H ⟨φ, h, s, aH, aS, f, h', e, k⟩ => by
  obtain ⟨rfl, rfl⟩ := pure_inv e
  exact k σ φ H Grow.refl aH aS
theorem st_brk {pos : Pos} : PS X (.Break pos) (tsOf W fun s => pure (.brk s)) := PS.imp ps_break fun D σ H ⟨φ, h, s, aH, aS, f, h', e, k⟩ => by
  obtain ⟨rfl, rfl⟩ := pure_inv e
  exact k σ φ H Grow.refl aH aS
theorem st_cont {pos : Pos} : PS X (.Continue pos) (tsOf W fun s => pure (.ct s)) := PS.imp ps_continue fun D σ H ⟨φ, h, s, aH, aS, f, h', e, k⟩ => by
  obtain ⟨rfl, rfl⟩ := pure_inv e
  exact k σ φ H Grow.refl aH aS
theorem st_never {st : Stmt} : PS X st (tsOf W fun _ => bad) := PS.imp ps_never fun D σ H ⟨φ, h, s, aH, aS, f, h', e, k⟩ => bad_ne e
theorem st_ex {e : Expr} {m : Sg → M Val} {pos : Pos} (hc : notComp e = true) (p : PE X e (teOf W m)) : PS X (.Expr e pos) (tsOf W fun s => m s >>= fun _ => pure (.nx s)) := by
  refine PS.imp (ps_expr p (swaps_no hc)) fun D σ H ⟨φ, h, s, aH, aS, f, h', e, k⟩ => ?_
  obtain ⟨v, i1, e1, e2⟩ := bind_inv e
  obtain ⟨rfl, rfl⟩ := pure_inv e2
  exact ⟨φ, h, s, aH, aS, v, i1, e1, fun x φ' H' g a r => k σ φ' H' g a (aS.grow g)⟩
theorem st_ret {e : Expr} {m : Sg → M Val} {pos : Pos} (p : PE X e (teOf W m)) : PS X (.Return (some e) pos) (tsOf W fun s => m s >>= fun x => pure (.ret x)) := by
  refine PS.imp (ps_ret p) fun D σ H ⟨φ, h, s, aH, aS, f, h', e, k⟩ => ?_
  obtain ⟨v, i1, e1, e2⟩ := bind_inv e
  obtain ⟨rfl, rfl⟩ := pure_inv e2
  exact ⟨φ, h, s, aH, aS, v, i1, e1, fun x φ' H' g a r => k x φ' H' g a r⟩
theorem st_retn {pos : Pos} : PS X (.Return none pos) (tsOf W fun _ => pure (.ret (.d .none))) := PS.imp ps_retN fun D σ H ⟨φ, h, s, aH, aS, f, h', e, k⟩ => by
  obtain ⟨rfl, rfl⟩ := pure_inv e
  exact k .non φ H Grow.refl aH (show RepD _ _ _ _ _ from .non)
theorem st_set (hN : X.N.Nodup) {i : Nat} {x : Str} {e : Expr} {m : Sg → M Val} {p' pos : Pos} (hi : X.N[i]? = some x) (hx : Loc X.env.scope x) (hf : X.fn x = true ∨ X.env.scope.names.lookup x = some .local) (hs : swapsWith e (some (.Name x p')) pos.line X.env = pure false) (p : PE X e (teOf W m)) :
    PS X (.Assign [.Name x p'] e pos) (tsOf W fun s => m s >>= fun x => pure (.nx (s.set i (some x)))) := by
  refine PS.imp (ps_set hN hi hx p hs hf) fun D σ H ⟨φ, h, s, aH, aS, f, h', e, k⟩ => ?_
  obtain ⟨v, i1, e1, e2⟩ := bind_inv e
  obtain ⟨rfl, rfl⟩ := pure_inv e2
  exact ⟨φ, h, s, aH, aS, v, i1, e1, fun x φ' H' g a r => k _ φ' H' g a ((aS.grow g).set r i)⟩
/-- a comprehension stored on its line -/
theorem st_setLc (hK : X.K = W.K) (hc : X.calm = true) (hN : X.N.Nodup) {i : Nat} {y : Str} {py spos : Pos} {t : Tgt} {m : Bool} {mi : Sg → M Src} {mc : Sg → M Bool} {me : Sg → M Val} {elt tg iter : Expr} {ifs : List Expr} {scope : Scope} {own : List (Str × Nat)} {pos : Pos} (hy : X.N[i]? = some y) (hyl : X.env.scope.names.lookup y = some .local)
    (hsw : swapsWith (.ListComp elt [⟨tg, iter, ifs, 0⟩] scope pos) (some (.Name y py)) spos.line X.env = pure true) (hi : PI X tg iter (tiOf W mi)) (ok : BlkOk X.N X.env.scope scope own)
    (ho : own.map (·.2) = tgS t) (hg : ∀ (s : Shared) (H : Hp) (C : Addr) (cl : List (Str × Addr)) (fp : List Addr), PG (X.blk s H scope (compEnvC scope cl C X.env) fp) tg (tgT W.K t))
    (ht : ∀ (s : Shared) (H : Hp) (C : Addr) (cl : List (Str × Addr)) (fp : List Addr), PTs (X.blk s H scope (compEnvC scope cl C X.env) fp) ifs (ttOf W mc))
    (he : ∀ (s : Shared) (H : Hp) (C : Addr) (cl : List (Str × Addr)) (fp : List Addr), PE (X.blk s H scope (compEnvC scope cl C X.env) fp) elt (teOf W me)) (hs : notSet iter = true) :
    PS X (.Assign [.Name y py] (.ListComp elt [⟨tg, iter, ifs, 0⟩] scope pos) spos) (tsOf W fun s => (mi s >>= fun r => lcL r.live t mc me s r.items >>= fun ys => mkL m ys) >>= fun x => pure (.nx (s.set i (some x)))) := by
  refine PS.imp (ps_setLc hc hN hy hyl hsw hi ok hg ht he (set_no hs)) fun D σ H ⟨φ, h, s, aH, aS, f, h', e, k⟩ => ?_
  obtain ⟨v, i1, e1, e2⟩ := bind_inv e
  obtain ⟨rfl, rfl⟩ := pure_inv e2
  show tLc _ _ _ _ _ σ H _
  rw [ho]
  exact lc_tr (m := m) ⟨φ, h, s, aH, aS, v, i1, e1, fun x φ' H' g a r => k _ φ' H' g a ((aS.grow g).set r i)⟩
theorem st_setLc2 (hK : X.K = W.K) (hc : X.calm = true) (hN : X.N.Nodup) {i : Nat} {y : Str} {py spos : Pos} {t t2 : Tgt} {m : Bool} {mi mi2 : Sg → M Src} {mc : Sg → M Bool} {me : Sg → M Val} {elt tg iter tg2 iter2 : Expr} {ifs : List Expr} {scope : Scope} {own : List (Str × Nat)} {pos : Pos} (hy : X.N[i]? = some y) (hyl : X.env.scope.names.lookup y = some .local)
    (hsw : swapsWith (.ListComp elt [⟨tg, iter, [], 0⟩, ⟨tg2, iter2, ifs, 0⟩] scope pos) (some (.Name y py)) spos.line X.env = pure true) (hi : PI X tg iter (tiOf W mi)) (ok : BlkOk X.N X.env.scope scope own)
    (ho : own.map (·.2) = tgS t ++ tgS t2) (hg : ∀ (s : Shared) (H : Hp) (C : Addr) (cl : List (Str × Addr)) (fp : List Addr), PG (X.blk s H scope (compEnvC scope cl C X.env) fp) tg (tgT W.K t))
    (hi2 : ∀ (s : Shared) (H : Hp) (C : Addr) (cl : List (Str × Addr)) (fp : List Addr), PI (X.blk s H scope (compEnvC scope cl C X.env) fp) tg2 iter2 (tiOf W mi2))
    (hg2 : ∀ (s : Shared) (H : Hp) (C : Addr) (cl : List (Str × Addr)) (fp : List Addr), PG (X.blk s H scope (compEnvC scope cl C X.env) fp) tg2 (tgT W.K t2))
    (ht : ∀ (s : Shared) (H : Hp) (C : Addr) (cl : List (Str × Addr)) (fp : List Addr), PTs (X.blk s H scope (compEnvC scope cl C X.env) fp) ifs (ttOf W mc))
    (he : ∀ (s : Shared) (H : Hp) (C : Addr) (cl : List (Str × Addr)) (fp : List Addr), PE (X.blk s H scope (compEnvC scope cl C X.env) fp) elt (teOf W me)) (hs : notSet iter = true) (hs2 : notSet iter2 = true) :
    PS X (.Assign [.Name y py] (.ListComp elt [⟨tg, iter, [], 0⟩, ⟨tg2, iter2, ifs, 0⟩] scope pos) spos) (tsOf W fun s => (mi s >>= fun r => lcL2 r.live t (fun s1 => mi2 s1 >>= fun r2 => lcL r2.live t2 mc me s1 r2.items) (wS (tgS t2) s) r.items >>= fun ys => if ys.length ≤ lim then mkL m ys else bad) >>= fun x => pure (.nx (s.set i (some x)))) := by
  refine PS.imp (ps_setLc2 hc hN hy hyl hsw hi ok (vs1 := tgS t2) (fun i mi => by rw [ho]; exact List.mem_append_right _ mi) hg (tt := ttOf W fun _ => pure true) (fun _ _ _ _ _ => ts_nil) hi2 hg2 ht he (set_no hs) (fun _ => set_no hs2)) fun D σ H ⟨φ, h, s, aH, aS, f, h', e, k⟩ => ?_
  obtain ⟨v, i1, e1, e2⟩ := bind_inv e
  obtain ⟨rfl, rfl⟩ := pure_inv e2
  show tLc2 _ _ _ _ _ _ _ _ _ σ H _
  rw [ho]
  exact lc2_tr (m := m) ⟨φ, h, s, aH, aS, v, i1, e1, fun x φ' H' g a r => k _ φ' H' g a ((aS.grow g).set r i)⟩
/-- a target's value -/
theorem st_unp {t : Tgt} {tg e : Expr} {m : Sg → M Val} {pos : Pos} (hK : X.K = W.K) (hg : PG X tg (tgT W.K t)) (hs : swapsWithSole [tg] e pos.line X.env = pure false) (hw : swappedStores [tg] e X.env = pure none) (h1 : (assignEach [tg] X.env).map (·.2) = [assign tg X.env]) (p : PE X e (teOf W m)) :
    PS X (.Assign [tg] e pos) (tsOf W fun s => m s >>= fun x => asg t x s >>= fun s1 => pure (.nx s1)) := by
  refine PS.imp (ps_asg p hg hs hw h1) fun D σ H ⟨φ, h, s, aH, aS, f, h', e, k⟩ => ?_
  obtain ⟨v, i1, e1, e2⟩ := bind_inv e
  obtain ⟨s1, i2, e3, e4⟩ := bind_inv e2
  obtain ⟨rfl, rfl⟩ := pure_inv e4
  refine ⟨φ, h, s, aH, aS, v, i1, e1, fun x φ' H' g a r => ?_⟩
  obtain ⟨rfl, σ1, aσ, _, _, q⟩ := tg_ok ((aS.grow g).absX fun _ => False) (fun _ z => z.elim) r e3
  exact q _ (k σ1 φ' H' g a aσ)
theorem st_sti {o i e : Expr} {mo mi m : Sg → M Val} {pos p2 : Pos} (hu : X.A.units + 1 < cLine) (ns : notSlice i = true) (hs : swapsWithSole [.Subscript o i p2] e pos.line X.env = pure false) (hw : swappedStores [.Subscript o i p2] e X.env = pure none)
    (ha : ∀ v, assign (.Subscript o i p2) X.env v = (do
      let ov ← holding [v] (eval o X.env)
      let iv ← holding [v, ov] (eval i X.env)
      standAt p2
      holding [v, ov, iv] (setItem ov iv v)
      release [v, ov, iv] []))
    (h1 : (assignEach [.Subscript o i p2] X.env).map (·.2) = [assign (.Subscript o i p2) X.env]) (p : PE X e (teOf W m)) (po : PE X o (teOf W mo)) (pi : PE X i (teOf W mi)) :
    PS X (.Assign [.Subscript o i p2] e pos) (tsOf W fun s => m s >>= fun v => mo s >>= fun x => mi s >>= fun k => stV x k v >>= fun _ => pure (.nx s)) := by
  refine PS.imp (ps_asg p (pg_sub po pi (set_all hu) ha) hs hw h1) fun D σ H ⟨φ, h, s, aH, aS, f, h', e, k⟩ => ?_
  obtain ⟨v, i1, e1, e2⟩ := bind_inv e
  obtain ⟨x, i2, e3, e4⟩ := bind_inv e2
  obtain ⟨kv, i3, e5, e6⟩ := bind_inv e4
  obtain ⟨u, i4, e7, e8⟩ := bind_inv e6
  obtain ⟨rfl, rfl⟩ := pure_inv e8
  exact ⟨φ, h, s, aH, aS, v, i1, e1, fun v' φ1 H1 g1 a1 r1 => ⟨φ1, i1, s, a1, aS.grow g1, x, i2, e3, fun x' φ2 H2 g2 a2 r2 => ⟨φ2, i2, s, a2, aS.grow (g1.trans g2), kv, i3, e5, fun k' φ3 H3 g3 a3 r3 =>
    s_st a3 (r2.grow g3) r3 ((r1.grow g2).grow g3) e7 fun φ' H' g a => k σ φ' H' (((g1.trans g2).trans g3).trans g) a (aS.grow (((g1.trans g2).trans g3).trans g))⟩⟩⟩
theorem st_ite (hK : X.K = W.K) {c : Expr} {a b : List Stmt} {mc : Sg → M Val} {ma mb : Sg → M Fl} {pos : Pos} (hc : PT X c (ttOf W (tst mc))) (ha : PSs X a (tsOf W ma)) (hb : PSs X b (tsOf W mb)) :
    PS X (.If c a b pos) (tsOf W fun s => mc s >>= fun x => truth x >>= fun t => if t = true then ma s else mb s) := by
  refine PS.imp (ps_if hc ha hb) fun D σ H ⟨φ, h, s, aH, aS, f, h', e, k⟩ => ?_
  obtain ⟨x, b, i1, e1, e2, e3⟩ := te_tru e
  refine ⟨φ, h, s, aH, aS, b, i1, (by show (mc s >>= fun x => truth x) h = _; rw [bind_ap, e1, bnd_ok, e2]), fun φ1 H1 g1 a1 => ?_⟩
  cases b with
  | true => exact iteT ⟨φ1, i1, s, a1, aS.grow g1, f, h', e3, k.pre g1⟩
  | false => exact iteF ⟨φ1, i1, s, a1, aS.grow g1, f, h', e3, k.pre g1⟩
theorem whl_inv {c : Sg → M Bool} {b : Sg → M Fl} {n : Nat} {s : Sg} {f : Fl} (e : whlN c b n s h = .ok f h') : ∃ m, n = m + 1 ∧ ∃ t i1, c s h = .ok t i1 ∧ ((t = false ∧ f = .nx s ∧ i1 = h') ∨ (t = true ∧ ∃ f0 i2, b s i1 = .ok f0 i2 ∧
    ((∃ s1, (f0 = .nx s1 ∨ f0 = .ct s1) ∧ whlN c b m s1 i2 = .ok f h') ∨ (∃ s1, f0 = .brk s1 ∧ f = .nx s1 ∧ i2 = h') ∨ (∃ v, f0 = .ret v ∧ f = .ret v ∧ i2 = h')))) := by
  cases n with
  | zero => exact bad_ne e
  | succ m =>
    obtain ⟨t, i1, e1, e2⟩ := bind_inv (show (c s >>= fun t => if t = true then (b s >>= fun f => match f with
      | .nx s1 => whlN c b m s1
      | .ct s1 => whlN c b m s1
      | .brk s1 => pure (.nx s1)
      | .ret v => pure (.ret v)) else pure (.nx s)) h = .ok f h' from e)
    refine ⟨m, rfl, t, i1, e1, ?_⟩
    cases t with
    | false =>
      obtain ⟨rfl, rfl⟩ := pure_inv (show (pure (Fl.nx s) : M Fl) i1 = .ok f h' from e2)
      exact .inl ⟨rfl, rfl, rfl⟩
    | true =>
      obtain ⟨f0, i2, e3, e4⟩ := bind_inv (show (b s >>= fun f => match f with
        | .nx s1 => whlN c b m s1
        | .ct s1 => whlN c b m s1
        | .brk s1 => pure (.nx s1)
        | .ret v => pure (.ret v)) i1 = .ok f h' from e2)
      refine .inr ⟨rfl, f0, i2, e3, ?_⟩
      cases f0 with
      | nx s1 => exact .inl ⟨s1, .inl rfl, e4⟩
      | ct s1 => exact .inl ⟨s1, .inr rfl, e4⟩
      | brk s1 => obtain ⟨rfl, rfl⟩ := pure_inv (show (pure (Fl.nx s1) : M Fl) i2 = .ok f h' from e4); exact .inr (.inl ⟨s1, rfl, rfl, rfl⟩)
      | ret v => obtain ⟨rfl, rfl⟩ := pure_inv (show (pure (Fl.ret v) : M Fl) i2 = .ok f h' from e4); exact .inr (.inr ⟨v, rfl, rfl, rfl⟩)
theorem st_whl (hp : PassesOwn (model X.prog X.w) X.A X.env X.xe) {c : Expr} {body : List Stmt} {mc : Sg → M Bool} {mb : Sg → M Fl} {n : Nat} {pos : Pos} (hc : PT X c (ttOf W mc)) (hb : PSs X body (tsOf W mb)) :
    PS X (.While c body [] pos) (tsOf W fun s => whlN mc mb n s) := by
  refine PS.imp (ps_while hp hc hb) fun D σ H ⟨φ0, h0, s0, a0, s0A, f, h', e, k⟩ => ?_
  refine ⟨fun m σ H1 => ∃ φ1 h1 s1, Grow φ0 h0 H φ1 h1 H1 ∧ AbsH W φ1 h1 H1 ∧ AbsS W φ1 h1 H1 σ s1 ∧ whlN mc mb m s1 h1 = .ok f h', ⟨n, φ0, h0, s0, Grow.refl, a0, s0A, e⟩, ?_⟩
  rintro m σ1 H1 ⟨φ1, h1, s1, g1, a1, aS1, e1⟩
  obtain ⟨m1, rfl, t, i1, e2, e3⟩ := whl_inv e1
  refine ⟨φ1, h1, s1, a1, aS1, t, i1, e2, fun φ2 H2 g2 a2 => ?_⟩
  rcases e3 with ⟨rfl, rfl, rfl⟩ | ⟨rfl, f0, i2, e4, e5⟩
  · exact iteF (k σ1 φ2 H2 (g1.trans g2) a2 (aS1.grow g2))
  · refine iteT ⟨fun σ' H' => ∃ φ1 h1 s1, Grow φ0 h0 H φ1 h1 H' ∧ AbsH W φ1 h1 H' ∧ AbsS W φ1 h1 H' σ' s1 ∧ whlN mc mb m1 s1 h1 = .ok f h', fun σ' H' z => ⟨m1, Nat.lt_succ_self _, z⟩, φ2, i1, s1, a2, aS1.grow g2, f0, i2, e4, ?_⟩
    rcases e5 with ⟨s2, rfl | rfl, e6⟩ | ⟨s2, rfl, rfl, rfl⟩ | ⟨v, rfl, rfl, rfl⟩
    · exact fun σ' φ' H' g a s => ⟨φ', i2, s2, (g1.trans g2).trans g, a, s, e6⟩
    · exact fun σ' φ' H' g a s => ⟨φ', i2, s2, (g1.trans g2).trans g, a, s, e6⟩
    · exact fun σ' φ' H' g a s => k σ' φ' H' ((g1.trans g2).trans g) a s
    · exact fun x φ' H' g a r => k x φ' H' ((g1.trans g2).trans g) a r
theorem fr_cons {l : Option (Nat × AO)} {t : Tgt} {b : Sg → M Fl} {s : Sg} {x : Val} {xs : List Val} {f : Fl} (he : frL l t b (x :: xs) s h = .ok f h') :
    stays l h ∧ ∃ s1 i1 f0 i2, asg t x s h = .ok s1 i1 ∧ b s1 i1 = .ok f0 i2 ∧
    ((∃ s2, (f0 = .nx s2 ∨ f0 = .ct s2) ∧ frL l t b xs s2 i2 = .ok f h') ∨ (∃ s2, f0 = .brk s2 ∧ f = .nx s2 ∧ i2 = h') ∨ (∃ v, f0 = .ret v ∧ f = .ret v ∧ i2 = h')) := by
  obtain ⟨u, h1, e1, e2⟩ := bind_inv (show (staysM l >>= fun _ => asg t x s >>= fun s1 => b s1 >>= fun f => match f with
    | .nx s2 => frL l t b xs s2
    | .ct s2 => frL l t b xs s2
    | .brk s2 => pure (.nx s2)
    | .ret v => pure (.ret v)) h = .ok f h' from he)
  obtain ⟨rfl, st⟩ := staysM_inv e1
  obtain ⟨s1, i1, e3, e4⟩ := bind_inv e2
  obtain ⟨f0, i2, e5, e6⟩ := bind_inv e4
  refine ⟨st, s1, i1, f0, i2, e3, e5, ?_⟩
  cases f0 with
  | nx s2 => exact .inl ⟨s2, .inl rfl, e6⟩
  | ct s2 => exact .inl ⟨s2, .inr rfl, e6⟩
  | brk s2 => obtain ⟨rfl, rfl⟩ := pure_inv (show (pure (Fl.nx s2) : M Fl) i2 = .ok f h' from e6); exact .inr (.inl ⟨s2, rfl, rfl, rfl⟩)
  | ret v => obtain ⟨rfl, rfl⟩ := pure_inv (show (pure (Fl.ret v) : M Fl) i2 = .ok f h' from e6); exact .inr (.inr ⟨v, rfl, rfl, rfl⟩)
theorem st_fr (hK : X.K = W.K) (hp : PassesOwn (model X.prog X.w) X.A X.env X.xe) (hc : X.calm = true) {t : Tgt} {tg iter : Expr} {body : List Stmt} {mi : Sg → M Src} {mb : Sg → M Fl} {pos : Pos} (hi : PI X tg iter (tiOf W mi)) (hg : PG X tg (tgT W.K t)) (hb : PSs X body (tsOf W mb)) (hs : notSet iter = true) :
    PS X (.For tg iter body [] pos) (tsOf W fun s => mi s >>= fun r => frL r.live t mb r.items s) := by
  refine PS.imp (ps_for hp hc hi hg hb (set_no hs)) fun D σ H ⟨φ, h, s, aH, aS, f, h', e0, k⟩ => ?_
  obtain ⟨r, i1, e1, e2⟩ := bind_inv e0
  refine ⟨φ, h, s, aH, aS, r, i1, e1, fun J φ0 H0 g0 a0 wk => ?_⟩
  refine ⟨fun i m σ H => ∃ (φ1 : Ph) (h1 : Hs) (s1 : Sg), m = r.items.length - i ∧ i ≤ r.items.length ∧ Grow φ0 i1 H0 φ1 h1 H ∧ AbsH W φ1 h1 H ∧ AbsS W φ1 h1 H σ s1 ∧ frL r.live t mb (r.items.drop i) s1 h1 = .ok f h',
    ⟨r.items.length, φ0, i1, s, by simp, Nat.zero_le _, Grow.refl, a0, aS.grow g0, by rw [List.drop_zero]; exact e2⟩, ?_⟩
  rintro i mm σ1 H ⟨φ1, h1, s1, rfl, hi2, g1, a1, aS1, el⟩
  by_cases hlt : i < r.items.length
  · rw [List.drop_eq_getElem_cons hlt] at el
    obtain ⟨st, s2, j1, f0, j2, e5, e6, e7⟩ := fr_cons el
    have hv : r.items[i]? = some r.items[i] := List.getElem?_eq_getElem hlt
    obtain ⟨go, yl⟩ := wk.go φ1 h1 H g1.toGr0 a1 st i _ hv
    refine .inr ⟨go, fun σ' H' => ∃ (φ1 : Ph) (h1 : Hs) (s1 : Sg), Grow φ0 i1 H0 φ1 h1 H' ∧ AbsH W φ1 h1 H' ∧ AbsS W φ1 h1 H' σ' s1 ∧ frL r.live t mb (r.items.drop (i + 1)) s1 h1 = .ok f h', fun σ' H' ⟨φ2, h2, s2, p⟩ => ⟨r.items.length - (i + 1), by omega, φ2, h2, s2, rfl, hlt, p⟩, fun x H' y => ?_⟩
    obtain ⟨g2, a2, rx⟩ := yl x H' y
    obtain ⟨rfl, σ2, aσ, _, _, qσ⟩ := tg_ok ((aS1.grow g2).absX fun _ => False) (fun _ z => z.elim) rx e5
    refine qσ _ ⟨φ1, _, s2, a2, aσ, f0, j2, e6, ?_⟩
    rcases e7 with ⟨s3, rfl | rfl, e8⟩ | ⟨s3, rfl, rfl, rfl⟩ | ⟨v, rfl, rfl, rfl⟩
    · exact fun σ' φ' H' g a s => ⟨φ', j2, s3, (g1.trans g2).trans g, a, s, e8⟩
    · exact fun σ' φ' H' g a s => ⟨φ', j2, s3, (g1.trans g2).trans g, a, s, e8⟩
    · exact fun σ' φ' H' g a s => k σ' φ' H' (((g0.trans g1).trans g2).trans g) a s
    · exact fun x φ' H' g a r => k x φ' H' (((g0.trans g1).trans g2).trans g) a r
  · have hi3 : i = r.items.length := by omega
    subst hi3
    rw [List.drop_eq_nil_of_le (Nat.le_refl _)] at el
    obtain ⟨u, j1, e5, e6⟩ := bind_inv (show (staysM r.live >>= fun _ => (pure (.nx s1) : M Fl)) h1 = .ok f h' from el)
    obtain ⟨rfl, st⟩ := staysM_inv e5
    obtain ⟨rfl, rfl⟩ := pure_inv e6
    exact .inl ⟨wk.stop φ1 _ H g1.toGr0 a1 st, k σ1 φ1 H (g0.trans g1) a1 aS1⟩
/-! several names at once -/
theorem setL_ok : ∀ {is : List Nat} {xs : List V} {vs : List Val} {σ : L2.St} {s s1 : Sg}, AbsS W φ h H σ s → RepVs W φ h H xs vs → setL is vs s = some s1 → ∃ σ1, AbsS W φ h H σ1 s1 ∧ ∀ Q : L2.St → Hp → Prop, Q σ1 H → gsT is xs σ H Q
  | [], _, [], σ, s, s1, a, .nil, e => by
    cases e
    exact ⟨σ, a, fun Q q => ⟨rfl, q⟩⟩
  | [], _, _ :: _, _, _, _, _, _, e => by cases e
  | _ :: _, _, [], _, _, _, _, _, e => by cases e
  | i :: is, x :: xs, v :: vs, σ, s, s1, a, .cons r t, e => by
    obtain ⟨σ1, a1, q1⟩ := setL_ok (a.set r i) t (show setL is vs (s.set i (some v)) = some s1 from e)
    exact ⟨σ1, a1, fun Q q => ⟨x, xs, rfl, q1 Q q⟩⟩
theorem setL_len : ∀ {is : List Nat} {vs : List Val} {s s1 : Sg}, setL is vs s = some s1 → is.length = vs.length
  | [], [], _, _, _ => rfl
  | [], _ :: _, _, _, e => by cases e
  | _ :: _, [], _, _, e => by cases e
  | i :: is, v :: vs, s, s1, e => congrArg (· + 1) (setL_len (show setL is vs (s.set i (some v)) = some s1 from e))
/-- by a tuple that is laid and taken apart -/
theorem st_parT (hK : X.K = W.K) {is : List Nat} {tg : Expr} {es : List Expr} {ms : Sg → M (List Val)} {k2 : Nat} {pt pos : Pos} (hg : PG X tg (gTup X.K is.length (gsT is))) (hs : swapsWithSole [tg] (.Tuple es k2 pt) pos.line X.env = pure false) (hw : swappedStores [tg] (.Tuple es k2 pt) X.env = pure none)
    (h1 : (assignEach [tg] X.env).map (·.2) = [assign tg X.env]) (hl : is.length ≤ lim) (p : PA X es (taOf W ms)) :
    PS X (.Assign [tg] (.Tuple es k2 pt) pos) (tsOf W fun s => ms s >>= fun vs => optM (setL is vs s) >>= fun s1 => pure (.nx s1)) := by
  refine PS.imp (ps_asg (pe_tup p) hg hs hw h1) fun D σ H ⟨φ, h, s, aH, aS, f, h', e, k⟩ => ?_
  obtain ⟨vs, i1, e1, e2⟩ := bind_inv e
  obtain ⟨s1, i2, e3, e4⟩ := bind_inv e2
  obtain ⟨rfl, e5⟩ := optM_inv e3
  obtain ⟨rfl, rfl⟩ := pure_inv e4
  refine ⟨φ, h, s, aH, aS, vs, _, e1, fun xs φ1 H1 g1 a1 r1 => ?_⟩
  have hn : xs.length = is.length := by rw [RepVs.length r1, setL_len e5]
  refine ⟨by rw [hn]; exact hl, fun p hp => ?_⟩
  have g2 : Grow φ1 _ H1 φ1 _ (upd H1 p (.tup xs)) := Grow.fresh a1 hp
  obtain ⟨σ1, a2, q⟩ := setL_ok ((aS.grow g1).grow g2) (RepVs.grow g2 r1) e5
  exact ⟨p, xs, rfl, .inl (.inl upd_same), hn, q _ (k σ1 φ1 _ (g1.trans g2) (a1.fresh hp) a2)⟩
theorem st_par2 (hc : X.calm = true) (hN : X.N.Nodup) {i j : Nat} {x y : Str} {a b : Expr} {ms : Sg → M (List Val)} {px py pt pos : Pos} {kt k2 pt2} (hi : X.N[i]? = some x) (hj : X.N[j]? = some y) (hij : i ≠ j)
    (hx : X.env.scope.names.lookup x = some .local) (hy : X.env.scope.names.lookup y = some .local) (p : PA X [a, b] (taOf W ms))
    (hw : swappedStores [.Tuple [.Name x px, .Name y py] kt pt] (.Tuple [a, b] k2 pt2) X.env = pure (some [x, y])) :
    PS X (.Assign [.Tuple [.Name x px, .Name y py] kt pt] (.Tuple [a, b] k2 pt2) pos) (tsOf W fun s => ms s >>= fun vs => optM (setL [i, j] vs s) >>= fun s1 => pure (.nx s1)) := by
  refine PS.imp (ps_par hc hN hi hj hij hx hy p hw) fun D σ H ⟨φ, h, s, aH, aS, f, h', e, k⟩ => ?_
  obtain ⟨vs, i1, e1, e2⟩ := bind_inv e
  obtain ⟨s1, i2, e3, e4⟩ := bind_inv e2
  obtain ⟨rfl, e5⟩ := optM_inv e3
  obtain ⟨rfl, rfl⟩ := pure_inv e4
  refine ⟨φ, h, s, aH, aS, vs, _, e1, fun xs φ1 H1 g1 a1 r1 => ?_⟩
  obtain ⟨σ1, a2, q⟩ := setL_ok (aS.grow g1) r1 e5
  obtain ⟨v, r, rfl, w, r', rfl, rfl, q3⟩ := q (fun σ' H' => D.nx σ' H') (k σ1 φ1 H1 g1 a1 a2)
  exact ⟨v, w, rfl, q3⟩
theorem st_par3 (hc : X.calm = true) (hN : X.N.Nodup) {i j l : Nat} {x y z : Str} {a b c : Expr} {ms : Sg → M (List Val)} {px py pz pt pos : Pos} {kt k2 pt2} (hi : X.N[i]? = some x) (hj : X.N[j]? = some y) (hl : X.N[l]? = some z) (hij : i ≠ j) (hil : i ≠ l) (hjl : j ≠ l)
    (hx : X.env.scope.names.lookup x = some .local) (hy : X.env.scope.names.lookup y = some .local) (hz : X.env.scope.names.lookup z = some .local) (p : PA X [a, b, c] (taOf W ms))
    (hw : swappedStores [.Tuple [.Name x px, .Name y py, .Name z pz] kt pt] (.Tuple [a, b, c] k2 pt2) X.env = pure (some [x, y, z])) :
    PS X (.Assign [.Tuple [.Name x px, .Name y py, .Name z pz] kt pt] (.Tuple [a, b, c] k2 pt2) pos) (tsOf W fun s => ms s >>= fun vs => optM (setL [i, j, l] vs s) >>= fun s1 => pure (.nx s1)) := by
  refine PS.imp (ps_par3 hc hN hi hj hl hij hil hjl hx hy hz p hw) fun D σ H ⟨φ, h, s, aH, aS, f, h', e, k⟩ => ?_
  obtain ⟨vs, i1, e1, e2⟩ := bind_inv e
  obtain ⟨s1, i2, e3, e4⟩ := bind_inv e2
  obtain ⟨rfl, e5⟩ := optM_inv e3
  obtain ⟨rfl, rfl⟩ := pure_inv e4
  refine ⟨φ, h, s, aH, aS, vs, _, e1, fun xs φ1 H1 g1 a1 r1 => ?_⟩
  obtain ⟨σ1, a2, q⟩ := setL_ok (aS.grow g1) r1 e5
  obtain ⟨v, r, rfl, w, r', rfl, u, r'', rfl, rfl, q3⟩ := q (fun σ' H' => D.nx σ' H') (k σ1 φ1 H1 g1 a1 a2)
  exact ⟨v, w, u, rfl, q3⟩
/-! x op= e -/
def rNoI : R2 := fun _ _ _ _ => False
def rIAdd : R2 := fun x y H Q => (∃ i j, x = .int i ∧ y = .int j ∧ Q (.int (i + j)) H) ∨ ∃ i j, x = .str i ∧ y = .str j ∧ i.length + j.length ≤ sizeLine ∧ Q (.str (i ++ j)) H
theorem op_iop (o : Bop) : ∃ r : R2, PIp X (bopO o) r ∧ R2S W r (iop o) := by
  have no : (∀ v w, iop o v w = bad) → ∃ r : R2, PIp X (bopO o) r ∧ R2S W r (iop o) := fun hb => ⟨rNoI, fun pins s σ H x y v u Q I rx ry h => h.elim, fun φ h H x y v w z h' Q a rx ry e k => by rw [hb] at e; exact bad_ne e⟩
  cases o with
  | add =>
    refine ⟨rIAdd, fun pins s σ H x y v u Q I rx ry h => ?_, fun φ h H x y v w z h' Q a rx ry e k => ?_⟩
    · rcases h with h | h
      · exact iop_add pins s σ H x y v u Q I rx ry h
      · exact iop_add_str pins s σ H x y v u Q I rx ry h
    · cases v with
      | r => exact bad_ne e
      | d v =>
        cases w with
        | r => cases v <;> exact bad_ne e
        | d w =>
          cases v <;> cases w <;> first | (exact bad_ne e) | skip
          · obtain ⟨rfl, rfl⟩ := pure_inv e
            cases rx.d.int_inv
            cases ry.d.int_inv
            exact .inl ⟨_, _, rfl, rfl, k.int a⟩
          · obtain ⟨hl, e1⟩ := ite_inv e
            obtain ⟨rfl, rfl⟩ := pure_inv e1
            obtain ⟨rfl, l1, o1⟩ := rx.d.str_inv
            obtain ⟨rfl, l2, o2⟩ := ry.d.str_inv
            exact .inr ⟨_, _, rfl, rfl, hl, k.str a (by rw [len_app]; exact hl) (strOk_app o1 o2)⟩
  | sub =>
    refine ⟨_, iop_sub, fun φ h H x y v w z h' Q a rx ry e k => ?_⟩
    cases v with
    | r => exact bad_ne e
    | d v =>
      cases w with
      | r => cases v <;> exact bad_ne e
      | d w =>
        cases v <;> cases w <;> first | (exact bad_ne e) | skip
        obtain ⟨rfl, rfl⟩ := pure_inv e
        cases rx.d.int_inv
        cases ry.d.int_inv
        exact ⟨_, _, rfl, rfl, k.int a⟩
  | _ => exact no fun v w => by unfold iop; cases v <;> first | rfl | (rename_i x; cases x <;> first | rfl | (cases w <;> first | rfl | (rename_i y; cases y <;> rfl)))
theorem st_aug (hN : X.N.Nodup) {i : Nat} {x : Str} {e : Expr} {m : Sg → M Val} {p' pos : Pos} (o : Bop) (hi : X.N[i]? = some x) (hx : Loc X.env.scope x) (hf : X.fn x = true ∨ X.env.scope.names.lookup x = some .local) (p : PE X e (teOf W m)) :
    PS X (.AugAssign (.Name x p') (bopO o) e pos) (tsOf W fun s => varV s i >>= fun x => m s >>= fun y => iop o x y >>= fun z => pure (.nx (s.set i (some z)))) := by
  obtain ⟨r, h1, h2⟩ := op_iop (W := W) (X := X) o
  refine PS.imp (ps_aug hN hi hx p h1 hf) fun D σ H ⟨φ, h, s, aH, aS, f, h', e, k⟩ => ?_
  obtain ⟨x, i1, e1, e2⟩ := bind_inv e
  obtain ⟨y, i2, e3, e4⟩ := bind_inv e2
  obtain ⟨z, i3, e5, e6⟩ := bind_inv e4
  obtain ⟨rfl, rfl⟩ := pure_inv e6
  obtain ⟨rfl, e7⟩ := optM_inv (show optM (s[i]?).join h = .ok x i1 from e1)
  obtain ⟨xv, e8, rx⟩ := aS.at_ i x (by
    cases q : s[i]? with
    | none => rw [q] at e7; cases e7
    | some o => rw [q] at e7; exact congrArg some e7)
  exact ⟨xv, e8, φ, _, s, aH, aS, y, i2, e3, fun y' φ1 H1 g1 a1 r1 => h2 φ1 i2 H1 xv y' x y z i3 _ a1 (rx.grow g1) r1 e5 fun u φ' H' g a r => k _ φ' H' (g1.trans g) a ((aS.grow (g1.trans g)).set r i)⟩
end
end Nv
set_option Elab.async false
set_option linter.all false
set_option maxRecDepth 100000
/-! N11: an expression of the text and one of N1's language, compared. -/
namespace Nv
open PySem L2 PyProof.Rows

/-- what is known where an expression stands -/
structure Ck where
  N : List Str
  sc : Scope
  /-- cells that may be written -/
  fn : Str → Bool
  /-- the program's functions, by number -/
  fns : List Str
  /-- calls with keywords: function, positional arguments, keywords, their order -/
  kws : List (Nat × Nat × List Str × List Nat)
  gls : List Str
  /-- the built-in names that no global name hides -/
  free : List Str
  /-- dicts with tuple keys are asked for -/
  tk : Bool := false
def Ck.blk (c : Ck) (s : Scope) : Ck := { c with sc := relS s c.sc, fn := fun x => s.names.lookup x == some .cell }
def nmOk (x : Str) : Bool := !(x == ("__debug__" : Str)) && !(x == ("__classdict__" : Str))
def visB (c : Ck) (x : Str) : Bool := match c.sc.names.lookup x with
  | some .local => true
  | some .cell => true
  | some .free => true
  | _ => false
def locB (c : Ck) (x : Str) : Bool := match c.sc.names.lookup x with
  | some .local => true
  | some .cell => c.fn x
  | _ => false
def glB (c : Ck) (x : Str) : Bool := match c.sc.names.lookup x with
  | some .globalImplicit => true
  | _ => false
def atB (l : List Str) (i : Nat) (x : Str) : Bool := decide (l[i]? = some x)
def blB (c : Ck) (x : Str) : Bool := glB c x && decide (x ∈ c.free)
def chkKc : PD → Const → Bool
  | .none, .none => true
  | .bool b, .bool a => decide (a = b)
  | .int b, .int a => decide (a = b)
  | .str b, .str a => decide (a = b) && decide (b.length ≤ lim) && ascOk b
  | _, _ => false
def chkK (d : PD) : Expr → Bool
  | .Constant v _ _ => chkKc d v
  | _ => false
def chkV (c : Ck) (i : Nat) : Expr → Bool
  | .Name x _ => atB c.N i x && visB c x && nmOk x
  | _ => false
def chkG (c : Ck) (n : Nat) : Expr → Bool
  | .Name x _ => atB c.gls n x && glB c x && nmOk x
  | _ => false
def chkNs (c : Ck) : List Nat → List Expr → Bool
  | [], [] => true
  | i :: is, .Name x _ :: r => atB c.N i x && locB c x && chkNs c is r
  | _, _ => false
def chkT (c : Ck) : Tgt → Expr → Bool
  | .v i, .Name x _ => atB c.N i x && locB c x
  | .t is, .Tuple es _ _ => chkNs c is es
  | _, _ => false
/-- the own names of a block by the slots of its target -/
def ownOf (N : List Str) (t : Tgt) : List (Str × Nat) := (tgS t).map fun i => ((N[i]?).getD default, i)
/-- may stand as a test -/
def tE : E → Bool
  | .ite _ _ _ => false
  | .and a b => tE a && tE b
  | .or a b => tE a && tE b
  | .not a => tE a
  | _ => true
def esLen : Es → Nat
  | .n => 0
  | .c _ r => esLen r + 1
def keyOkB : L2.Key → Bool
  | .inl _ => true
  | .inr z => decide (z.length ≤ sizeLine) && ascOk z
/-- a key that is written -/
def chkKy : L2.Key → Expr → Bool
  | .inl i, x => (match x with
    | .Constant (.int j) _ _ => decide (i = j)
    | _ => false)
  | .inr z, x => (match x with
    | .Constant (.str y) _ _ => decide (z = y)
    | _ => false)
mutual
def chkE : E → Ck → Expr → Bool
  | .k d, _, x => chkK d x
  | .v i, c, x => chkV c i x
  | .g n, c, x => chkG c n x
  | .gix n e, c, x => (match x with
    | .Subscript l r _ => chkG c n l && notSlice r && chkE e c r
    | _ => false)
  | .bin o a b, c, x => (match x with
    | .BinOp l op r _ => decide (op = bopO o) && chkE a c l && chkE b c r
    | _ => false)
  | .neg a, c, x => (match x with
    | .UnaryOp .USub e _ => chkE a c e
    | _ => false)
  | .cmp o a b, c, x => (match x with
    | .Compare l [op] [r] _ => decide (op = copO o) && !behindInMarks op r && chkE a c l && chkE b c r
    | _ => false)
  | .chn o o' a b d, c, x => (match x with
    | .Compare l [op, op'] [m, r] _ => decide (op = copO o) && decide (op' = copO o') && !lastMarks [op, op'] [m, r] && chkE a c l && chkE b c m && chkE d c r
    | _ => false)
  | .and a b, c, x => (match x with
    | .BoolOp .And [l, r] _ => chkE a c l && chkE b c r
    | .BoolOp .And (l :: m :: n :: r) p => chkE a c l && chkE b c (.BoolOp .And (m :: n :: r) p)
    | _ => false)
  | .or a b, c, x => (match x with
    | .BoolOp .Or [l, r] _ => chkE a c l && chkE b c r
    | .BoolOp .Or (l :: m :: n :: r) p => chkE a c l && chkE b c (.BoolOp .Or (m :: n :: r) p)
    | _ => false)
  | .not a, c, x => (match x with
    | .UnaryOp .Not e _ => chkE a c e
    | _ => false)
  | .ite t a b, c, x => (match x with
    | .IfExp e l r _ => tE t && chkE t c e && chkE a c l && chkE b c r
    | _ => false)
  | .tup es, c, x => (match x with
    | .Tuple xs _ _ => decide (esLen es ≤ lim) && chkEs es c xs
    | _ => false)
  | .lst _ es, c, x => (match x with
    | .List xs _ => decide (esLen es ≤ lim) && chkEs es c xs
    | _ => false)
  | .dtn, c, x => (match x with
    | .Dict [] [] _ => c.tk
    | _ => false)
  | .dct _ ks es, c, x => (match x with
    | .Dict xs ys _ => decide (ks.length ≤ 15) && decide ks.Nodup && ks.all keyOkB && chkD es ks c xs ys
    | _ => false)
  | .ix a i, c, x => (match x with
    | .Subscript l r _ => notSlice r && chkE a c l && chkE i c r
    | _ => false)
  | .sl _ a lo hi, c, x => (match x with
    | .Subscript l (.Slice u v none _) _ => chkE a c l && chkO lo c u && chkO hi c v
    | _ => false)
  | .rv _ a, c, x => (match x with
    | .Subscript l (.Slice none none (some (.UnaryOp .USub (.Constant (.int j) _ _) _)) _) _ => decide (j = 1) && chkE a c l
    | _ => false)
  | .cal f es, c, x => (match x with
    | .Call (.Name g _) (y :: ys) [] _ => atB c.fns f g && glB c g && nmOk g && chkEs es c (y :: ys)
    | _ => false)
  | .calk f es ks p, c, x => (match x with
    | .Call (.Name g _) ys kw _ => (match kwNm kw with
      | some ns => atB c.fns f g && glB c g && nmOk g && decide ((f, ys.length, ns, p) ∈ c.kws) && chkEs es c ys && chkKw ks c kw
      | none => false)
    | _ => false)
  | .bi o _ es, c, x => (match x with
    | .Call (.Name g _) (y :: ys) [] _ => decide (g = biN o) && blB c g && chkEs es c (y :: ys)
    | _ => false)
  | .mt o a es, c, x => (match x with
    | .Call (.Attribute l g ap) ys [] cp => decide (g = mtN o) && (ap.endLine == cp.line) && notSuper l && chkE a c l && chkMt o es c ys
    | _ => false)
  | .isi a t, c, x => (match x with
    | .Call (.Name g _) [l, .Name u _] [] _ => decide (g = "isinstance") && blB c g && decide (u = biN (tyB t)) && blB c u && notStar l && chkE a c l
    | _ => false)
  | .lc _ t it d e, c, x => (match x with
    | .ListComp y [⟨tg, ir, fs, as⟩] s _ => decide (as = 0) && notSet ir && blkC c.N c.sc s (ownOf c.N t) && chkI it c tg ir && chkT (c.blk s) t tg && chkC d (c.blk s) fs && chkE e (c.blk s) y
    | _ => false)
  | .lc2 _ t it t2 it2 d e, c, x => (match x with
    | .ListComp y [⟨tg, ir, [], as⟩, ⟨tg2, ir2, fs, as2⟩] s _ => decide (as = 0) && decide (as2 = 0) && notSet ir && notSet ir2 && blkC c.N c.sc s (ownOf c.N t ++ ownOf c.N t2) && chkI it c tg ir && chkT (c.blk s) t tg && chkI it2 (c.blk s) tg2 ir2 && chkT (c.blk s) t2 tg2 && chkC d (c.blk s) fs && chkE e (c.blk s) y
    | _ => false)
def chkEs : Es → Ck → List Expr → Bool
  | .n, _, xs => (match xs with
    | [] => true
    | _ => false)
  | .c e es, c, xs => (match xs with
    | x :: r => notStar x && chkE e c x && chkEs es c r
    | _ => false)
def chkD : Es → List L2.Key → Ck → List (Option Expr) → List Expr → Bool
  | .n, ks, _, xs, ys => (match ks, xs, ys with
    | [], [], [] => true
    | _, _, _ => false)
  | .c e es, ks, c, xs, ys => (match ks, xs, ys with
    | k :: ks, some x :: xs, y :: ys => chkKy k x && chkE e c y && chkD es ks c xs ys
    | _, _, _ => false)
/-- the arguments of a method -/
def chkMt : Mt → Es → Ck → List Expr → Bool
  | .pop, .n, _, xs => (match xs with
    | [] => true
    | _ => false)
  | .get1, .c e .n, c, xs => (match xs with
    | [x] => notStar x && chkE e c x
    | _ => false)
  | .get2, .c e (.c f .n), c, xs => (match xs with
    | [x, y] => notStar x && notStar y && chkE e c x && chkE f c y
    | _ => false)
  | .append, .c e es, c, xs => (match xs with
    | x :: r => decide (r.length < 29) && notStar x && chkE e c x && chkEs es c r
    | _ => false)
  | .extend, .c e es, c, xs => (match xs with
    | x :: r => decide (r.length < 29) && notStar x && chkE e c x && chkEs es c r
    | _ => false)
  | .join, .c e es, c, xs => (match xs with
    | x :: r => decide (r.length < 29) && notStar x && chkE e c x && chkEs es c r
    | _ => false)
  | .idx, .c e es, c, xs => (match xs with
    | x :: r => decide (r.length < 29) && notStar x && chkE e c x && chkEs es c r
    | _ => false)
  | .cnt, .c e es, c, xs => (match xs with
    | x :: r => decide (r.length < 29) && notStar x && chkE e c x && chkEs es c r
    | _ => false)
  | .popi, .c e es, c, xs => (match xs with
    | x :: r => decide (r.length < 29) && notStar x && chkE e c x && chkEs es c r
    | _ => false)
  | .upper, .n, _, xs => (match xs with
    | [] => true
    | _ => false)
  | _, _, _, _ => false
def chkKw : Es → Ck → List Keyword → Bool
  | .n, _, xs => (match xs with
    | [] => true
    | _ => false)
  | .c e es, c, xs => (match xs with
    | ⟨_, x, _⟩ :: r => chkE e c x && chkKw es c r
    | _ => false)
def chkO : Oe → Ck → Option Expr → Bool
  | .n, _, x => (match x with
    | none => true
    | _ => false)
  | .s e, c, x => (match x with
    | some y => chkE e c y
    | _ => false)
def chkC : Oe → Ck → List Expr → Bool
  | .n, _, x => (match x with
    | [] => true
    | _ => false)
  | .s e, c, x => (match x with
    | [y] => tE e && chkE e c y
    | _ => false)
def chkI : It → Ck → Expr → Expr → Bool
  | .sq a, c, tg, x => chkE a c x
  | .rg es, c, tg, x => (match x with
    | .Call (.Name g _) ys [] _ => decide (g = "range") && blB c g && chkEs es c ys
    | _ => false)
  | .zip a b, c, tg, x => (match tg, x with
    | .Tuple _ _ _, .Call (.Name g _) [y, z] [] _ => decide (g = "zip") && blB c g && notStar y && notStar z && chkE a c y && chkE b c z
    | _, _ => false)
  | .enum a, c, tg, x => (match tg, x with
    | .Tuple _ _ _, .Call (.Name g _) [y] [] _ => decide (g = "enumerate") && blB c g && notStar y && chkE a c y
    | _, _ => false)
  | .rev a, c, tg, x => false
  | .keys a, c, tg, x => false
  | .items a, c, tg, x => false
  | .vals a, c, tg, x => false
end
end Nv
set_option Elab.async false
set_option linter.all false
set_option maxRecDepth 100000
/-! N11b: what is compared, computes. -/
namespace Nv
open PySem L2 PyProof.Rows

/-- a callee lets nothing out -/
def CX0 : CXT := fun _ _ _ _ _ _ => False
/-- a dict of the module, keys that are texts -/
def GDct (K : PySem.W.Frag) (w : World) (v : V) (d : PD) : Prop := ∃ p kvs, v = .ref p ∧ d = .dict kvs ∧ ∀ z e, lookD (.inr z) kvs = some e → ∃ u, KDct K w p z u ∧ ∀ A H, RepD K A H u e
/-- where an expression stands -/
structure GoodX (W : Wo) (T : Tab) (k : Nat) (c : Ck) (X : Cx) : Prop where
  K : X.K = W.K
  N : X.N = c.N
  nd : X.N.Nodup
  calm : X.calm = true
  sc : X.env.scope = c.sc
  kind : c.sc.kind = .function
  fn : ∀ x, c.fn x = true → X.fn x = true
  room : RoomG k X.A
  fns : ∀ n x, c.fns[n]? = some x → ∃ F : FnIn X CX0 W T k n x, ∀ nn ks p, (n, nn, ks, p) ∈ c.kws → KwB X F.fd F.ps nn ks p
  gls : ∀ n x, c.gls[n]? = some x → ∃ d v u, T.g n = some d ∧ X.mg x = some u ∧ RelV v u ∧ (((∀ A H, RepD W.K A H v d) ∧ ∀ k, d ≠ .dict k) ∨ GDct W.K X.w v d)
  free : ∀ x ∈ c.free, X.mg x = none
  tk : c.tk = true → TkOk W.K
section
variable {W : Wo} {T : Tab} {k : Nat} {c : Ck} {X : Cx}
theorem ft {P : Prop} (h : false = true) : P := nomatch h
theorem GoodX.hu (G : GoodX W T k c X) : X.A.units + 65 < cLine := by have := G.room.room.un; omega
theorem GoodX.hu1 (G : GoodX W T k c X) : X.A.units + 1 < cLine := by have := G.room.room.un; omega
theorem lookup_relS2 {s : Scope} {sc : Scope} {x : Str} {q : NameKind} (h : (relS s sc).names.lookup x = some q) (n : q ≠ .free) (n2 : q ≠ .cell ∨ s.names.lookup x = some .cell) : s.names.lookup x = some q := by
  obtain ⟨k', e, z⟩ := lookup_relS (sc := sc) h
  rcases z with rfl | ⟨rfl, rfl⟩
  · exact e
  · rcases n2 with n2 | n2
    · exact absurd rfl n2
    · rw [e] at n2; cases n2
theorem GoodX.blk (G : GoodX W T k c X) {s : Scope} {own : List (Str × Nat)} (ok : BlkOk X.N X.env.scope s own) (sh : Shared) (H : Hp) (C : Addr) (cl : List (Str × Addr)) (fp : List Addr) : GoodX W T k (c.blk s) (X.blk sh H s (compEnvC s cl C X.env) fp) where
  K := G.K
  N := G.N
  nd := G.nd
  calm := G.calm
  sc := by
    show relabel s X.env = relS s c.sc
    rw [← G.sc]
    rfl
  kind := ok.kind
  fn := fun x h => h
  room := G.room
  fns := fun n x h => by
    obtain ⟨F, hk⟩ := G.fns n x h
    exact ⟨⟨F.f, F.fd, F.ps, F.ok, F.mg, F.kp, F.bd, F.np⟩, hk⟩
  gls := G.gls
  free := G.free
  tk := G.tk
theorem atB_of {l : List Str} {i : Nat} {x : Str} (h : atB l i x = true) : l[i]? = some x := of_decide_eq_true h
theorem nmOk_of {x : Str} (h : nmOk x = true) : (x == ("__debug__" : Str)) = false ∧ (x == ("__classdict__" : Str)) = false := by
  unfold nmOk at h
  simpa [Bool.and_eq_true] using h
theorem GoodX.vis (G : GoodX W T k c X) {x : Str} (h : visB c x = true) : Vis X.env.scope x := by
  unfold visB at h
  rw [G.sc]
  split at h
  · exact .inl (by assumption)
  · exact .inr (.inl (by assumption))
  · exact .inr (.inr (by assumption))
  · cases h
theorem GoodX.loc (G : GoodX W T k c X) {x : Str} (h : locB c x = true) : Loc X.env.scope x ∧ (X.fn x = true ∨ X.env.scope.names.lookup x = some .local) := by
  unfold locB at h
  rw [G.sc]
  split at h
  · exact ⟨.inl (by assumption), .inr (by assumption)⟩
  · exact ⟨.inr (by assumption), .inl (G.fn x h)⟩
  · cases h
theorem GoodX.gl (G : GoodX W T k c X) {x : Str} (h : glB c x = true) : Gl X x := by
  unfold glB at h
  show X.env.scope.names.lookup x = some .globalImplicit
  rw [G.sc]
  split at h
  · assumption
  · cases h
theorem GoodX.bl (G : GoodX W T k c X) {x : Str} (h : blB c x = true) : Gl X x ∧ X.mg x = none := by
  unfold blB at h
  simp only [Bool.and_eq_true, decide_eq_true_eq] at h
  exact ⟨G.gl h.1, G.free x h.2⟩
/-! what is shown of an expression -/
def Sd (W : Wo) (X : Cx) (e : E) (x : Expr) (m : Sg → M Val) : Prop :=
  PE X x (teOf W m) ∧ (tE e = true → PT X x (ttOf W (tst m)) ∧ ∀ op vs p, x = .BoolOp op vs p → PW X x (ttOf W (tst m)))
/-- a test by its value -/
theorem Sd.val (G : GoodX W T k c X) {e : E} {x : Expr} {m : Sg → M Val} (p : PE X x (teOf W m)) (h : plainT x = true) : Sd W X e x m :=
  ⟨p, fun _ => ⟨tt_val G.K p h, fun op vs q z => by subst z; cases h⟩⟩
theorem s_k (G : GoodX W T k c X) {d : PD} {x : Expr} (h : chkK d x = true) : Sd W X (.k d) x fun _ => pure (.d d) := by
  cases x <;> first | exact ft h | skip
  rename_i v j pos
  cases d with
  | none => cases v <;> first | exact ft h | exact Sd.val G (te_const (fun _ _ => .non) pe_non) rfl
  | bool b =>
    cases v <;> first | exact ft h | skip
    cases of_decide_eq_true h
    exact Sd.val G (te_const (fun _ _ => .bl b) pe_bl) rfl
  | int b =>
    cases v <;> first | exact ft h | skip
    cases of_decide_eq_true h
    exact Sd.val G (te_const (fun _ _ => .int b) pe_int) rfl
  | str b =>
    cases v <;> first | exact ft h | skip
    have h' : (decide (_ = b) && decide (b.length ≤ lim) && ascOk b) = true := h
    simp only [Bool.and_eq_true, decide_eq_true_eq] at h'
    obtain ⟨⟨rfl, l⟩, o⟩ := h'
    exact Sd.val G (te_const (fun _ _ => .str _ l o) pe_str) rfl
  | list => cases v <;> exact ft h
  | tuple => cases v <;> exact ft h
  | dict => cases v <;> exact ft h
theorem s_v (G : GoodX W T k c X) {i : Nat} {x : Expr} (h : chkV c i x = true) : Sd W X (.v i) x fun s => varV s i := by
  cases x <;> first | exact ft h | skip
  have h' : (atB c.N i _ && visB c _ && nmOk _) = true := h
  simp only [Bool.and_eq_true] at h'
  obtain ⟨⟨h1, h2⟩, h3⟩ := h'
  obtain ⟨h4, h5⟩ := nmOk_of h3
  exact Sd.val G (te_var (by rw [G.N]; exact atB_of h1) (G.vis h2) h4 h5) rfl
theorem s_g (G : GoodX W T k c X) {i : Nat} {x : Expr} (h : chkG c i x = true) : Sd W X (.g i) x fun _ => gV (T.g i) := by
  cases x <;> first | exact ft h | skip
  have h' : (atB c.gls i _ && glB c _ && nmOk _) = true := h
  simp only [Bool.and_eq_true] at h'
  obtain ⟨⟨h1, h2⟩, h3⟩ := h'
  obtain ⟨h4, h5⟩ := nmOk_of h3
  obtain ⟨d, v, u, e1, e2, r, rr⟩ := G.gls i _ (atB_of h1)
  rw [e1]
  rcases rr with ⟨rr, nd⟩ | ⟨p, kvs, rfl, rfl, _⟩
  · have e : gV (some d) = pure (.d d) := by
      cases d <;> first | rfl | exact absurd rfl (nd _)
    rw [e]
    exact Sd.val G (te_const rr (pe_glob (G.gl h2) e2 r h4)) rfl
  · exact Sd.val G (PE.imp (pe_glob (G.gl h2) e2 r h4) fun σ H Q ⟨φ, h, s, aH, aS, v, h', e, k⟩ => bad_ne e) rfl
theorem s_gix (G : GoodX W T k c X) {i : Nat} {x y : Expr} {my : Sg → M Val} {pos : Pos} (h : chkG c i x = true) (hs : notSlice y = true) (py : PE X y (teOf W my)) : PE X (.Subscript x y pos) (teOf W fun s => my s >>= fun v => gixV (T.g i) v) := by
  cases x <;> first | exact ft h | skip
  have h' : (atB c.gls i _ && glB c _ && nmOk _) = true := h
  simp only [Bool.and_eq_true] at h'
  obtain ⟨⟨h1, h2⟩, h3⟩ := h'
  obtain ⟨h4, h5⟩ := nmOk_of h3
  obtain ⟨d, v, u, e1, e2, r, rr⟩ := G.gls i _ (atB_of h1)
  rw [e1]
  refine PE.imp (pe_ix ix_kdict (pe_glob (G.gl h2) e2 r h4) py (plain_ix hs)) fun σ H Q ⟨φ, h, s, aH, aS, z, h', e, k⟩ => ?_
  obtain ⟨y, i1, e3, e4⟩ := bind_inv e
  refine ⟨φ, h, s, aH, aS, y, i1, e3, fun y' φ1 H1 g1 a1 r1 => ?_⟩
  cases d with
  | dict kvs =>
    cases y with
    | r => exact bad_ne e4
    | d y =>
      cases y <;> first | (exact bad_ne e4) | skip
      obtain ⟨rfl, _, _⟩ := r1.d.str_inv
      obtain ⟨rfl, e5⟩ := optM_inv e4
      obtain ⟨d, e6, rfl⟩ := Option.map_eq_some_iff.mp e5
      rcases rr with ⟨_, nd⟩ | ⟨p, kvs', rfl, e7, q⟩
      · exact absurd rfl (nd _)
      · cases e7
        obtain ⟨u', kd, ru⟩ := q _ _ e6
        exact ⟨p, _, u', rfl, rfl, G.K ▸ kd, k _ φ1 H1 g1 a1 (ru _ _)⟩
  | _ => cases y <;> exact bad_ne e4
/-- comparisons as tests -/
theorem tt_cmp1 (G : GoodX W T k c X) {a b : Expr} {ma mb : Sg → M Val} {pos : Pos} (o : Cop) (hm : behindInMarks (copO o) b = false) (ha : PE X a (teOf W ma)) (hb : PE X b (teOf W mb)) :
    PT X (.Compare a [copO o] [b] pos) (ttOf W (tst fun s => ma s >>= fun x => mb s >>= fun y => cop o x y)) := by
  obtain ⟨r, h1, h2⟩ := op_cop (W := W) G.K G.hu o
  refine tt_cmp (pt_cmpR h1 ha hb hm) (te_op h2) fun s h z h' e => ?_
  obtain ⟨x, h1, e1, e2⟩ := bind_inv e
  obtain ⟨y, h2, e3, e4⟩ := bind_inv e2
  exact cop_bool e4
theorem tt_chn1 (G : GoodX W T k c X) {a b d : Expr} {ma mb md : Sg → M Val} {pos : Pos} (o o' : Cop) (hm : lastMarks [copO o, copO o'] [b, d] = false) (ha : PE X a (teOf W ma)) (hb : PE X b (teOf W mb)) (hd : PE X d (teOf W md)) :
    Sd W X (.chn o o' (.v 0) (.v 0) (.v 0)) (.Compare a [copO o, copO o'] [b, d] pos) fun s => ma s >>= fun x => mb s >>= fun y => cop o x y >>= fun z => match z with
      | .d (.bool true) => md s >>= fun w => cop o' y w
      | .d (.bool false) => bl false
      | _ => bad := by
  refine ⟨te_chain G.K G.hu o o' hm ha hb hd, fun _ => ⟨?_, fun op vs p z => nomatch z⟩⟩
  obtain ⟨r, h1, h2⟩ := op_cop (W := W) G.K G.hu o
  obtain ⟨r', h1', h2'⟩ := op_cop (W := W) G.K G.hu o'
  refine tt_cmp (pt_chain h1 h1' ha hb hd hm) (te_chn_tr h2 h2') fun s h z h' e => ?_
  obtain ⟨x, i1, e1, e2⟩ := bind_inv e
  obtain ⟨y, i2, e3, e4⟩ := bind_inv e2
  obtain ⟨z, i3, e5, e6⟩ := bind_inv e4
  obtain ⟨b, rfl⟩ := cop_bool e5
  cases b with
  | false => exact ⟨false, (pure_inv e6).1.symm⟩
  | true =>
    obtain ⟨w, i4, e7, e8⟩ := bind_inv (show (md s >>= fun w => cop o' y w) i3 = .ok _ h' from e6)
    exact cop_bool e8
theorem evEs_len {Γ : Ctx} : ∀ {es : Es} {s : Sg} {h h' : Hs} {vs : List Val}, evEs Γ es s h = .ok vs h' → vs.length = esLen es
  | .n, s, h, h', vs, e => by
    obtain ⟨rfl, rfl⟩ := pure_inv (show (pure [] : M (List Val)) h = .ok vs h' from e)
    rfl
  | .c a es, s, h, h', vs, e => by
    obtain ⟨x, i1, e1, e2⟩ := bind_inv (show (evE Γ a s >>= fun x => evEs Γ es s >>= fun xs => pure (x :: xs)) h = .ok vs h' from e)
    obtain ⟨xs, i2, e3, e4⟩ := bind_inv e2
    obtain ⟨rfl, rfl⟩ := pure_inv e4
    exact congrArg (· + 1) (evEs_len e3)
/-! targets -/
theorem s_Ns (G : GoodX W T k c X) : ∀ {is : List Nat} {es : List Expr}, chkNs c is es = true → PGs X es (gsT is) ∧ (assignEach es X.env).length = is.length ∧ (assignEach es X.env).findIdx? (·.1) = none
  | [], [], _ => ⟨pgs_nil, rfl, rfl⟩
  | [], _ :: _, h => ft h
  | _ :: _, [], h => ft h
  | i :: is, e :: es, h => by
    cases e <;> first | exact ft h | skip
    have h' : (atB c.N i _ && locB c _ && chkNs c is es) = true := h
    simp only [Bool.and_eq_true] at h'
    obtain ⟨⟨h1, h2⟩, h3⟩ := h'
    obtain ⟨p, l, f⟩ := s_Ns G h3
    obtain ⟨h4, h5⟩ := G.loc h2
    refine ⟨pgs_cons (pg_name G.nd (by rw [G.N]; exact atB_of h1) h4 h5) p rfl, ?_, ?_⟩
    · show (assignEach es X.env).length + 1 = is.length + 1
      rw [l]
    · show List.findIdx? (·.1) ((false, _) :: assignEach es X.env) = none
      rw [List.findIdx?_cons, f]
      rfl
theorem s_T (G : GoodX W T k c X) {t : Tgt} {x : Expr} (h : chkT c t x = true) : PG X x (tgT W.K t) := by
  cases t with
  | v i =>
    cases x <;> first | exact ft h | skip
    have h' : (atB c.N i _ && locB c _) = true := h
    simp only [Bool.and_eq_true] at h'
    obtain ⟨h4, h5⟩ := G.loc h'.2
    exact pg_name G.nd (by rw [G.N]; exact atB_of h'.1) h4 h5
  | t is =>
    cases x <;> first | exact ft h | skip
    obtain ⟨p, l, f⟩ := s_Ns G (show chkNs c is _ = true from h)
    rw [← G.K]
    exact pg_tt G.calm p l f
theorem own_snd (N : List Str) (t : Tgt) : (ownOf N t).map (·.2) = tgS t := by
  unfold ownOf
  rw [List.map_map]
  exact List.map_id _
theorem own_snd2 (N : List Str) (t t2 : Tgt) : (ownOf N t ++ ownOf N t2).map (·.2) = tgS t ++ tgS t2 := by
  rw [List.map_append, own_snd, own_snd]
theorem keyOk_of {kk : Key} (h : keyOkB kk = true) : KeyOk kk := fun z e => by
  subst e
  have h' : (decide (z.length ≤ sizeLine) && ascOk z) = true := h
  simp only [Bool.and_eq_true, decide_eq_true_eq] at h'
  exact h'
theorem s_ky {kk : Key} {x : Expr} (h : chkKy kk x = true) : PE X x (tC (kV kk)) := by
  cases kk with
  | inl i =>
    cases x <;> first | exact ft h | skip
    rename_i v j p
    cases v <;> first | exact ft h | skip
    cases of_decide_eq_true h
    exact pe_int
  | inr z =>
    cases x <;> first | exact ft h | skip
    rename_i v j p
    cases v <;> first | exact ft h | skip
    cases of_decide_eq_true h
    exact pe_str
noncomputable def Gm (T : Tab) (k : Nat) : Ctx := ⟨callN T k, T.g⟩
theorem range_ne (h : decide (g = ("range" : Str)) = true) : g = "range" := of_decide_eq_true h
variable (W T k)
mutual
theorem sE : ∀ (e : E) {c : Ck} {X : Cx} (G : GoodX W T k c X) {x : Expr}, chkE e c x = true → Sd W X e x (evE (Gm T k) e)
  | .k d, c, X, G, x, h => s_k G h
  | .v i, c, X, G, x, h => s_v G h
  | .g n, c, X, G, x, h => s_g G h
  | .gix n e, c, X, G, x, h => by
    cases x <;> first | exact ft h | skip
    have h' : (chkG c n _ && notSlice _ && chkE e c _) = true := h
    simp only [Bool.and_eq_true] at h'
    exact Sd.val G (s_gix G h'.1.1 h'.1.2 (sE e G h'.2).1) rfl
  | .bin o a b, c, X, G, x, h => by
    cases x <;> first | exact ft h | skip
    have h' : (decide (_ = bopO o) && chkE a c _ && chkE b c _) = true := h
    simp only [Bool.and_eq_true, decide_eq_true_eq] at h'
    obtain ⟨⟨rfl, h2⟩, h3⟩ := h'
    exact Sd.val G (te_bin G.K o false (sE a G h2).1 (sE b G h3).1) rfl
  | .neg a, c, X, G, x, h => by
    cases x <;> first | exact ft h | skip
    rename_i op e p
    cases op <;> first | exact ft h | skip
    exact Sd.val G (te_neg (sE a G (show chkE a c e = true from h)).1) rfl
  | .cmp o a b, c, X, G, x, h => by
    cases x <;> first | exact ft h | skip
    rename_i l ops rs p
    match ops, rs, h with
    | [op], [r], h =>
      have h' : (decide (op = copO o) && !behindInMarks op r && chkE a c l && chkE b c r) = true := h
      simp only [Bool.and_eq_true, decide_eq_true_eq, Bool.not_eq_true'] at h'
      obtain ⟨⟨⟨rfl, h2⟩, h3⟩, h4⟩ := h'
      exact ⟨te_cmp G.K G.hu o h2 (sE a G h3).1 (sE b G h4).1, fun _ => ⟨tt_cmp1 G o h2 (sE a G h3).1 (sE b G h4).1, fun op vs p z => nomatch z⟩⟩
    | [], _, h => exact ft h
    | [_], [], h => exact ft h
    | [_], _ :: _ :: _, h => exact ft h
    | _ :: _ :: _, _, h => exact ft h
  | .chn o o' a b d, c, X, G, x, h => by
    cases x <;> first | exact ft h | skip
    rename_i l ops rs p
    match ops, rs, h with
    | [op, op'], [m, r], h =>
      have h' : (decide (op = copO o) && decide (op' = copO o') && !lastMarks [op, op'] [m, r] && chkE a c l && chkE b c m && chkE d c r) = true := h
      simp only [Bool.and_eq_true, decide_eq_true_eq, Bool.not_eq_true'] at h'
      obtain ⟨⟨⟨⟨⟨rfl, rfl⟩, h2⟩, h3⟩, h4⟩, h5⟩ := h'
      exact tt_chn1 G o o' h2 (sE a G h3).1 (sE b G h4).1 (sE d G h5).1
    | [], _, h => exact ft h
    | [_], _, h => exact ft h
    | [_, _], [], h => exact ft h
    | [_, _], [_], h => exact ft h
    | [_, _], _ :: _ :: _ :: _, h => exact ft h
    | _ :: _ :: _ :: _, _, h => exact ft h
  | .and a b, c, X, G, x, h => by
    cases x <;> first | exact ft h | skip
    rename_i op vs p
    cases op <;> first | exact ft h | skip
    match vs, h with
    | [], h => exact ft h
    | [_], h => exact ft h
    | [l, r], h =>
      have h' : (chkE a c l && chkE b c r) = true := h
      simp only [Bool.and_eq_true] at h'
      obtain ⟨pa, ta⟩ := sE a G h'.1
      obtain ⟨pb, tb⟩ := sE b G h'.2
      refine ⟨te_and G.K pa (pe_one pb), fun ht => ?_⟩
      have ht' : (tE a && tE b) = true := ht
      simp only [Bool.and_eq_true] at ht'
      have w := tt_and (pos := p) (ta ht'.1).1 (pw_and1 (tb ht'.2).1)
      exact ⟨w.pt, fun _ _ _ _ => w⟩
    | l :: m :: n :: r, h =>
      have h' : (chkE a c l && chkE b c (.BoolOp .And (m :: n :: r) p)) = true := h
      simp only [Bool.and_eq_true] at h'
      obtain ⟨pa, ta⟩ := sE a G h'.1
      obtain ⟨pb, tb⟩ := sE b G h'.2
      refine ⟨te_and G.K pa pb, fun ht => ?_⟩
      have ht' : (tE a && tE b) = true := ht
      simp only [Bool.and_eq_true] at ht'
      have w := tt_and (pos := p) (ta ht'.1).1 ((tb ht'.2).2 _ _ _ rfl)
      exact ⟨w.pt, fun _ _ _ _ => w⟩
  | .or a b, c, X, G, x, h => by
    cases x <;> first | exact ft h | skip
    rename_i op vs p
    cases op <;> first | exact ft h | skip
    match vs, h with
    | [], h => exact ft h
    | [_], h => exact ft h
    | [l, r], h =>
      have h' : (chkE a c l && chkE b c r) = true := h
      simp only [Bool.and_eq_true] at h'
      obtain ⟨pa, ta⟩ := sE a G h'.1
      obtain ⟨pb, tb⟩ := sE b G h'.2
      refine ⟨te_or G.K pa (pe_one pb), fun ht => ?_⟩
      have ht' : (tE a && tE b) = true := ht
      simp only [Bool.and_eq_true] at ht'
      have w := tt_or (pos := p) (ta ht'.1).1 (pw_or1 (tb ht'.2).1)
      exact ⟨w.pt, fun _ _ _ _ => w⟩
    | l :: m :: n :: r, h =>
      have h' : (chkE a c l && chkE b c (.BoolOp .Or (m :: n :: r) p)) = true := h
      simp only [Bool.and_eq_true] at h'
      obtain ⟨pa, ta⟩ := sE a G h'.1
      obtain ⟨pb, tb⟩ := sE b G h'.2
      refine ⟨te_or G.K pa pb, fun ht => ?_⟩
      have ht' : (tE a && tE b) = true := ht
      simp only [Bool.and_eq_true] at ht'
      have w := tt_or (pos := p) (ta ht'.1).1 ((tb ht'.2).2 _ _ _ rfl)
      exact ⟨w.pt, fun _ _ _ _ => w⟩
  | .not a, c, X, G, x, h => by
    cases x <;> first | exact ft h | skip
    rename_i op e p
    cases op <;> first | exact ft h | skip
    obtain ⟨pa, ta⟩ := sE a G (show chkE a c e = true from h)
    exact ⟨te_not G.K pa, fun ht => ⟨tt_not (ta ht).1, fun _ _ _ z => nomatch z⟩⟩
  | .ite t a b, c, X, G, x, h => by
    cases x <;> first | exact ft h | skip
    rename_i e l r p
    have h' : (tE t && chkE t c e && chkE a c l && chkE b c r) = true := h
    simp only [Bool.and_eq_true] at h'
    obtain ⟨⟨⟨h0, h1⟩, h2⟩, h3⟩ := h'
    exact ⟨te_ite ((sE t G h1).2 h0).1 (sE a G h2).1 (sE b G h3).1, fun ht => ft ht⟩
  | .tup es, c, X, G, x, h => by
    cases x <;> first | exact ft h | skip
    have h' : (decide (esLen es ≤ lim) && chkEs es c _) = true := h
    simp only [Bool.and_eq_true, decide_eq_true_eq] at h'
    exact Sd.val G (te_tup (fun s h vs h2 e => by rw [evEs_len e]; exact h'.1) (sEs es G h'.2).2.2) rfl
  | .lst m es, c, X, G, x, h => by
    cases x <;> first | exact ft h | skip
    have h' : (decide (esLen es ≤ lim) && chkEs es c _) = true := h
    simp only [Bool.and_eq_true, decide_eq_true_eq] at h'
    exact Sd.val G (te_lst (m := m) (fun s h vs h2 e => by rw [evEs_len e]; exact h'.1) (sEs es G h'.2).2.2) rfl
  | .dtn, c, X, G, x, h => by
    cases x <;> first | exact ft h | skip
    rename_i xs ys p
    cases xs with
    | cons => exact ft h
    | nil =>
      cases ys with
      | cons => exact ft h
      | nil => exact Sd.val G (te_dtn (G.tk h)) rfl
  | .dct m ks es, c, X, G, x, h => by
    cases x <;> first | exact ft h | skip
    rename_i xs ys p
    have h' : (decide (ks.length ≤ 15) && decide ks.Nodup && ks.all keyOkB && chkD es ks c xs ys) = true := h
    simp only [Bool.and_eq_true, decide_eq_true_eq] at h'
    obtain ⟨⟨⟨h1, h2⟩, h3⟩, h4⟩ := h'
    obtain ⟨q1, q2, q3, q4⟩ := sD es ks G (pos := p) h4
    by_cases hx : xs = []
    · subst hx
      cases ys with
      | cons => exact nomatch q3
      | nil =>
        cases ks with
        | cons => exact nomatch q4
        | nil =>
          cases es with
          | n => exact Sd.val G (te_dct0 (m := m)) rfl
          | c => exact ft h4
    · exact Sd.val G (te_dct (m := m) q1 q2 q3 hx (by rw [q4]; exact h1) h1 h2 fun k mk => keyOk_of (List.all_eq_true.mp h3 k mk)) rfl
  | .ix a i, c, X, G, x, h => by
    cases x <;> first | exact ft h | skip
    have h' : (notSlice _ && chkE a c _ && chkE i c _) = true := h
    simp only [Bool.and_eq_true] at h'
    exact Sd.val G (te_ix G.K G.hu1 h'.1.1 (sE a G h'.1.2).1 (sE i G h'.2).1) rfl
  | .sl m a lo hi, c, X, G, x, h => by
    cases x <;> first | exact ft h | skip
    rename_i l r p
    cases r <;> first | exact ft h | skip
    rename_i u v st p2
    cases st <;> first | exact ft h | skip
    have h' : (chkE a c l && chkO lo c u && chkO hi c v) = true := h
    simp only [Bool.and_eq_true] at h'
    exact Sd.val G (te_sl (m := m) G.K (sE a G h'.1.1).1 (sO lo G h'.1.2) (sO hi G h'.2)) rfl
  | .rv m a, c, X, G, x, h => by
    cases x <;> first | exact ft h | skip
    rename_i l r p
    cases r <;> first | exact ft h | skip
    rename_i u v st p2
    cases u <;> first | exact ft h | skip
    cases v <;> first | exact ft h | skip
    cases st <;> first | exact ft h | skip
    rename_i w
    cases w <;> first | exact ft h | skip
    rename_i op w p3
    cases op <;> first | exact ft h | skip
    cases w <;> first | exact ft h | skip
    rename_i w n p4
    cases w <;> first | exact ft h | skip
    rename_i j
    have h' : (decide (j = 1) && chkE a c l) = true := h
    simp only [Bool.and_eq_true, decide_eq_true_eq] at h'
    obtain ⟨rfl, h1⟩ := h'
    exact Sd.val G (te_rv (m := m) G.K (sE a G h1).1) rfl
  | .cal f es, c, X, G, x, h => by
    cases x <;> first | exact ft h | skip
    rename_i g ys kw p
    cases g <;> first | exact ft h | skip
    match ys, kw, h with
    | [], _, h => exact ft h
    | _ :: _, _ :: _, h => exact ft h
    | y :: ys, [], h =>
      have h' : (atB c.fns f _ && glB c _ && nmOk _ && chkEs es c (y :: ys)) = true := h
      simp only [Bool.and_eq_true] at h'
      obtain ⟨⟨⟨h1, h2⟩, h3⟩, h4⟩ := h'
      obtain ⟨F, _⟩ := G.fns f _ (atB_of h1)
      obtain ⟨q1, q2, q3⟩ := sEs es G h4
      exact Sd.val G (te_cal (E := fun _ _ _ => False) G.K F G.room (fun _ _ _ _ _ _ _ z => z.elim) (G.gl h2) (nmOk_of h3).1 q1 q3) rfl
  | .calk f es ks pm, c, X, G, x, h => by
    cases x <;> first | exact ft h | skip
    rename_i g ys kw p
    cases g <;> first | exact ft h | skip
    rename_i g p2
    have h' : (match kwNm kw with
      | some ns => atB c.fns f g && glB c g && nmOk g && decide ((f, ys.length, ns, pm) ∈ c.kws) && chkEs es c ys && chkKw ks c kw
      | none => false) = true := h
    cases hk : kwNm kw with
    | none => rw [hk] at h'; exact ft h'
    | some ns =>
      rw [hk] at h'
      simp only [Bool.and_eq_true, decide_eq_true_eq] at h'
      obtain ⟨⟨⟨⟨⟨h1, h2⟩, h3⟩, h4⟩, h5⟩, h6⟩ := h'
      obtain ⟨F, hF⟩ := G.fns f _ (atB_of h1)
      obtain ⟨q1, q2, q3⟩ := sEs es G h5
      obtain ⟨r1, r2⟩ := sKw ks G h6
      refine Sd.val G (te_calk (E := fun _ _ _ => False) G.K F G.room (fun _ _ _ _ _ _ _ z => z.elim) (G.gl h2) (nmOk_of h3).1 q1 hk (hF _ _ _ h4) (fun s h vs h2 e => by rw [evEs_len e, q2]) (fun s h vs h2 e => by rw [evEs_len e, r2 _ hk]) (fun z s => ?_) q3 r1) rfl
      cases es with
      | n => rfl
      | c => rw [z] at q2; cases q2
  | .bi o m es, c, X, G, x, h => by
    cases x <;> first | exact ft h | skip
    rename_i g ys kw p
    cases g <;> first | exact ft h | skip
    match ys, kw, h with
    | [], _, h => exact ft h
    | _ :: _, _ :: _, h => exact ft h
    | y :: ys, [], h =>
      have h' : (decide (_ = biN o) && blB c _ && chkEs es c (y :: ys)) = true := h
      simp only [Bool.and_eq_true, decide_eq_true_eq] at h'
      obtain ⟨⟨rfl, h2⟩, h3⟩ := h'
      obtain ⟨b1, b2⟩ := G.bl h2
      obtain ⟨q1, q2, q3⟩ := sEs es G h3
      exact Sd.val G (te_bi G.K G.calm G.room.gd G.hu o m b1 b2 q1 q3) rfl
  | .mt o a es, c, X, G, x, h => by
    cases x <;> first | exact ft h | skip
    rename_i g ys kw cp
    cases g <;> first | exact ft h | skip
    rename_i l g ap
    cases kw <;> first | exact ft h | skip
    have h' : (decide (g = mtN o) && (ap.endLine == cp.line) && notSuper l && chkE a c l && chkMt o es c ys) = true := h
    simp only [Bool.and_eq_true, decide_eq_true_eq] at h'
    obtain ⟨⟨⟨⟨rfl, h2⟩, h3⟩, h4⟩, h5⟩ := h'
    exact Sd.val G (sMt o es G h5 h2 h3 (sE a G h4).1) rfl
  | .isi a t, c, X, G, x, h => by
    cases x <;> first | exact ft h | skip
    rename_i g ys kw cp
    cases g <;> first | exact ft h | skip
    rename_i g p1
    match ys, kw, h with
    | [], _, h => exact ft h
    | [_], _, h => exact ft h
    | _ :: y :: _ :: _, _, h => cases y <;> exact ft h
    | [l, y], [], h =>
      cases y <;> first | exact ft h | skip
      rename_i u p2
      have h' : (decide (g = "isinstance") && blB c g && decide (u = biN (tyB t)) && blB c u && notStar l && chkE a c l) = true := h
      simp only [Bool.and_eq_true, decide_eq_true_eq] at h'
      obtain ⟨⟨⟨⟨⟨rfl, h2⟩, rfl⟩, h4⟩, h5⟩, h6⟩ := h'
      obtain ⟨b1, b2⟩ := G.bl h2
      obtain ⟨b3, b4⟩ := G.bl h4
      exact Sd.val G (te_isi G.K t b1 b2 b3 b4 h5 (sE a G h6).1) rfl
    | [l, y], _ :: _, h => cases y <;> exact ft h
  | .lc m t it d e, c, X, G, x, h => by
    cases x <;> first | exact ft h | skip
    rename_i y gs s p
    match gs, h with
    | [], h => exact ft h
    | ⟨_, _, _, _⟩ :: _ :: _, h => exact ft h
    | [⟨tg, ir, fs, as⟩], h =>
      have h' : (decide (as = 0) && notSet ir && blkC c.N c.sc s (ownOf c.N t) && chkI it c tg ir && chkT (c.blk s) t tg && chkC d (c.blk s) fs && chkE e (c.blk s) y) = true := h
      simp only [Bool.and_eq_true, decide_eq_true_eq] at h'
      obtain ⟨⟨⟨⟨⟨⟨rfl, h2⟩, h3⟩, h4⟩, h5⟩, h6⟩, h7⟩ := h'
      have ok : BlkOk X.N X.env.scope s (ownOf c.N t) := by
        rw [G.N, G.sc]
        exact blkOk_by h3
      exact Sd.val G (te_lc (m := m) G.K G.calm G.nd (sI it G h4) ok (own_snd _ _) (fun sh H C cl fp => s_T (G.blk ok sh H C cl fp) h5) (fun sh H C cl fp => sC d (G.blk ok sh H C cl fp) h6) (fun sh H C cl fp => (sE e (G.blk ok sh H C cl fp) h7).1) h2) rfl
  | .lc2 m t it t2 it2 d e, c, X, G, x, h => by
    cases x <;> first | exact ft h | skip
    rename_i y gs s p
    match gs, h with
    | [], h => exact ft h
    | [⟨_, _, [], _⟩], h => exact ft h
    | ⟨_, _, _ :: _, _⟩ :: _, h => exact ft h
    | ⟨_, _, [], _⟩ :: ⟨_, _, _, _⟩ :: _ :: _, h => exact ft h
    | [⟨tg, ir, [], as⟩, ⟨tg2, ir2, fs, as2⟩], h =>
      have h' : (decide (as = 0) && decide (as2 = 0) && notSet ir && notSet ir2 && blkC c.N c.sc s (ownOf c.N t ++ ownOf c.N t2) && chkI it c tg ir && chkT (c.blk s) t tg && chkI it2 (c.blk s) tg2 ir2 && chkT (c.blk s) t2 tg2 && chkC d (c.blk s) fs && chkE e (c.blk s) y) = true := h
      simp only [Bool.and_eq_true, decide_eq_true_eq] at h'
      obtain ⟨⟨⟨⟨⟨⟨⟨⟨⟨⟨rfl, rfl⟩, g1⟩, g2⟩, g3⟩, g4⟩, g5⟩, g6⟩, g7⟩, g8⟩, g9⟩ := h'
      have ok : BlkOk X.N X.env.scope s (ownOf c.N t ++ ownOf c.N t2) := by
        rw [G.N, G.sc]
        exact blkOk_by g3
      exact Sd.val G (te_lc2 (m := m) G.K G.calm G.nd (sI it G g4) ok (own_snd2 _ _ _) (fun sh H C cl fp => s_T (G.blk ok sh H C cl fp) g5) (fun sh H C cl fp => sI it2 (G.blk ok sh H C cl fp) g6) (fun sh H C cl fp => s_T (G.blk ok sh H C cl fp) g7) (fun sh H C cl fp => sC d (G.blk ok sh H C cl fp) g8) (fun sh H C cl fp => (sE e (G.blk ok sh H C cl fp) g9).1) g1 g2) rfl
theorem sEs : ∀ (es : Es) {c : Ck} {X : Cx} (G : GoodX W T k c X) {xs : List Expr}, chkEs es c xs = true → xs.all notStar = true ∧ xs.length = esLen es ∧ PA X xs (taOf W (evEs (Gm T k) es))
  | .n, c, X, G, xs, h => by
    cases xs <;> first | exact ft h | skip
    exact ⟨rfl, rfl, ta_nil⟩
  | .c e es, c, X, G, xs, h => by
    cases xs <;> first | exact ft h | skip
    have h' : (notStar _ && chkE e c _ && chkEs es c _) = true := h
    simp only [Bool.and_eq_true] at h'
    obtain ⟨q1, q2, q3⟩ := sEs es G h'.2
    refine ⟨by simp only [List.all_cons, h'.1.1, q1, Bool.and_self], by rw [List.length_cons, q2]; rfl, ta_cons h'.1.1 (sE e G h'.1.2).1 q3⟩
theorem sD : ∀ (es : Es) (ks : List Key) {c : Ck} {X : Cx} (G : GoodX W T k c X) {xs : List (Option Expr)} {ys : List Expr} {pos : Pos}, chkD es ks c xs ys = true → PrOf W X pos xs ys ks (evEs (Gm T k) es) ∧ xs.all (·.isSome) = true ∧ xs.length = ys.length ∧ xs.length = ks.length
  | .n, ks, c, X, G, xs, ys, pos, h => by
    match ks, xs, ys, h with
    | [], [], [], h => exact ⟨pr_nil, rfl, rfl, rfl⟩
    | [], [], _ :: _, h => exact ft h
    | [], _ :: _, _, h => exact ft h
    | _ :: _, _, _, h => exact ft h
  | .c e es, ks, c, X, G, xs, ys, pos, h => by
    match ks, xs, ys, h with
    | [], _, _, h => exact ft h
    | _ :: _, [], _, h => exact ft h
    | _ :: _, none :: _, _, h => exact ft h
    | _ :: _, some _ :: _, [], h => exact ft h
    | kk :: ks, some x :: xs, y :: ys, h =>
      have h' : (chkKy kk x && chkE e c y && chkD es ks c xs ys) = true := h
      simp only [Bool.and_eq_true] at h'
      obtain ⟨⟨h1, h2⟩, h3⟩ := h'
      obtain ⟨q1, q2, q3, q4⟩ := sD es ks G (pos := pos) h3
      exact ⟨pr_cons (s_ky h1) (sE e G h2).1 q1, by rw [List.all_cons, q2]; rfl, congrArg (· + 1) q3, congrArg (· + 1) q4⟩
theorem sMt : ∀ (o : Mt) (es : Es) {c : Ck} {X : Cx} (G : GoodX W T k c X) {ys : List Expr}, chkMt o es c ys = true → ∀ {a : E} {l : Expr} {ap cp : Pos}, (ap.endLine == cp.line) = true → notSuper l = true → PE X l (teOf W (evE (Gm T k) a)) →
    PE X (.Call (.Attribute l (mtN o) ap) ys [] cp) (teOf W (evE (Gm T k) (.mt o a es)))
  | .pop, .n, c, X, G, ys, h, a, l, ap, cp, h2, h3, pa => by
    cases ys <;> first | exact ft h | skip
    exact te_mt0 G.K h2 h3 pa
  | .pop, .c _ _, _, _, _, _, h, _, _, _, _, _, _, _ => ft h
  | .get1, .n, _, _, _, _, h, _, _, _, _, _, _, _ => ft h
  | .get1, .c e .n, c, X, G, ys, h, a, l, ap, cp, h2, h3, pa => by
    match ys, h with
    | [], h => exact ft h
    | _ :: _ :: _, h => exact ft h
    | [x], h =>
      have h' : (notStar x && chkE e c x) = true := h
      simp only [Bool.and_eq_true] at h'
      exact te_get1 G.K G.hu1 h2 h3 h'.1 pa (sE e G h'.2).1 (fun s => rfl)
  | .get1, .c _ (.c _ _), _, _, _, _, h, _, _, _, _, _, _, _ => ft h
  | .get2, .n, _, _, _, _, h, _, _, _, _, _, _, _ => ft h
  | .get2, .c _ .n, _, _, _, _, h, _, _, _, _, _, _, _ => ft h
  | .get2, .c e (.c f .n), c, X, G, ys, h, a, l, ap, cp, h2, h3, pa => by
    match ys, h with
    | [], h => exact ft h
    | [_], h => exact ft h
    | _ :: _ :: _ :: _, h => exact ft h
    | [x, y], h =>
      have h' : (notStar x && notStar y && chkE e c x && chkE f c y) = true := h
      simp only [Bool.and_eq_true] at h'
      exact te_get2 G.K G.hu1 h2 h3 h'.1.1.1 h'.1.1.2 pa (sE e G h'.1.2).1 (sE f G h'.2).1 (fun s => rfl)
  | .get2, .c _ (.c _ (.c _ _)), _, _, _, _, h, _, _, _, _, _, _, _ => ft h
  | .append, .n, _, _, _, _, h, _, _, _, _, _, _, _ => ft h
  | .extend, .n, _, _, _, _, h, _, _, _, _, _, _, _ => ft h
  | .join, .n, _, _, _, _, h, _, _, _, _, _, _, _ => ft h
  | .idx, .n, _, _, _, _, h, _, _, _, _, _, _, _ => ft h
  | .cnt, .n, _, _, _, _, h, _, _, _, _, _, _, _ => ft h
  | .popi, .n, _, _, _, _, h, _, _, _, _, _, _, _ => ft h
  | .append, .c e es, c, X, G, ys, h, a, l, ap, cp, h2, h3, pa => by
    match ys, h with
    | [], h => exact ft h
    | x :: r, h =>
      have h' : (decide (r.length < 29) && notStar x && chkE e c x && chkEs es c r) = true := h
      simp only [Bool.and_eq_true, decide_eq_true_eq] at h'
      obtain ⟨q1, q2, q3⟩ := sEs es G h'.2
      exact te_mt G.K .append ⟨(fun z => nomatch z), fun z => nomatch z⟩ h2 h3 (by simp only [List.all_cons, h'.1.1.2, q1, Bool.and_self]) (by simp only [List.length_cons]; have := h'.1.1.1; omega) pa (ta_cons h'.1.1.2 (sE e G h'.1.2).1 q3)
  | .extend, .c e es, c, X, G, ys, h, a, l, ap, cp, h2, h3, pa => by
    match ys, h with
    | [], h => exact ft h
    | x :: r, h =>
      have h' : (decide (r.length < 29) && notStar x && chkE e c x && chkEs es c r) = true := h
      simp only [Bool.and_eq_true, decide_eq_true_eq] at h'
      obtain ⟨q1, q2, q3⟩ := sEs es G h'.2
      exact te_mt G.K .extend ⟨(fun z => nomatch z), fun z => nomatch z⟩ h2 h3 (by simp only [List.all_cons, h'.1.1.2, q1, Bool.and_self]) (by simp only [List.length_cons]; have := h'.1.1.1; omega) pa (ta_cons h'.1.1.2 (sE e G h'.1.2).1 q3)
  | .join, .c e es, c, X, G, ys, h, a, l, ap, cp, h2, h3, pa => by
    match ys, h with
    | [], h => exact ft h
    | x :: r, h =>
      have h' : (decide (r.length < 29) && notStar x && chkE e c x && chkEs es c r) = true := h
      simp only [Bool.and_eq_true, decide_eq_true_eq] at h'
      obtain ⟨q1, q2, q3⟩ := sEs es G h'.2
      exact te_mt G.K .join ⟨(fun z => nomatch z), fun z => nomatch z⟩ h2 h3 (by simp only [List.all_cons, h'.1.1.2, q1, Bool.and_self]) (by simp only [List.length_cons]; have := h'.1.1.1; omega) pa (ta_cons h'.1.1.2 (sE e G h'.1.2).1 q3)
  | .idx, .c e es, c, X, G, ys, h, a, l, ap, cp, h2, h3, pa => by
    match ys, h with
    | [], h => exact ft h
    | x :: r, h =>
      have h' : (decide (r.length < 29) && notStar x && chkE e c x && chkEs es c r) = true := h
      simp only [Bool.and_eq_true, decide_eq_true_eq] at h'
      obtain ⟨q1, q2, q3⟩ := sEs es G h'.2
      exact te_mt G.K .idx ⟨(fun z => nomatch z), fun z => nomatch z⟩ h2 h3 (by simp only [List.all_cons, h'.1.1.2, q1, Bool.and_self]) (by simp only [List.length_cons]; have := h'.1.1.1; omega) pa (ta_cons h'.1.1.2 (sE e G h'.1.2).1 q3)
  | .cnt, .c e es, c, X, G, ys, h, a, l, ap, cp, h2, h3, pa => by
    match ys, h with
    | [], h => exact ft h
    | x :: r, h =>
      have h' : (decide (r.length < 29) && notStar x && chkE e c x && chkEs es c r) = true := h
      simp only [Bool.and_eq_true, decide_eq_true_eq] at h'
      obtain ⟨q1, q2, q3⟩ := sEs es G h'.2
      exact te_mt G.K .cnt ⟨(fun z => nomatch z), fun z => nomatch z⟩ h2 h3 (by simp only [List.all_cons, h'.1.1.2, q1, Bool.and_self]) (by simp only [List.length_cons]; have := h'.1.1.1; omega) pa (ta_cons h'.1.1.2 (sE e G h'.1.2).1 q3)
  | .popi, .c e es, c, X, G, ys, h, a, l, ap, cp, h2, h3, pa => by
    match ys, h with
    | [], h => exact ft h
    | x :: r, h =>
      have h' : (decide (r.length < 29) && notStar x && chkE e c x && chkEs es c r) = true := h
      simp only [Bool.and_eq_true, decide_eq_true_eq] at h'
      obtain ⟨q1, q2, q3⟩ := sEs es G h'.2
      exact te_mt G.K .popi ⟨(fun z => nomatch z), fun z => nomatch z⟩ h2 h3 (by simp only [List.all_cons, h'.1.1.2, q1, Bool.and_self]) (by simp only [List.length_cons]; have := h'.1.1.1; omega) pa (ta_cons h'.1.1.2 (sE e G h'.1.2).1 q3)
  | .upper, .n, c, X, G, ys, h, a, l, ap, cp, h2, h3, pa => by
    cases ys <;> first | exact ft h | skip
    exact te_up G.K h2 h3 pa
  | .upper, .c _ _, _, _, _, _, h, _, _, _, _, _, _, _ => ft h
theorem sKw : ∀ (es : Es) {c : Ck} {X : Cx} (G : GoodX W T k c X) {xs : List Keyword}, chkKw es c xs = true → PK X xs (taOf W (evEs (Gm T k) es)) ∧ ∀ ns, kwNm xs = some ns → ns.length = esLen es
  | .n, c, X, G, xs, h => by
    cases xs <;> first | exact ft h | skip
    exact ⟨tk_nil, fun ns e => by cases e; rfl⟩
  | .c e es, c, X, G, xs, h => by
    match xs, h with
    | [], h => exact ft h
    | ⟨nm, x, p⟩ :: r, h =>
      have h' : (chkE e c x && chkKw es c r) = true := h
      simp only [Bool.and_eq_true] at h'
      obtain ⟨q1, q2⟩ := sKw es G h'.2
      refine ⟨tk_cons (sE e G h'.1).1 q1, fun ns e => ?_⟩
      cases nm with
      | none => cases e
      | some y =>
        simp only [kwNm, Option.map_eq_some_iff] at e
        obtain ⟨t, e1, rfl⟩ := e
        rw [List.length_cons, q2 t e1]
        rfl
theorem sO : ∀ (o : Oe) {c : Ck} {X : Cx} (G : GoodX W T k c X) {x : Option Expr}, chkO o c x = true → PO X x (toOf W (evO (Gm T k) o))
  | .n, c, X, G, x, h => by
    cases x <;> first | exact ft h | skip
    exact to_none
  | .s e, c, X, G, x, h => by
    cases x <;> first | exact ft h | skip
    exact to_some (sE e G h).1
theorem sC : ∀ (o : Oe) {c : Ck} {X : Cx} (G : GoodX W T k c X) {x : List Expr}, chkC o c x = true → PTs X x (ttOf W (evC (Gm T k) o))
  | .n, c, X, G, x, h => by
    cases x <;> first | exact ft h | skip
    exact ts_nil
  | .s e, c, X, G, x, h => by
    match x, h with
    | [], h => exact ft h
    | _ :: _ :: _, h => exact ft h
    | [y], h =>
      have h' : (tE e && chkE e c y) = true := h
      simp only [Bool.and_eq_true] at h'
      exact ts_one ((sE e G h'.2).2 h'.1).1
theorem sI : ∀ (o : It) {c : Ck} {X : Cx} (G : GoodX W T k c X) {tg x : Expr}, chkI o c tg x = true → PI X tg x (tiOf W (evI (Gm T k) o))
  | .sq a, c, X, G, tg, x, h => ti_sq G.K (sE a G h).1
  | .rg es, c, X, G, tg, x, h => by
    cases x <;> first | exact ft h | skip
    rename_i g ys kw cp
    cases g <;> first | exact ft h | skip
    rename_i g p1
    cases kw <;> first | exact ft h | skip
    have h' : (decide (g = "range") && blB c g && chkEs es c ys) = true := h
    simp only [Bool.and_eq_true, decide_eq_true_eq] at h'
    obtain ⟨⟨rfl, h2⟩, h3⟩ := h'
    obtain ⟨b1, b2⟩ := G.bl h2
    obtain ⟨q1, q2, q3⟩ := sEs es G h3
    exact ti_rg b1 b2 q1 (fun s h vs h2 e => by rw [evEs_len e, q2]) q3
  | .zip a b, c, X, G, tg, x, h => by
    cases tg <;> first | exact ft h | skip
    cases x <;> first | exact ft h | skip
    rename_i g ys kw cp
    cases g <;> first | exact ft h | skip
    rename_i g p1
    match ys, kw, h with
    | [], _, h => exact ft h
    | [_], _, h => exact ft h
    | _ :: _ :: _ :: _, _, h => exact ft h
    | [_, _], _ :: _, h => exact ft h
    | [y, z], [], h =>
      have h' : (decide (g = "zip") && blB c g && notStar y && notStar z && chkE a c y && chkE b c z) = true := h
      simp only [Bool.and_eq_true, decide_eq_true_eq] at h'
      obtain ⟨⟨⟨⟨⟨rfl, h2⟩, h3⟩, h4⟩, h5⟩, h6⟩ := h'
      obtain ⟨b1, b2⟩ := G.bl h2
      exact ti_zip G.K b1 b2 h3 h4 (sE a G h5).1 (sE b G h6).1
  | .enum a, c, X, G, tg, x, h => by
    cases tg <;> first | exact ft h | skip
    cases x <;> first | exact ft h | skip
    rename_i g ys kw cp
    cases g <;> first | exact ft h | skip
    rename_i g p1
    match ys, kw, h with
    | [], _, h => exact ft h
    | _ :: _ :: _, _, h => exact ft h
    | [_], _ :: _, h => exact ft h
    | [y], [], h =>
      have h' : (decide (g = "enumerate") && blB c g && notStar y && chkE a c y) = true := h
      simp only [Bool.and_eq_true, decide_eq_true_eq] at h'
      obtain ⟨⟨⟨rfl, h2⟩, h3⟩, h4⟩ := h'
      obtain ⟨b1, b2⟩ := G.bl h2
      exact ti_enum G.K b1 b2 h3 (sE a G h4).1
  | .rev a, c, X, G, tg, x, h => ft h
  | .keys a, c, X, G, tg, x, h => ft h
  | .items a, c, X, G, tg, x, h => ft h
  | .vals a, c, X, G, tg, x, h => ft h
end
end
end Nv
set_option Elab.async false
set_option linter.all false
set_option maxRecDepth 100000
/-! N11c: statements compared. -/
namespace Nv
open PySem L2 PyProof.Rows

/-- name = [..]: by the swapping store -/
def swB (c : Ck) (x : Str) (py : Pos) : Expr → Bool
  | .ListComp _ _ s vp => decide (c.sc.names.lookup x = some .local) && (py.line == vp.line) && !(s.names.any fun (n, k) => n == x && (k == .local || k == .cell))
  | _ => false
def notOther : Expr → Bool
  | .SetComp .. => false
  | .DictComp .. => false
  | _ => true
def isTup : Expr → Bool
  | .Tuple .. => true
  | _ => false
def nmsB (sc : Scope) (line : Nat) (ts : List Expr) : List Str := ts.filterMap fun
    | .Name id pos => if sc.names.lookup id == some .local && pos.line == line then some id else none
    | _ => none
/-- what swappedStores tells in a def's body -/
def swpV (sc : Scope) (ts vs : List Expr) : Option (Option (List Str)) :=
  if (!(ts.length == 2 || ts.length == 3) || vs.length != ts.length) = true then some none
  else if (vs.any fun | .Starred .. => true | _ => false) = true then some none
  else if ((nmsB sc ((ts.head?.map (·.pos.line)).getD 0) ts).length != ts.length || (nmsB sc ((ts.head?.map (·.pos.line)).getD 0) ts).eraseDups.length != (nmsB sc ((ts.head?.map (·.pos.line)).getD 0) ts).length) = true then some none
  else if vs.all (foldedForSure 8) = true then some none
  else if vs.all (constantsAlone 8) = true then none
  else some (some (nmsB sc ((ts.head?.map (·.pos.line)).getD 0) ts))
theorem swp_eq {env : Env} {ts vs : List Expr} {k k2 : Nat} {p p2 : Pos} {r : Option (List Str)} (hk : env.scope.kind = .function) (h : swpV env.scope ts vs = some r) : swappedStores [.Tuple ts k p] (.Tuple vs k2 p2) env = pure r := by
  have hb : (env.blockKind != .function) = false := by unfold Env.blockKind; rw [hk]; rfl
  unfold swappedStores
  simp only [hb, Bool.or_false]
  unfold swpV at h
  by_cases c1 : (!(ts.length == 2 || ts.length == 3) || vs.length != ts.length) = true
  · rw [if_pos c1] at h
    cases h
    exact if_pos c1
  · rw [if_neg c1] at h
    refine (if_neg c1).trans ?_
    by_cases c2 : (vs.any fun | .Starred .. => true | _ => false) = true
    · rw [if_pos c2] at h
      cases h
      exact if_pos c2
    · rw [if_neg c2] at h
      refine (if_neg c2).trans ?_
      by_cases c3 : ((nmsB env.scope ((ts.head?.map (·.pos.line)).getD 0) ts).length != ts.length || (nmsB env.scope ((ts.head?.map (·.pos.line)).getD 0) ts).eraseDups.length != (nmsB env.scope ((ts.head?.map (·.pos.line)).getD 0) ts).length) = true
      · rw [if_pos c3] at h
        cases h
        exact if_pos c3
      · rw [if_neg c3] at h
        refine (if_neg c3).trans ?_
        by_cases c4 : vs.all (foldedForSure 8) = true
        · rw [if_pos c4] at h
          cases h
          exact if_pos c4
        · rw [if_neg c4] at h
          refine (if_neg c4).trans ?_
          by_cases c5 : vs.all (constantsAlone 8) = true
          · rw [if_pos c5] at h
            cases h
          · rw [if_neg c5] at h
            cases h
            exact if_neg c5
theorem sw_eq {env : Env} {x : Str} {py : Pos} {v : Expr} {l : Nat} {c : Ck} (hk : env.scope.kind = .function) (hs : env.scope = c.sc) (ho : notOther v = true) : swapsWith v (some (.Name x py)) l env = pure (swB c x py v) := by
  cases v with
  | ListComp elt gs s p =>
    cases hb : swB c x py (.ListComp elt gs s p) with
    | true =>
      have h' : (decide (c.sc.names.lookup x = some .local) && (py.line == p.line) && !(s.names.any fun (n, k) => n == x && (k == .local || k == .cell))) = true := hb
      simp only [Bool.and_eq_true, decide_eq_true_eq, Bool.not_eq_true'] at h'
      exact sw_true hk (by rw [hs]; exact h'.1.1) h'.1.2 h'.2
    | false =>
      have hbk : env.blockKind = .function := by unfold Env.blockKind; rw [hk]; rfl
      have h' : (decide (c.sc.names.lookup x = some .local) && (py.line == p.line) && !(s.names.any fun (n, k) => n == x && (k == .local || k == .cell))) = false := hb
      unfold swapsWith
      show (pure (env.blockKind == .function && env.kindOf x == some .local && py.line == p.line && !(s.names.any fun (n, k) => n == x && (k == .local || k == .cell))) : Sem Bool) = pure false
      rw [hbk]
      have hk2 : (env.kindOf x == some .local) = decide (c.sc.names.lookup x = some .local) := by
        show (env.scope.names.lookup x == some .local) = _
        rw [hs]
        cases q : c.sc.names.lookup x with
        | none => rfl
        | some w => cases w <;> rfl
      rw [hk2]
      exact congrArg pure h'
  | SetComp => cases ho
  | DictComp => cases ho
  | _ => rfl
def locals2 (c : Ck) (x : Str) : Bool := decide (c.sc.names.lookup x = some .local)
/-- several names on the left, as many values on the right -/
def chkPar (c : Ck) : List Nat → List Expr → List Expr → Bool
  | is, ts, vs => match swpV c.sc ts vs with
    | some none => decide (is.length ≤ lim) && chkNs c is ts
    | some (some ns) => (match is, ts, vs, ns with
      | [i, j], [.Name x _, .Name y _], [_, _], [x', y'] => decide (x' = x) && decide (y' = y) && atB c.N i x && atB c.N j y && decide (i ≠ j) && locals2 c x && locals2 c y
      | [i, j, l], [.Name x _, .Name y _, .Name z _], [_, _, _], [x', y', z'] => decide (x' = x) && decide (y' = y) && decide (z' = z) && atB c.N i x && atB c.N j y && atB c.N l z && decide (i ≠ j) && decide (i ≠ l) && decide (j ≠ l) && locals2 c x && locals2 c y && locals2 c z
      | _, _, _, _ => false)
    | none => false
mutual
def chkS : S → Ck → Stmt → Bool
  | .ex e, c, x => (match x with
    | .Expr v _ => notComp v && chkE e c v
    | _ => false)
  | .set i e, c, x => (match x with
    | .Assign [.Name y py] v p => notOther v && atB c.N i y && locB c y && chkE e c v && (!(swB c y py v) || locals2 c y)
    | _ => false)
  | .par is es, c, x => (match x with
    | .Assign [.Tuple ts _ _] (.Tuple vs _ _) _ => chkPar c is ts vs && chkEs es c vs
    | _ => false)
  | .unp is e, c, x => (match x with
    | .Assign [.Tuple ts _ _] v _ => !(isTup v) && notOther v && chkNs c is ts && chkE e c v
    | _ => false)
  | .sti o i e, c, x => (match x with
    | .Assign [.Subscript y z _] v _ => notSlice z && notOther v && chkE e c v && chkE o c y && chkE i c z
    | _ => false)
  | .aug i o e, c, x => (match x with
    | .AugAssign (.Name y _) op v _ => decide (op = bopO o) && atB c.N i y && locB c y && chkE e c v
    | _ => false)
  | .ret e, c, x => (match x with
    | .Return (some v) _ => chkE e c v
    | _ => false)
  | .retn, c, x => (match x with
    | .Return none _ => true
    | _ => false)
  | .pass, c, x => (match x with
    | .Pass _ => true
    | _ => false)
  | .brk, c, x => (match x with
    | .Break _ => true
    | _ => false)
  | .cont, c, x => (match x with
    | .Continue _ => true
    | _ => false)
  | .ite t a b, c, x => (match x with
    | .If v xs ys _ => tE t && chkE t c v && chkSs a c xs && chkSs b c ys
    | _ => false)
  | .whl t a, c, x => (match x with
    | .While v xs [] _ => tE t && chkE t c v && chkSs a c xs
    | _ => false)
  | .fr t it b, c, x => (match x with
    | .For tg ir xs [] _ => notSet ir && chkT c t tg && chkI it c tg ir && chkSs b c xs
    | _ => false)
  | .never, _, _ => true
def chkSs : Ss → Ck → List Stmt → Bool
  | .n, _, xs => (match xs with
    | [] => true
    | _ => false)
  | .c s r, c, xs => (match xs with
    | x :: ys => chkS s c x && chkSs r c ys
    | _ => false)
end
section
variable {W : Wo} {T : Tab} {k : Nat} {c : Ck} {X : Cx}
structure GoodS (W : Wo) (T : Tab) (k : Nat) (c : Ck) (X : Cx) : Prop extends GoodX W T k c X where
  own : PassesOwn (model X.prog X.w) X.A X.env X.xe
theorem GoodX.ekind (G : GoodX W T k c X) : X.env.scope.kind = .function := by rw [G.sc]; exact G.kind
theorem GoodX.lcl (G : GoodX W T k c X) {x : Str} (h : locals2 c x = true) : X.env.scope.names.lookup x = some .local := by rw [G.sc]; exact of_decide_eq_true h
theorem s_par (G : GoodX W T k c X) {is : List Nat} {ts vs : List Expr} {k1 k2 : Nat} {p1 p2 pos : Pos} {es : Es} (h : chkPar c is ts vs = true) (p : PA X vs (taOf W (evEs (Gm T k) es))) :
    PS X (.Assign [.Tuple ts k1 p1] (.Tuple vs k2 p2) pos) (tsOf W (exS (Gm T k) (.par is es))) := by
  unfold chkPar at h
  simp only at h
  cases hs : swpV c.sc ts vs with
  | none => rw [hs] at h; exact ft h
  | some r =>
    rw [hs] at h
    have hw : ∀ {k1 k2 : Nat} {p1 p2 : Pos}, swappedStores [.Tuple ts k1 p1] (.Tuple vs k2 p2) X.env = pure r := swp_eq G.ekind (by rw [G.sc]; exact hs)
    cases r with
    | none =>
      have h' : (decide (is.length ≤ lim) && chkNs c is ts) = true := h
      simp only [Bool.and_eq_true, decide_eq_true_eq] at h'
      obtain ⟨q, l, f⟩ := s_Ns G h'.2
      exact st_parT G.K (pg_tup G.calm q l f) rfl hw rfl h'.1 p
    | some ns =>
      simp only at h
      split at h
      · rename_i i j x px y py a b x' y'
        simp only [Bool.and_eq_true, decide_eq_true_eq] at h
        obtain ⟨⟨⟨⟨⟨⟨rfl, rfl⟩, h3⟩, h4⟩, h5⟩, h6⟩, h7⟩ := h
        exact st_par2 G.calm G.nd (by rw [G.N]; exact atB_of h3) (by rw [G.N]; exact atB_of h4) h5 (G.lcl h6) (G.lcl h7) p hw
      · rename_i i j l x px y py z pz a b d x' y' z'
        simp only [Bool.and_eq_true, decide_eq_true_eq] at h
        obtain ⟨⟨⟨⟨⟨⟨⟨⟨⟨⟨⟨rfl, rfl⟩, rfl⟩, h3⟩, h4⟩, h5⟩, h6⟩, h7⟩, h8⟩, h9⟩, h10⟩, h11⟩ := h
        exact st_par3 G.calm G.nd (by rw [G.N]; exact atB_of h3) (by rw [G.N]; exact atB_of h4) (by rw [G.N]; exact atB_of h5) h6 h7 h8 (G.lcl h9) (G.lcl h10) (G.lcl h11) p hw
      · cases h
/-- swapsWith of a target that is no name -/
theorem sws_ok {tg v : Expr} {l : Nat} {env : Env} (ht : ∀ x p, tg ≠ .Name x p) (ho : notOther v = true) : swapsWithSole [tg] v l env = pure false := by
  show swapsWith v (some tg) l env = pure false
  cases v with
  | SetComp => cases ho
  | DictComp => cases ho
  | ListComp => cases tg <;> first | rfl | exact absurd rfl (ht _ _)
  | _ => rfl
theorem swp_no {ts : List Expr} {v : Expr} {k : Nat} {p : Pos} {env : Env} (h : (!(isTup v)) = true) : swappedStores [.Tuple ts k p] v env = pure none := by
  cases v <;> first | rfl | exact ft h
theorem swp_no2 {o i : Expr} {v : Expr} {p : Pos} {env : Env} : swappedStores [.Subscript o i p] v env = pure none := by
  cases v <;> rfl
theorem asg_sub {o i : Expr} {p : Pos} {env : Env} (h : notSlice i = true) : ∀ v, assign (.Subscript o i p) env v = (do
      let ov ← holding [v] (eval o env)
      let iv ← holding [v, ov] (eval i env)
      standAt p
      holding [v, ov, iv] (setItem ov iv v)
      release [v, ov, iv] []) := fun v => by
  cases i <;> first | rfl | exact ft h
variable (W T k)
mutual
theorem sS : ∀ (e : S) {c : Ck} {X : Cx} (G : GoodS W T k c X) {x : Stmt}, chkS e c x = true → PS X x (tsOf W (exS (Gm T k) e))
  | .ex e, c, X, G, x, h => by
    cases x <;> first | exact ft h | skip
    have h' : (notComp _ && chkE e c _) = true := h
    simp only [Bool.and_eq_true] at h'
    exact st_ex h'.1 (sE W T k e G.toGoodX h'.2).1
  | .set i e, c, X, G, x, h => by
    cases x <;> first | exact ft h | skip
    rename_i tg v p
    match tg, h with
    | [], h => exact ft h
    | y :: _ :: _, h => cases y <;> exact ft h
    | [y], h =>
      cases y <;> first | exact ft h | skip
      rename_i y py
      have h' : (notOther v && atB c.N i y && locB c y && chkE e c v && (!(swB c y py v) || locals2 c y)) = true := h
      simp only [Bool.and_eq_true] at h'
      obtain ⟨⟨⟨⟨h1, h2⟩, h3⟩, h4⟩, h5⟩ := h'
      obtain ⟨q1, q2⟩ := G.toGoodX.loc h3
      have hw := sw_eq (l := p.line) (py := py) (x := y) G.toGoodX.ekind G.sc h1
      cases hb : swB c y py v with
      | false =>
        rw [hb] at hw
        exact st_set G.nd (by rw [G.N]; exact atB_of h2) q1 q2 hw (sE W T k e G.toGoodX h4).1
      | true =>
        rw [hb] at hw h5
        have h5 := G.toGoodX.lcl (show locals2 c y = true from h5)
        cases v with
        | ListComp el gs s vp =>
          match e, h4 with
          | .k d, h4 => exact ft h4
          | .v _, h4 => exact ft h4
          | .g _, h4 => exact ft h4
          | .gix .., h4 => exact ft h4
          | .bin .., h4 => exact ft h4
          | .neg .., h4 => exact ft h4
          | .cmp .., h4 => exact ft h4
          | .chn .., h4 => exact ft h4
          | .and .., h4 => exact ft h4
          | .or .., h4 => exact ft h4
          | .not .., h4 => exact ft h4
          | .ite .., h4 => exact ft h4
          | .tup .., h4 => exact ft h4
          | .lst .., h4 => exact ft h4
          | .dct .., h4 => exact ft h4
          | .dtn, h4 => exact ft h4
          | .ix .., h4 => exact ft h4
          | .sl .., h4 => exact ft h4
          | .rv .., h4 => exact ft h4
          | .cal .., h4 => exact ft h4
          | .calk .., h4 => exact ft h4
          | .bi .., h4 => exact ft h4
          | .mt .., h4 => exact ft h4
          | .isi .., h4 => exact ft h4
          | .lc m t it d e, h4 =>
            match gs, h4, hw with
            | [], h4, _ => exact ft h4
            | ⟨_, _, _, _⟩ :: _ :: _, h4, _ => exact ft h4
            | [⟨tg, ir, fs, as⟩], h4, hw =>
              have h' : (decide (as = 0) && notSet ir && blkC c.N c.sc s (ownOf c.N t) && chkI it c tg ir && chkT (c.blk s) t tg && chkC d (c.blk s) fs && chkE e (c.blk s) el) = true := h4
              simp only [Bool.and_eq_true, decide_eq_true_eq] at h'
              obtain ⟨⟨⟨⟨⟨⟨rfl, g2⟩, g3⟩, g4⟩, g5⟩, g6⟩, g7⟩ := h'
              have G' := G.toGoodX
              have ok : BlkOk X.N X.env.scope s (ownOf c.N t) := by
                rw [G'.N, G'.sc]
                exact blkOk_by g3
              exact st_setLc (m := m) G'.K G'.calm G'.nd (by rw [G'.N]; exact atB_of h2) h5 hw (sI W T k it G' g4) ok (own_snd _ _) (fun sh H C cl fp => s_T (G'.blk ok sh H C cl fp) g5) (fun sh H C cl fp => sC W T k d (G'.blk ok sh H C cl fp) g6) (fun sh H C cl fp => (sE W T k e (G'.blk ok sh H C cl fp) g7).1) g2
          | .lc2 m t it t2 it2 d e, h4 =>
            match gs, h4, hw with
            | [], h4, _ => exact ft h4
            | [⟨_, _, [], _⟩], h4, _ => exact ft h4
            | ⟨_, _, _ :: _, _⟩ :: _, h4, _ => exact ft h4
            | ⟨_, _, [], _⟩ :: ⟨_, _, _, _⟩ :: _ :: _, h4, _ => exact ft h4
            | [⟨tg, ir, [], as⟩, ⟨tg2, ir2, fs, as2⟩], h4, hw =>
              have h' : (decide (as = 0) && decide (as2 = 0) && notSet ir && notSet ir2 && blkC c.N c.sc s (ownOf c.N t ++ ownOf c.N t2) && chkI it c tg ir && chkT (c.blk s) t tg && chkI it2 (c.blk s) tg2 ir2 && chkT (c.blk s) t2 tg2 && chkC d (c.blk s) fs && chkE e (c.blk s) el) = true := h4
              simp only [Bool.and_eq_true, decide_eq_true_eq] at h'
              obtain ⟨⟨⟨⟨⟨⟨⟨⟨⟨⟨rfl, rfl⟩, g1⟩, g2⟩, g3⟩, g4⟩, g5⟩, g6⟩, g7⟩, g8⟩, g9⟩ := h'
              have G' := G.toGoodX
              have ok : BlkOk X.N X.env.scope s (ownOf c.N t ++ ownOf c.N t2) := by
                rw [G'.N, G'.sc]
                exact blkOk_by g3
              exact st_setLc2 (m := m) G'.K G'.calm G'.nd (by rw [G'.N]; exact atB_of h2) h5 hw (sI W T k it G' g4) ok (own_snd2 _ _ _) (fun sh H C cl fp => s_T (G'.blk ok sh H C cl fp) g5) (fun sh H C cl fp => sI W T k it2 (G'.blk ok sh H C cl fp) g6) (fun sh H C cl fp => s_T (G'.blk ok sh H C cl fp) g7) (fun sh H C cl fp => sC W T k d (G'.blk ok sh H C cl fp) g8) (fun sh H C cl fp => (sE W T k e (G'.blk ok sh H C cl fp) g9).1) g1 g2
        | _ => exact ft hb
  | .par is es, c, X, G, x, h => by
    cases x <;> first | exact ft h | skip
    rename_i tg v p
    match tg, h with
    | [], h => exact ft h
    | y :: _ :: _, h => cases y <;> cases v <;> exact ft h
    | [y], h =>
      cases y <;> cases v <;> first | exact ft h | skip
      have h' : (chkPar c is _ _ && chkEs es c _) = true := h
      simp only [Bool.and_eq_true] at h'
      exact s_par G.toGoodX h'.1 (sEs W T k es G.toGoodX h'.2).2.2
  | .unp is e, c, X, G, x, h => by
    cases x <;> first | exact ft h | skip
    rename_i tg v p
    match tg, h with
    | [], h => exact ft h
    | y :: _ :: _, h => cases y <;> exact ft h
    | [y], h =>
      cases y <;> first | exact ft h | skip
      rename_i ts k1 p1
      have h' : (!(isTup v) && notOther v && chkNs c is ts && chkE e c v) = true := h
      simp only [Bool.and_eq_true] at h'
      obtain ⟨⟨⟨h1, h2⟩, h3⟩, h4⟩ := h'
      exact st_unp (t := .t is) G.K (s_T G.toGoodX (show chkT c (.t is) (.Tuple ts k1 p1) = true from h3)) (sws_ok (fun _ _ z => nomatch z) h2) (swp_no h1) rfl (sE W T k e G.toGoodX h4).1
  | .sti o i e, c, X, G, x, h => by
    cases x <;> first | exact ft h | skip
    rename_i tg v p
    match tg, h with
    | [], h => exact ft h
    | y :: _ :: _, h => cases y <;> exact ft h
    | [y], h =>
      cases y <;> first | exact ft h | skip
      rename_i y z p1
      have h' : (notSlice z && notOther v && chkE e c v && chkE o c y && chkE i c z) = true := h
      simp only [Bool.and_eq_true] at h'
      obtain ⟨⟨⟨⟨h1, h2⟩, h3⟩, h4⟩, h5⟩ := h'
      exact st_sti G.toGoodX.hu1 h1 (sws_ok (fun _ _ z => nomatch z) h2) swp_no2 (asg_sub h1) rfl (sE W T k e G.toGoodX h3).1 (sE W T k o G.toGoodX h4).1 (sE W T k i G.toGoodX h5).1
  | .aug i o e, c, X, G, x, h => by
    cases x <;> first | exact ft h | skip
    rename_i tg op v p
    cases tg <;> first | exact ft h | skip
    have h' : (decide (op = bopO o) && atB c.N i _ && locB c _ && chkE e c v) = true := h
    simp only [Bool.and_eq_true, decide_eq_true_eq] at h'
    obtain ⟨⟨⟨rfl, h2⟩, h3⟩, h4⟩ := h'
    obtain ⟨q1, q2⟩ := G.toGoodX.loc h3
    exact st_aug G.nd o (by rw [G.N]; exact atB_of h2) q1 q2 (sE W T k e G.toGoodX h4).1
  | .ret e, c, X, G, x, h => by
    cases x <;> first | exact ft h | skip
    rename_i v p
    cases v <;> first | exact ft h | skip
    exact st_ret (sE W T k e G.toGoodX h).1
  | .retn, c, X, G, x, h => by
    cases x <;> first | exact ft h | skip
    rename_i v p
    cases v <;> first | exact ft h | skip
    exact st_retn
  | .pass, c, X, G, x, h => by
    cases x <;> first | exact ft h | skip
    exact st_pass
  | .brk, c, X, G, x, h => by
    cases x <;> first | exact ft h | skip
    exact st_brk
  | .cont, c, X, G, x, h => by
    cases x <;> first | exact ft h | skip
    exact st_cont
  | .ite t a b, c, X, G, x, h => by
    cases x <;> first | exact ft h | skip
    have h' : (tE t && chkE t c _ && chkSs a c _ && chkSs b c _) = true := h
    simp only [Bool.and_eq_true] at h'
    obtain ⟨⟨⟨h1, h2⟩, h3⟩, h4⟩ := h'
    exact st_ite G.K ((sE W T k t G.toGoodX h2).2 h1).1 (sSs a G h3) (sSs b G h4)
  | .whl t a, c, X, G, x, h => by
    cases x <;> first | exact ft h | skip
    rename_i v xs ys p
    cases ys <;> first | exact ft h | skip
    have h' : (tE t && chkE t c v && chkSs a c xs) = true := h
    simp only [Bool.and_eq_true] at h'
    obtain ⟨⟨h1, h2⟩, h3⟩ := h'
    exact st_whl (n := rounds) G.own ((sE W T k t G.toGoodX h2).2 h1).1 (sSs a G h3)
  | .fr t it b, c, X, G, x, h => by
    cases x <;> first | exact ft h | skip
    rename_i tg ir xs ys p
    cases ys <;> first | exact ft h | skip
    have h' : (notSet ir && chkT c t tg && chkI it c tg ir && chkSs b c xs) = true := h
    simp only [Bool.and_eq_true] at h'
    obtain ⟨⟨⟨h1, h2⟩, h3⟩, h4⟩ := h'
    exact st_fr G.K G.own G.calm (sI W T k it G.toGoodX h3) (s_T G.toGoodX h2) (sSs b G h4) h1
  | .never, c, X, G, x, h => st_never
theorem sSs : ∀ (e : Ss) {c : Ck} {X : Cx} (G : GoodS W T k c X) {xs : List Stmt}, chkSs e c xs = true → PSs X xs (tsOf W (exSs (Gm T k) e))
  | .n, c, X, G, xs, h => by
    cases xs <;> first | exact ft h | skip
    exact ss_nil
  | .c s r, c, X, G, xs, h => by
    cases xs <;> first | exact ft h | skip
    have h' : (chkS s c _ && chkSs r c _) = true := h
    simp only [Bool.and_eq_true] at h'
    exact ss_cons (sS s G h'.1) (sSs r G h'.2)
end
end
end Nv
set_option Elab.async false
set_option linter.all false
set_option maxRecDepth 100000
/-! N12: functions. -/
namespace Nv
open PySem L2 PyProof.Rows

section
variable {W : Wo} {φ φ1 φ' : Ph} {h h1 h2 h' : Hs} {H H1 H' : Hp}
/-! ### a function's end -/
theorem refOk_of (a : AbsH W φ h H) {x : V} : ∀ {v : Val}, RepV W φ h H x v → refOk h.length v
  | .d _, _ => trivial
  | .r i, ⟨p, e, _⟩ => by
    show i < h.length
    rw [← a.len]
    exact (List.getElem?_eq_some_iff.mp e).1
theorem paired_all {α β : Type} {F : α → β → Prop} {P : β → Prop} (f : ∀ a b, F a b → P b) : ∀ {xs : List α} {ys : List β}, Paired F xs ys → ∀ y ∈ ys, P y
  | _, _, .nil, _, m => nomatch m
  | _, _, .cons r t, y, m => by
    rcases List.mem_cons.mp m with rfl | m
    · exact f _ _ r
    · exact paired_all f t y m
/-- what stands in the heap refers to what stands in it -/
theorem AbsH.shut (a : AbsH W φ h H) : Nv.shut h.length h := fun o m => by
  rw [List.take_length] at m
  obtain ⟨i, hi, e⟩ := List.getElem_of_mem m
  have e2 : h[i]? = some o := by rw [List.getElem?_eq_getElem hi, e]
  obtain ⟨p, _, r⟩ := a.alive e2
  cases o with
  | lst xs =>
    obtain ⟨vs, _, _, r⟩ := r
    exact paired_all (fun x v r => refOk_of a r) r
  | dct xs =>
    obtain ⟨vs, _, _, r⟩ := r
    exact paired_all (fun x v r => refOk_of a r.2.2) r
  | dtt xs =>
    obtain ⟨_, vs, _, _, r⟩ := r
    exact paired_all (fun x v r => refOk_of a r.2) r
  | ins c fs =>
    obtain ⟨_, vs, _, _, r⟩ := r
    exact paired_all (fun x v r => refOk_of a r.2) r
  | dead => trivial
theorem al_take (n : Nat) {x : Addr} (z : Al ⟨φ1.l.take n, φ1.z⟩ (h1.take n) x) : Al φ1 h1 x := by
  rcases z with ⟨i, o, e1, e2, nd⟩ | z
  · have e1 : (φ1.l.take n)[i]? = some x := e1
    have hi : i < n := by
      by_cases q : i < n
      · exact q
      · rw [List.getElem?_eq_none (by rw [List.length_take]; omega)] at e1
        cases e1
    rw [List.getElem?_take_of_lt hi] at e1 e2
    exact .inl ⟨i, o, e1, e2, nd⟩
  · exact .inr z
theorem rep_take (n : Nat) {x : V} : ∀ {v : Val}, refOk n v → RepV W φ1 h1 H x v → RepV W ⟨φ1.l.take n, φ1.z⟩ (h1.take n) H x v
  | .d d, _, r => RepD.grow (fun _ _ _ e => .inl e) (fun a z => .inl (al_take n z)) d x r
  | .r i, l, ⟨p, e, ex⟩ => ⟨p, by show (φ1.l.take n)[i]? = some p; rw [List.getElem?_take_of_lt l, e], ex⟩
theorem paired_imp2 {α β : Type} {F G : α → β → Prop} {P : β → Prop} (f : ∀ a b, P b → F a b → G a b) : ∀ {xs : List α} {ys : List β}, (∀ y ∈ ys, P y) → Paired F xs ys → Paired G xs ys
  | _, _, _, .nil => .nil
  | _, _, k, .cons r t => .cons (f _ _ (k _ (List.mem_cons_self ..)) r) (paired_imp2 f (fun y m => k y (List.mem_cons_of_mem _ m)) t)
theorem ob_take (n : Nat) {a : Addr} : ∀ {o : AO}, objOk n o → ObR W φ1 h1 H a o → ObR W ⟨φ1.l.take n, φ1.z⟩ (h1.take n) H a o
  | .lst xs, k, ⟨vs, e, l, r⟩ => ⟨vs, e, l, paired_imp2 (P := fun (p : Val) => refOk n p) (fun x v p r => rep_take n p r) k r⟩
  | .dct xs, k, ⟨vs, e, l, r⟩ => ⟨vs, e, l, paired_imp2 (P := fun (p : Key × Val) => refOk n p.2) (fun x v p r => ⟨r.1, r.2.1, rep_take n p r.2.2⟩) k r⟩
  | .ins c xs, k, ⟨dx, vs, e, l, r⟩ => ⟨dx, vs, e, l, paired_imp2 (P := fun (p : Str × Val) => refOk n p.2) (fun x v p r => ⟨r.1, rep_take n p r.2⟩) k r⟩
  | .dtt xs, k, ⟨t, vs, e, l, r⟩ => ⟨t, vs, e, l, paired_imp2 (P := fun (p : List Key × Val) => refOk n p.2) (fun x v p r => ⟨r.1, rep_take n p r.2⟩) k r⟩
  | .dead, _, _ => trivial
theorem AbsH.take (a : AbsH W φ1 h1 H) {n : Nat} (s : Nv.shut n h1) : AbsH W ⟨φ1.l.take n, φ1.z⟩ (h1.take n) H := by
  have at1 : ∀ {α : Type} {l : List α} {i : Nat} {x : α}, (l.take n)[i]? = some x → i < n ∧ l[i]? = some x := by
    intro α l i x e
    have hi : i < n := by
      by_cases q : i < n
      · exact q
      · rw [List.getElem?_eq_none (by rw [List.length_take]; omega)] at e
        cases e
    rw [List.getElem?_take_of_lt hi] at e
    exact ⟨hi, e⟩
  refine ⟨by show (φ1.l.take n).length = _; rw [List.length_take, List.length_take, a.len], fun i j x o u e1 e2 e3 e4 n1 n2 => a.inj i j x o u (at1 e1).2 (at1 e2).2 (at1 e3).2 (at1 e4).2 n1 n2, fun i x o e1 e2 => ?_, a.zs, fun b hb z => a.zd b hb ?_⟩
  · exact ob_take n (s o (List.mem_of_getElem? e2)) (a.ob i x o (at1 e1).2 (at1 e2).2)
  · obtain ⟨i, o, e1, e2, nd⟩ := z
    exact ⟨i, o, (at1 e1).2, (at1 e2).2, nd⟩
theorem grow_len (a : AbsH W φ h H) (a1 : AbsH W φ1 h1 H1) (g : Grow φ h H φ1 h1 H1) : h.length ≤ h1.length := by
  obtain ⟨ψ, e⟩ := g.pre
  rw [← a.len, ← a1.len, e, List.length_append]
  omega
theorem frzR_inv {fz : Bool} {x : V} {v z : Val} (a : AbsH W φ1 h1 H) (r : RepV W φ1 h1 H x v) (e : frzR fz v h1 = .ok z h2) : Grow φ1 h1 H φ1 h2 H ∧ AbsH W φ1 h2 H ∧ RepV W φ1 h2 H x z := by
  have same : Res.ok v h1 = Res.ok z h2 → Grow φ1 h1 H φ1 h2 H ∧ AbsH W φ1 h2 H ∧ RepV W φ1 h2 H x z := fun e => by
    cases e
    exact ⟨Grow.refl, a, r⟩
  cases fz with
  | false => exact same e
  | true =>
    cases v with
    | d => exact same e
    | r i =>
      have e' : (match frz (.r i) h1 with
        | .ok x h' => Res.ok (Val.d x) h'
        | .bad => .ok (.r i) h1) = .ok z h2 := e
      cases q : frz (.r i) h1 with
      | bad => rw [q] at e'; exact same e'
      | ok y h3 =>
        rw [q] at e'
        cases e'
        exact frz_inv a r q
theorem exit_want {fz : Bool} {v z : Val} {Q : VK} {x : V} (e : exitC fz h v h1 = .ok z h') (k : Wnt W φ h H z h' Q) (a : AbsH W φ h H) (g : Grow φ h H φ1 h1 H1) (a1 : AbsH W φ1 h1 H1) (r : RepV W φ1 h1 H1 x v) : Q x H1 := by
  unfold exitC at e
  cases q : frzR fz v h1 with
  | bad => rw [q] at e; cases e
  | ok y h2 =>
    rw [q] at e
    obtain ⟨g2, a2, r2⟩ := frzR_inv a1 r q
    have g3 := g.trans g2
    cases y with
    | r i => cases e; exact k x φ1 H1 g3 a2 r2
    | d d =>
      simp only at e
      by_cases c : h2.take h.length = h ∨ (h.length ≤ h2.length ∧ Nv.shut h.length h2)
      · rw [if_pos c] at e
        cases e
        have s : Nv.shut h.length h2 := by
          rcases c with c | c
          · intro o m
            rw [c] at m
            exact a.shut o (by rw [List.take_length]; exact m)
          · exact c.2
        have el : φ1.l.take h.length = φ.l := by
          obtain ⟨ψ, e⟩ := g3.pre
          rw [e, ← a.len, List.take_left]
        have gr : Grow φ h H ⟨φ1.l.take h.length, φ1.z⟩ (h2.take h.length) H1 := by
          refine ⟨⟨⟨[], by rw [el]; simp⟩, g3.keep, fun b z => g3.new b (al_take _ z)⟩, g3.z, g3.zk⟩
        exact k x _ H1 gr (a2.take s) (rep_take _ trivial r2)
      · rw [if_neg c] at e
        cases e
        exact k x φ1 H1 g3 a2 r2
end
/-! ### a def keeps its promise -/
/-- from a body: as the layer's rule, for callers that nothing guards -/
theorem fn_ofG {P : Program} {w : World} {K : PySem.W.Frag} {mg : Str → Option Value} {base : Heap} {k : Nat} {f : Addr} {name qual : Str} {params : Arguments} {body : List Stmt} {scope : Scope} {dV kV doc pm cdv ct oc : Value} {an od : Option Addr}
    {osl : Array (Option Value)} {N ps : List Str} {sp : Sp} (lk : K.lookup f = some ⟨oc, od, .func (PySem.W.fnOf name qual params body scope dV kV doc pm an cdv ct), osl⟩) (hcd : PySem.W.codeIn K cdv qual = true) (S : FnScope N ps scope)
    (len : ∀ vs H Q E, sp vs H Q E → vs.length = ps.length)
    (hbody : ∀ (A : Around) (outer : List Env) (s : Shared) (H : Hp) (vs : List V) (Q : VK) (E : XK), RoomG k (A.deeper (envOfC qual scope s.heap.objs.size f cdv)) → sp vs H Q E →
      ∃ t, PSs (cxOf CX0 P w K mg base N qual scope f cdv A outer s H E) body t ∧ t { nx := fun _ H' => Q .non H', rt := Q } (start N vs) H) :
    FnG P w K mg base CX0 (k + 1) f (PySem.W.fnOf name qual params body scope dV kV doc pm an cdv ct) ps sp := by
  refine ⟨len, fun A outer s H args us vs Q E hr e0 hb r hsp => ?_⟩
  have hl := len _ _ _ _ hsp
  have KX : K.In s.heap := e0.mod.kin.keeps fun b o e => (e0.bs b o e).1
  have lim : s.heap.NoLimit := e0.mod.nolimit.keeps fun b o e => (e0.bs b o e).1
  refine codeAny_call_function hr.room.depth (KX _ _ lk) rfl S.co S.gen rfl (PySem.W.codeRec_of KX hcd) (hb _ _ _ _ ?_)
  refine wpAny_newFunctionEnv_cells S.kind (fun y hy => (S.par y.1 (List.of_mem_zip hy).1).imp id fun q => ⟨q, PySem.W.cellsFrom_some _ _ _ (.inl q)⟩) fun env he s1 x => ?_
  subst he
  obtain ⟨t, ht, hq⟩ := hbody A outer s H vs Q E (hr.deeper _) hsp
  have I := inv_start (CX := CX0) (E := E) S hr.room.hd e0 hl r x
  refine ⟨lim.keeps x.toInCall.keep, codeAny_func (wpAny_mono (ht.run [] s1 (start N vs) H _ I hq) (fun fl s' hs => ?_) fun e s' hs => hs)⟩
  cases fl with
  | next =>
    obtain ⟨σ', H', J, q⟩ := hs
    exact ⟨.non, H', J.os, J.bare, J.base, J.hok, rfl, q⟩
  | ret u =>
    obtain ⟨v, σ', H', J, rv, q⟩ := hs
    exact ⟨v, H', J.os, J.bare, J.base, J.hok, rv, q⟩
  | brk =>
    obtain ⟨_, _, _, q⟩ := hs
    exact False.elim q
  | cont =>
    obtain ⟨_, _, _, q⟩ := hs
    exact False.elim q
end Nv
set_option Elab.async false
set_option linter.all false
set_option maxRecDepth 100000
/-! N12b: a program's functions, a law's end. -/
namespace Nv
open PySem L2 PyProof.Rows

/-- one def: as it stands in the text, its names, its parameters -/
structure Fp where
  d : He.DefD
  N : List Str
  ps : List Str
def fsB (N ps : List Str) (sc : Scope) : Bool := decide (sc.kind = .function) && !sc.isCoroutine && !sc.isGenerator && decide N.Nodup && decide (N.take ps.length = ps) &&
  (ps.all fun x => match sc.names.lookup x with
    | some .local => true
    | some .cell => true
    | _ => false) && sc.names.all fun y => match y.2 with
    | .free => false
    | _ => true
theorem fs_ok {N ps : List Str} {sc : Scope} (h : fsB N ps sc = true) : FnScope N ps sc := by
  unfold fsB at h
  simp only [Bool.and_eq_true, decide_eq_true_eq, Bool.not_eq_true', List.all_eq_true] at h
  obtain ⟨⟨⟨⟨⟨⟨h1, h2⟩, h3⟩, h4⟩, h5⟩, h6⟩, h7⟩ := h
  refine ⟨h1, h2, h3, h4, h5, fun x hx => ?_, fun y hy e => ?_⟩
  · have := h6 x hx
    split at this
    · exact .inl (by assumption)
    · exact .inr (by assumption)
    · cases this
  · have := h7 y hy
    rw [e] at this
    cases this
def Ck.fun (c : Ck) (N : List Str) (sc : Scope) : Ck := { c with N := N, sc := sc, fn := fun _ => true }
def fnB (c : Ck) (p : Fp) (f : Fn) : Bool := fsB p.N p.ps p.d.scope && decide (f.np = p.ps.length) && decide (f.nn = p.N.length) && chkSs f.body (c.fun p.N p.d.scope) p.d.body
/-- how a def's arguments are bound -/
def BdOk (p : Fp) : Prop := ∀ (kV doc pm : Value) (an : Option Addr) (cdv ct : Value) (us : List Value), us.length = p.ps.length → bindArgs (PySem.W.fnOf p.d.name p.d.qual p.d.params p.d.body p.d.scope .none kV doc pm an cdv ct) ⟨us, []⟩ = pure (p.ps.zip us)
def BkOk (p : Fp) (n : Nat) (ks : List Str) (q : List Nat) : Prop := ∀ (kV doc pm : Value) (an : Option Addr) (cdv ct : Value) (us ws : List Value), us.length = n → ws.length = ks.length →
  bindArgs (PySem.W.fnOf p.d.name p.d.qual p.d.params p.d.body p.d.scope .none kV doc pm an cdv ct) ⟨us, ks.zip ws⟩ = pure (p.ps.zip (perm us ws q))
/-- a program of N1's language and the text -/
structure Prog where
  T : Tab
  c : Ck
  fps : List Fp
structure PrOk (p : Prog) : Prop where
  chk : Paired (fun a f => fnB p.c a f = true) p.fps p.T.fns
  nm : p.c.fns = p.fps.map fun a => a.d.name
  bd : ∀ a ∈ p.fps, BdOk a
  bk : ∀ z ∈ p.c.kws, ∀ a, p.fps[z.1]? = some a → BkOk a z.2.1 z.2.2.1 z.2.2.2
/-- what is read off the heap -/
structure Says (w : World) (K : PySem.W.Frag) (mg : Str → Option Value) (p : Prog) : Prop where
  fd : ∀ (n : Nat) (a : Fp), p.fps[n]? = some a → ∃ f fd, FunD K a.d.name a.d.qual a.d.params a.d.body a.d.scope [] [] f fd ∧ mg a.d.name = some (.ref f)
  gls : ∀ (n : Nat) (x : Str), p.c.gls[n]? = some x → ∃ d v u, p.T.g n = some d ∧ mg x = some u ∧ RelV v u ∧ (((∀ A H, RepD K A H v d) ∧ ∀ k, d ≠ .dict k) ∨ GDct K w v d)
  free : ∀ x ∈ p.c.free, mg x = none
  tk : p.c.tk = true → TkOk K
section
variable {P : Program} {w : World} {W : Wo} {mg : Str → Option Value} {base : Heap} {p : Prog}
/-- a function at a depth -/
def FnAt (P : Program) (w : World) (W : Wo) (mg : Str → Option Value) (base : Heap) (p : Prog) (k n : Nat) (x : Str) : Prop := ∃ (f : Addr) (fd : FuncData) (ps : List Str), FnG P w W.K mg base CX0 k f fd ps (spOf W p.T k n) ∧ mg x = some (.ref f) ∧ PySem.W.keepIn W.K (.ref f) = true ∧
  (∀ (s : Shared) (us : List Value), W.K.In s.heap → us.length = ps.length → BindsTo s fd ⟨us, []⟩ (ps.zip us)) ∧ (∃ fn, p.T.fns[n]? = some fn ∧ ps.length = fn.np) ∧ (∃ a, p.fps[n]? = some a ∧ ps = a.ps) ∧
  ∀ nn ks q, (n, nn, ks, q) ∈ p.c.kws → ∀ (s : Shared) (us ws : List Value), W.K.In s.heap → us.length = nn → ws.length = ks.length → BindsTo s fd ⟨us, ks.zip ws⟩ (ps.zip (perm us ws q))
theorem sp_len {T : Tab} {k n : Nat} {fn : Fn} (e : T.fns[n]? = some fn) {vs : List V} {H : Hp} {Q : VK} {E : XK} (h : spOf W T k n vs H Q E) : vs.length = fn.np := by
  obtain ⟨φ, h, ws, z, h', a, r, ⟨fn', e', hl⟩, _⟩ := h
  rw [e] at e'
  cases e'
  rw [RepVs.length r, hl]
/-- the state at a function's entry -/
theorem start_abs {φ : Ph} {h : Hs} {H : Hp} {N : List Str} {vs : List V} {ws : List Val} {n : Nat} (r : RepVs W φ h H vs ws) (hn : n = N.length) : AbsS W φ h H (L2.start N vs) (startS n ws) := by
  have hl := RepVs.length r
  refine ⟨?_, fun i v e => ?_⟩
  · unfold L2.start startS
    rw [List.length_append, List.length_append, List.length_map, List.length_map, List.length_replicate, List.length_replicate, hl, hn]
  · unfold startS at e
    unfold L2.start
    by_cases hi : i < ws.length
    · rw [List.getElem?_append_left (by rw [List.length_map]; exact hi), List.getElem?_map] at e
      rw [List.getElem?_append_left (by rw [List.length_map, hl]; exact hi), List.getElem?_map]
      rcases paired_get r i with ⟨e1, e2⟩ | ⟨x, y, e1, e2, q⟩
      · rw [e2] at e; cases e
      · rw [e2] at e
        cases e
        exact ⟨x, by rw [e1]; rfl, q⟩
    · rw [List.getElem?_append_right (by rw [List.length_map]; omega), List.getElem?_replicate] at e
      split at e <;> cases e
theorem fn_step {k n : Nat} {x : Str} (O : PrOk p) (S : Says w W.K mg p) (all : ∀ n x, p.c.fns[n]? = some x → FnAt P w W mg base p k n x) (hx : p.c.fns[n]? = some x) : FnAt P w W mg base p (k + 1) n x := by
  rw [O.nm] at hx
  obtain ⟨a, ea, rfl⟩ := map_at hx
  obtain ⟨f, fd, F, hm⟩ := S.fd n a ea
  obtain ⟨fn, ef, hb⟩ : ∃ fn, p.T.fns[n]? = some fn ∧ fnB p.c a fn = true := by
    rcases paired_get O.chk n with ⟨e1, _⟩ | ⟨a', fn, e1, e2, q⟩
    · rw [ea] at e1; cases e1
    · rw [ea] at e1; cases e1; exact ⟨fn, e2, q⟩
  unfold fnB at hb
  simp only [Bool.and_eq_true, decide_eq_true_eq] at hb
  obtain ⟨⟨⟨h1, h2⟩, h3⟩, h4⟩ := hb
  have sc := fs_ok h1
  obtain ⟨oc, od, dV, kV, doc, pm, an, cdv, ct, osl, rfl, lk, hcd, hD, hK⟩ := F.ex
  have hdV : dV = .none := by
    rcases hD with ⟨_, rfl⟩ | ⟨e, _⟩
    · rfl
    · exact absurd rfl e
  subst hdV
  refine ⟨f, _, a.ps, ?_, hm, F.kp, fun s us _ hl => .of_eq (O.bd a (List.mem_of_getElem? ea) kV doc pm an cdv ct us hl), ⟨fn, ef, h2.symm⟩, ⟨a, ea, rfl⟩, fun nn ks q hq s us ws _ l1 l2 => .of_eq (O.bk _ hq a ea kV doc pm an cdv ct us ws l1 l2)⟩
  refine fn_ofG lk hcd sc (fun vs H Q E h => (sp_len ef h).trans h2) fun A outer s H vs Q E hr hsp => ?_
  obtain ⟨φ, h, ws, z, h', aH, r, ⟨fn', ef', hl⟩, ec, kk⟩ := hsp
  have G : GoodS W p.T k (p.c.fun a.N a.d.scope) (cxOf CX0 P w W.K mg base a.N a.d.qual a.d.scope f cdv A outer s H E) := by
    refine ⟨⟨rfl, rfl, sc.nd, rfl, rfl, sc.kind, fun _ _ => rfl, hr, fun m y hy => ?_, S.gls, S.free, S.tk⟩, passes_of rfl⟩
    obtain ⟨f', fd', ps', q1, q2, q3, q4, q5, _, q6⟩ := all m y hy
    exact ⟨⟨f', fd', ps', q1, q2, q3, q4, q5⟩, fun nn ks q hq s us ws K l1 l2 => q6 nn ks q hq s us ws K l1 l2⟩
  refine ⟨_, sSs W p.T k fn.body G h4, ?_⟩
  have ec' : (match p.T.fns[n]? with
      | none => Res.bad
      | some fn => if ws.length = fn.np then (match exSs ⟨callN p.T k, p.T.g⟩ fn.body (startS fn.nn ws) h with
        | .ok (.ret v) h1 => exitC fn.fz h v h1
        | .ok (.nx _) h1 => exitC fn.fz h (.d .none) h1
        | _ => .bad) else .bad) = .ok z h' := ec
  rw [ef] at ef' ec'
  cases ef'
  simp only [if_pos hl] at ec'
  cases ex : exSs ⟨callN p.T k, p.T.g⟩ fn.body (startS fn.nn ws) h with
  | bad => rw [ex] at ec'; cases ec'
  | ok fl h1 =>
    rw [ex] at ec'
    refine ⟨φ, h, startS fn.nn ws, aH, start_abs r h3, fl, h1, ex, ?_⟩
    cases fl with
    | ret v => exact fun x φ1 H1 g a1 rx => exit_want ec' kk aH g a1 rx
    | nx s1 => exact fun σ1 φ1 H1 g a1 _ => exit_want ec' kk aH g a1 (show RepD _ _ _ _ _ from .non)
    | brk => cases ec'
    | ct => cases ec'
theorem fn_zero {n : Nat} {x : Str} (O : PrOk p) (S : Says w W.K mg p) (hx : p.c.fns[n]? = some x) : FnAt P w W mg base p 0 n x := by
  rw [O.nm] at hx
  obtain ⟨a, ea, rfl⟩ := map_at hx
  obtain ⟨f, fd, F, hm⟩ := S.fd n a ea
  obtain ⟨fn, ef, hb⟩ : ∃ fn, p.T.fns[n]? = some fn ∧ fnB p.c a fn = true := by
    rcases paired_get O.chk n with ⟨e1, _⟩ | ⟨a', fn, e1, e2, q⟩
    · rw [ea] at e1; cases e1
    · rw [ea] at e1; cases e1; exact ⟨fn, e2, q⟩
  unfold fnB at hb
  simp only [Bool.and_eq_true, decide_eq_true_eq] at hb
  obtain ⟨⟨⟨h1, h2⟩, h3⟩, h4⟩ := hb
  obtain ⟨oc, od, dV, kV, doc, pm, an, cdv, ct, osl, rfl, lk, hcd, hD, hK⟩ := F.ex
  have hdV : dV = .none := by
    rcases hD with ⟨_, rfl⟩ | ⟨e, _⟩
    · rfl
    · exact absurd rfl e
  subst hdV
  refine ⟨f, _, a.ps, ⟨fun vs H Q E h => (sp_len ef h).trans h2, fun A outer s H args us vs Q E hr e0 hb r h => ?_⟩, hm, F.kp, fun s us _ hl => .of_eq (O.bd a (List.mem_of_getElem? ea) kV doc pm an cdv ct us hl), ⟨fn, ef, h2.symm⟩, ⟨a, ea, rfl⟩, fun nn ks q hq s us ws _ l1 l2 => .of_eq (O.bk _ hq a ea kV doc pm an cdv ct us ws l1 l2)⟩
  obtain ⟨φ, h, ws, z, h', aH, r, _, ec, kk⟩ := h
  exact bad_ne ec
theorem fn_all (O : PrOk p) (S : Says w W.K mg p) : ∀ k n x, p.c.fns[n]? = some x → FnAt P w W mg base p k n x
  | 0, _, _, hx => fn_zero O S hx
  | k + 1, _, _, hx => fn_step O S (fn_all O S k) hx
end
end Nv
set_option Elab.async false
set_option linter.all false
set_option maxRecDepth 100000
/-! N12c: the head's facts, the law's end. -/
namespace Nv
open PySem L2 PyProof.Rows

/-! ### constants of the module -/
mutual
def datB (K : PySem.W.Frag) : PD → Value → Bool
  | .none, u => (match u with
    | .none => true
    | _ => false)
  | .bool b, u => (match u with
    | .bool c => b == c
    | _ => false)
  | .int i, u => (match u with
    | .int j _ => decide (i = j)
    | _ => false)
  | .str x, u => (match u with
    | .str y _ => decide (x = y) && decide (x.length ≤ sizeLine) && ascOk x
    | _ => false)
  | .tuple ds, u => (match u with
    | .ref a => (match K.lookup a with
      | some ⟨.type c, _, .seq its _, _⟩ => decide (c = "tuple") && decide (its.size ≤ sizeLine) && datsB K ds its.toList
      | _ => false)
    | _ => false)
  | .list _, _ => false
  | .dict _, _ => false
def datsB (K : PySem.W.Frag) : List PD → List Value → Bool
  | [], us => (match us with
    | [] => true
    | _ => false)
  | d :: ds, us => (match us with
    | u :: r => datB K d u && datsB K ds r
    | _ => false)
end
mutual
theorem datB_ok {K : PySem.W.Frag} : ∀ (d : PD) {u : Value}, datB K d u = true → ∃ v, RelV v u ∧ ∀ A H, RepD K A H v d
  | .none, u, h => by
    cases u <;> first | exact ft h | skip
    exact ⟨.non, rfl, fun _ _ => .non⟩
  | .bool b, u, h => by
    cases u <;> first | exact ft h | skip
    rename_i c
    have e : b = c := by
      have h' : (b == c) = true := h
      exact eq_of_beq h'
    subst e
    exact ⟨.bl b, rfl, fun _ _ => .bl b⟩
  | .int i, u, h => by
    cases u <;> first | exact ft h | skip
    cases of_decide_eq_true h
    exact ⟨.int i, ⟨_, rfl⟩, fun _ _ => .int i⟩
  | .str x, u, h => by
    cases u <;> first | exact ft h | skip
    rename_i y t
    have h' : (decide (x = y) && decide (x.length ≤ sizeLine) && ascOk x) = true := h
    simp only [Bool.and_eq_true, decide_eq_true_eq] at h'
    obtain ⟨⟨rfl, l⟩, o⟩ := h'
    exact ⟨.str x, ⟨_, rfl⟩, fun _ _ => .str x l o⟩
  | .tuple ds, u, h => by
    cases u <;> first | exact ft h | skip
    rename_i a
    have h' : (match K.lookup a with
      | some ⟨.type c, _, .seq its _, _⟩ => decide (c = "tuple") && decide (its.size ≤ sizeLine) && datsB K ds its.toList
      | _ => false) = true := h
    cases e : K.lookup a with
    | none => rw [e] at h'; exact ft h'
    | some o =>
      obtain ⟨oc, od, dt, osl⟩ := o
      rw [e] at h'
      cases oc <;> first | exact ft h' | skip
      cases dt <;> first | exact ft h' | skip
      rename_i c its n
      have h2 : (decide (c = "tuple") && decide (its.size ≤ sizeLine) && datsB K ds its.toList) = true := h'
      simp only [Bool.and_eq_true, decide_eq_true_eq] at h2
      obtain ⟨⟨rfl, l⟩, r⟩ := h2
      obtain ⟨vs, q1, q2⟩ := datsB_ok ds r
      exact ⟨.ref a, rfl, fun A H => .tup (.inr ⟨_, its, n, e, rfl, rfl, l, q1⟩) (by rw [q1.length, Array.length_toList]; exact l) (q2 A H)⟩
  | .list _, _, h => ft h
  | .dict _, _, h => ft h
theorem datsB_ok {K : PySem.W.Frag} : ∀ (ds : List PD) {us : List Value}, datsB K ds us = true → ∃ vs, Vals vs us ∧ ∀ A H, RepDs K A H vs ds
  | [], us, h => by
    cases us <;> first | exact ft h | skip
    exact ⟨[], .nil, fun _ _ => .nil⟩
  | d :: ds, us, h => by
    cases us <;> first | exact ft h | skip
    have h' : (datB K d _ && datsB K ds _) = true := h
    simp only [Bool.and_eq_true] at h'
    obtain ⟨v, r1, r2⟩ := datB_ok d h'.1
    obtain ⟨vs, q1, q2⟩ := datsB_ok ds h'.2
    exact ⟨v :: vs, .cons r1 q1, fun A H => .cons (r2 A H) (q2 A H)⟩
end
/-- the items of a dict of the module -/
def itB (K : PySem.W.Frag) (a : Addr) (q : PD × PD) : Bool := match q.1 with
  | .str z => (match PySem.W.nsIn K a z with
    | some (some u) => datB K q.2 u
    | _ => false)
  | _ => false
def cstB (K : PySem.W.Frag) (c : Str × PD) : Bool := match PySem.W.nsIn K mainGlobals c.1 with
  | some (some u) => (match c.2, u with
    | .dict kvs, .ref a => kvs.all (itB K a)
    | d, u => datB K d u)
  | _ => false
def strKs : List (PD × PD) → List Str
  | [] => []
  | (.str z, _) :: r => z :: strKs r
  | _ :: r => strKs r
/-- the keys of a dict of the module, as they stand -/
def tabK (K : PySem.W.Frag) (c : Str × PD) : Option (List (Option (Str × Int))) := match c.2 with
  | .dict _ => (match PySem.W.nsIn K mainGlobals c.1 with
    | some (some (.ref a)) => He.dicW K a
    | _ => none)
  | _ => none
def tabV (w : World) (c : Str × PD) : Option (List (Option (Str × Int))) := match c.2 with
  | .dict kvs => some (He.keysIn w.params (strKs kvs))
  | _ => none
theorem datB_nd {K : PySem.W.Frag} {d : PD} {u : Value} (h : datB K d u = true) : ∀ k, d ≠ .dict k := fun k e => by
  subst e
  exact ft h
theorem look_mem {k : Key} : ∀ {kvs : List (PD × PD)} {e : PD}, lookD k kvs = some e → ∃ j, keyOf j = some k ∧ (j, e) ∈ kvs
  | [], _, h => nomatch h
  | (j, x) :: r, e, h => by
    by_cases q : keyOf j = some k
    · have h' : (if keyOf j = some k then some x else lookD k r) = some e := h
      rw [if_pos q] at h'
      cases h'
      exact ⟨j, q, List.mem_cons_self ..⟩
    · have h' : (if keyOf j = some k then some x else lookD k r) = some e := h
      rw [if_neg q] at h'
      obtain ⟨j', q1, q2⟩ := look_mem h'
      exact ⟨j', q1, List.mem_cons_of_mem _ q2⟩
theorem cst_ok {K : PySem.W.Frag} {h : Heap} {mg : Str → Option Value} {w : World} (X : K.In h) (G : h.Ns mainGlobals mg) {c : Str × PD} (q : cstB K c = true) (t : tabK K c = tabV w c) :
    ∃ v u, mg c.1 = some u ∧ RelV v u ∧ (((∀ A H, RepD K A H v c.2) ∧ ∀ k, c.2 ≠ .dict k) ∨ GDct K w v c.2) := by
  unfold cstB at q
  unfold tabK tabV at t
  cases e : PySem.W.nsIn K mainGlobals c.1 with
  | none => rw [e] at q; exact ft q
  | some o =>
    rw [e] at q t
    cases o with
    | none => exact ft q
    | some u =>
      have flat : datB K c.2 u = true → ∃ v u', mg c.1 = some u' ∧ RelV v u' ∧ (((∀ A H, RepD K A H v c.2) ∧ ∀ k, c.2 ≠ .dict k) ∨ GDct K w v c.2) := fun q => by
        obtain ⟨v, r1, r2⟩ := datB_ok c.2 q
        exact ⟨v, u, PySem.W.mg_of X G e, r1, .inl ⟨r2, datB_nd q⟩⟩
      cases hd : c.2 with
      | dict kvs =>
        rw [hd] at q t
        cases u with
        | ref a =>
          have q : kvs.all (itB K a) = true := q
          have t : He.dicW K a = some (He.keysIn w.params (strKs kvs)) := t
          obtain ⟨es, n, lk, kl, _⟩ := He.dicW_ok t
          refine ⟨.ref a, .ref a, PySem.W.mg_of X G e, rfl, .inr ⟨a, kvs, rfl, rfl, fun z d hz => ?_⟩⟩
          obtain ⟨j, q1, q2⟩ := look_mem hz
          have q3 := List.all_eq_true.mp q _ q2
          have hj : j = .str z := by
            cases j <;> simp only [keyOf, reduceCtorEq, Option.some.injEq, Sum.inr.injEq] at q1
            rw [q1]
          subst hj
          unfold itB at q3
          simp only at q3
          cases e4 : PySem.W.nsIn K a z with
          | none => rw [e4] at q3; exact ft q3
          | some o =>
            rw [e4] at q3
            cases o with
            | none => exact ft q3
            | some u2 =>
              obtain ⟨v2, r1, r2⟩ := datB_ok d (show datB K d u2 = true from q3)
              exact ⟨v2, ⟨es, n, u2, lk, kl, e4, r1⟩, r2⟩
        | _ => exact ft q
      | _ => rw [← hd]; exact flat (by rw [hd]; rw [hd] at q; exact q)
/-! ### what is looked at behind the top: no lists -/
def notL (o : Obj) : Bool := match o.cls with
  | .type c => !decide (c = "list")
  | _ => true
def notLT (tk : Bool) (o : Obj) : Bool := notL o && (!tk || !endS o)
theorem notLT_l {tk : Bool} {o : Obj} (h : notLT tk o = true) : notL o = true := (Bool.and_eq_true_iff.mp h).1
theorem notLT_t {o : Obj} (h : notLT true o = true) : endS o = false := by
  have := (Bool.and_eq_true_iff.mp h).2
  simpa using this
def frN (tk : Bool) (g : Addr → Option Obj) (as : List Addr) : PySem.W.Frag := (He.frG g as).filter fun p => notLT tk p.2
theorem mem_frG {g : Addr → Option Obj} {as : List Addr} {a : Addr} {o : Obj} (h : (a, o) ∈ He.frG g as) : g a = some o := by
  unfold He.frG at h
  obtain ⟨b, _, e⟩ := List.mem_filterMap.mp h
  cases q : g b with
  | none => rw [q] at e; cases e
  | some u => rw [q] at e; cases e; exact q
theorem mem_lookup_addr {α : Type} : ∀ {l : List (Addr × α)} {a : Addr} {o : α}, l.lookup a = some o → (a, o) ∈ l
  | [], _, _, e => nomatch e
  | (b, u) :: r, a, o, e => by
    rw [List.lookup_cons] at e
    cases q : a == b with
    | true =>
      rw [q] at e
      cases e
      rw [eq_of_beq q]
      exact List.mem_cons_self ..
    | false =>
      rw [q] at e
      exact List.mem_cons_of_mem _ (mem_lookup_addr e)
theorem frN_at {tk : Bool} {g : Addr → Option Obj} {as : List Addr} {a : Addr} {o : Obj} (h : (frN tk g as).lookup a = some o) : g a = some o ∧ notLT tk o = true := by
  have m := mem_lookup_addr h
  obtain ⟨m1, m2⟩ := List.mem_filter.mp m
  exact ⟨mem_frG m1, m2⟩
theorem map_same {α β : Type} {f g : α → β} : ∀ {l : List α}, l.map f = l.map g → ∀ {c : α}, c ∈ l → f c = g c
  | a :: l, e, c, m => by
    rw [List.map_cons, List.map_cons] at e
    injection e with e1 e2
    rcases List.mem_cons.mp m with rfl | m
    · exact e1
    · exact map_same e2 m
abbrev AlN : Type := (He.AlD × Bool) × List (Option (List (Option (Str × Int))))
def obsN (tk : Bool) (n : Nat) (fa : List He.Fa) (fn : List He.DefD) (xs : List (Str × PD)) (g : Addr → Option Obj) : AlN := ((He.obsD fa fn (frN tk g (He.asD g n)), xs.all fun c => cstB (frN tk g (He.asD g n)) c), xs.map fun c => tabK (frN tk g (He.asD g n)) c)
def SaysN (tk : Bool) (fa : List He.Fa) (fn : List He.DefD) (xs : List (Str × PD)) (w : World) (K : PySem.W.Frag) : Prop := He.SaysD fa fn K ∧ (xs.all fun c => cstB K c) = true ∧ (∀ c ∈ xs, tabK K c = tabV w c) ∧ ∀ a o, K.lookup a = some o → notLT tk o = true
def hookN (tk : Bool) (n : Nat) (fa : List He.Fa) (fn : List He.DefD) (xs : List (Str × PD)) : PySem.W.Hook where
  α := AlN
  obs := fun s => obsN tk n fa fn xs s.heap.get?
  val := fun w => ((He.valD fn, true), xs.map fun c => tabV w c)
  says := fun w h => ∃ K : PySem.W.Frag, K.In h ∧ SaysN tk fa fn xs w K
  of := fun w s e => by
    obtain ⟨e0, e3⟩ := Prod.mk.inj e
    obtain ⟨e1, e2⟩ := Prod.mk.inj e0
    exact ⟨frN tk s.heap.get? (He.asD s.heap.get? n), fun a o h => (frN_at h).1, e1, e2, fun c m => map_same e3 m, fun a o h => (frN_at h).2⟩
  keeps := fun _ _ _ ⟨K, hK, c⟩ k => ⟨K, PySem.W.Frag.In.keeps hK k, c⟩
theorem obsN_eq {tk : Bool} {n : Nat} {fa : List He.Fa} {fn : List He.DefD} {xs : List (Str × PD)} {g : Addr → Option Obj} {s : Shared} (h : ∀ a, g a = s.heap.get? a) : obsN tk n fa fn xs g = (hookN tk n fa fn xs).obs s := by
  have e : g = s.heap.get? := funext h
  subst e
  rfl
/-! ### a row of the world, told -/
def setRow (w : World) (x : String) (b : Bool) : World := { w with params := { w.params with followText := fun r => if r = x then b else w.params.followText r } }
theorem setRow_eq (w : World) (x : String) : setRow w x (w.params.followText x) = w := by
  obtain ⟨d, p⟩ := w
  have e : (fun r => if r = x then p.followText x else p.followText r) = p.followText := by
    funext r
    by_cases q : r = x
    · rw [if_pos q, q]
    · rw [if_neg q]
  unfold setRow
  simp only [e]
/-! ### the law's end -/
section
variable {P : Program} {w : World} {W : Wo} {mg mb : Str → Option Value} {p : Prog}
/-- the law is called with its script -/
theorem law_callG {T : Tab} {k n0 : Nat} {fa a : Addr} {x : Str} {s₁ : Shared} {vs : List Value} {ns : List Int}
    (KX : W.K.In s₁.heap) (nl : ∀ a o, W.K.lookup a = some o → notL o = true) (hns : s₁.heap.Ns mainGlobals mg) (hb : s₁.heap.Ns builtinsNs mb) (hbb : ∀ x : Str, x ≠ "__name__" → mb x = bootBuiltins x) (hlim : s₁.heap.NoLimit) (hg : s₁.gens = #[])
    (ha : s₁.heap.get? a = some { cls := .type "list", data := .seq vs.toArray }) (hi : IntsAre vs ns) (hl : ns.length ≤ sizeLine) (hr : RoomG k callerA)
    (F : ∀ base : Heap, ∃ fd, FnG P w W.K mg base CX0 k fa fd [x] (spOf W T k n0) ∧ ∀ (s : Shared) (u : Value), W.K.In s.heap → BindsTo s fd ⟨[u], []⟩ [(x, u)])
    (hf : ∃ fn, T.fns[n0]? = some fn ∧ fn.np = 1) (law : ∃ h', callN T k n0 [.d (.list (ns.map PyData.int))] [] = .ok (.d (.bool true)) h') :
    codeAny (model P w) callerA (.call (.ref fa) ⟨[.ref a], []⟩) (fun r s' => r = .ok (.ret (.bool true)) ∧ OldK s₁.heap s'.heap ∧ s'.os = s₁.os ∧ AllBare s'.gens) s₁ := by
  have hk : W.K.lookup a = none := by
    cases q : W.K.lookup a with
    | none => rfl
    | some o =>
      have e := KX a o q
      rw [ha] at e
      cases e
      exact ft (nl a _ q)
  let H : Hp := fun b => if b = a then some (.frz { cls := .type "list", data := .seq vs.toArray } (.lst (ns.map V.int))) else none
  have Ha : H a = some (.frz { cls := .type "list", data := .seq vs.toArray } (.lst (ns.map V.int))) := if_pos rfl
  have Hn : ∀ b, b ≠ a → H b = none := fun b n => if_neg n
  have hok : HOk P w H s₁.heap := fun b u z => by
    by_cases q : b = a
    · subst q
      rw [Ha] at z
      cases z
      exact ⟨ha, by rw [List.length_map]; exact hl, vs, _, vals_ints hi, ha⟩
    · rw [Hn b q] at z
      cases z
  have keep : ∀ {b : Addr} {o : Obj}, b ≠ a → s₁.heap.get? b = some o → (hidT s₁.heap H).get? b = some o := fun n e => hidT_get e (Hn _ n)
  have nsK : ∀ {b : Addr} {m : Str → Option Value}, s₁.heap.Ns b m → (hidT s₁.heap H).Ns b m := fun {b m} ⟨o, es, ep, e, d, r⟩ => ⟨o, es, ep, keep (fun z => by subst z; rw [ha] at e; cases e; cases d) e, d, r⟩
  have hKb : W.K.In (hidT s₁.heap H) := fun b o e => keep (fun z => by subst z; rw [hk] at e; cases e) (KX b o e)
  have hM : Mod W.K mg (hidT s₁.heap H) := ⟨hKb, nsK hns, ⟨mb, nsK hb, hbb⟩, let ⟨mc, h1, h2⟩ := hlim; ⟨mc, nsK h1, h2⟩⟩
  have e0 : Env0 P w W.K mg (hidT s₁.heap H) callerA [] s₁ H := ⟨rfl, hM, fun b o e => of_hidT e, Nat.le_of_eq (hidT_size _ _), trivial, fun b hb => absurd (show b ∈ ([] : List Addr) from hb) (by simp), hok, .of_eq hg⟩
  -- the script as data
  have nA : ∀ b, ¬ Al ⟨[], []⟩ [] b := fun b z => by
    rcases z with ⟨i, o, e, _⟩ | z
    · exact nomatch (show ([] : List Addr)[i]? = some b from e)
    · exact nomatch z
  have aH : AbsH W ⟨[], []⟩ [] H := ⟨rfl, fun i j b o u e _ _ _ _ _ => (nomatch (show ([] : List Addr)[i]? = some b from e)), fun i b o e _ => (nomatch (show ([] : List Addr)[i]? = some b from e)), fun b z => (nomatch z), fun b z => (nomatch z)⟩
  have rI : ∀ ns : List Int, RepDs W.K (Al ⟨[], []⟩ []) H (ns.map V.int) (ns.map PyData.int) := fun ns => by
    induction ns with
    | nil => exact .nil
    | cons i r ih => exact .cons (.int i) ih
  have rS : RepV W ⟨[], []⟩ [] H (.ref a) (.d (.list (ns.map PyData.int))) := (show RepD _ _ _ _ _ from .lst ⟨.inr ⟨_, Ha⟩, nA a⟩ (by rw [List.length_map]; exact hl) (rI ns))
  obtain ⟨fn, ef, enp⟩ := hf
  obtain ⟨h', el⟩ := law
  have sp : spOf W T k n0 [.ref a] H (fun v _ => v = .bl true) fun _ _ _ => False := ⟨⟨[], []⟩, [], [.d (.list (ns.map PyData.int))], .d (.bool true), h', aH, .cons rS .nil, ⟨fn, ef, enp.symm⟩, el, fun x φ' H' _ _ r => by
    cases (show RepD _ _ _ x (.bool true) from r)
    rfl⟩
  obtain ⟨fd, F1, hbind⟩ := F (hidT s₁.heap H)
  refine codeAny_mono (F1.run callerA [] s₁ H ⟨[.ref a], []⟩ [.ref a] [.ref a] _ _ hr e0 (hbind s₁ (.ref a) KX) (.cons rfl .nil) sp) fun r s' h => ?_
  cases r with
  | error e => exact False.elim h
  | ok fl =>
    cases fl with
    | next => exact False.elim h
    | brk => exact False.elim h
    | cont => exact False.elim h
    | ret u =>
      obtain ⟨v, H', os, bare, un, hok', r', q⟩ := h
      cases (show v = .bl true from q)
      cases (show u = Value.bool true from r')
      refine ⟨rfl, OldK.of_keep fun b o e => ?_, os, bare⟩
      by_cases z : b = a
      · subst z
        have e1 := (hok' b _ (un.frzs b _ _ Ha)).1
        rw [ha] at e
        cases e
        exact e1
      · exact un.keep b o e (Hn b z) (fun z => nomatch (show b ∈ ([] : List Addr) from z)) (fun z => nomatch z)
/-- the names of the facts -/
def faN (p : Prog) : List He.Fa := p.c.fns.map He.Fa.glo ++ p.c.free.map He.Fa.free
theorem fact_mem {fa : List He.Fa} {fn : List He.DefD} {K : PySem.W.Frag} (c : He.SaysD fa fn K) {f : He.Fa} (h : f ∈ fa) : f.ok K = true := by
  obtain ⟨i, hi, e⟩ := List.getElem_of_mem h
  exact c.fact i (by rw [List.getElem?_eq_getElem hi, e])
/-- a def without defaults, by its own name -/
def PlainD (d : He.DefD) : Prop := d.at_ = (d.name, none) ∧ d.dfl = [] ∧ d.kwd = []
theorem says_of {K : PySem.W.Frag} {h : Heap} {xs : List (Str × PD)} (O : PrOk p) (hp : ∀ a ∈ p.fps, PlainD a.d) (hx : p.c.gls = xs.map (·.1)) (hg : ∀ n, p.T.g n = (xs[n]?).map (·.2)) (X : K.In h) (G : h.Ns mainGlobals mg) {w : World} (c : SaysN p.c.tk (faN p) (p.fps.map (·.d)) xs w K) : Says w K mg p := by
  obtain ⟨c1, c2, c3, c4⟩ := c
  refine ⟨fun n a e => ?_, fun n x e => ?_, fun x m => He.free_ok X G (fact_mem c1 (List.mem_append_right _ (List.mem_map_of_mem m))), fun e a o l => by
    have := c4 a o l
    rw [e] at this
    exact notLT_t this⟩
  · obtain ⟨fd, F⟩ := c1.def_ n (d := a.d) (by rw [List.getElem?_map, e]; rfl)
    obtain ⟨q1, q2, q3⟩ := hp a (List.mem_of_getElem? e)
    have e1 : a.d.dvs K = [] := by unfold He.DefD.dvs; rw [q2]; rfl
    have e2 : a.d.kws K = [] := by unfold He.DefD.kws; rw [q3]; rfl
    have e3 : He.fAd K a.d.at_ = He.ga K a.d.name := by rw [q1]; rfl
    rw [e1, e2, e3] at F
    have hm : a.d.name ∈ p.c.fns := by rw [O.nm]; exact List.mem_map_of_mem (List.mem_of_getElem? e)
    exact ⟨_, fd, F, He.glo_ok X G (fact_mem c1 (List.mem_append_left _ (List.mem_map_of_mem hm)))⟩
  · rw [hx] at e
    obtain ⟨z, ez, rfl⟩ := map_at e
    obtain ⟨v, u, q1, q2, q3⟩ := cst_ok X G (List.all_eq_true.mp c2 z (List.mem_of_getElem? ez)) (c3 z (List.mem_of_getElem? ez))
    exact ⟨z.2, v, u, by rw [hg, ez]; rfl, q1, q2, q3⟩
/-- THE END: a law whose computation tells true -/
theorem walkN {l : PySem.W.OpenLaw} {n k n0 m : Nat} {q : Program} {loose : List Str} {XP : (Str → Option Value) → Heap → Prop} {d : DefRec} {xs : List (Str × PD)} {a0 : Fp} {x : Str}
    (hn : l.most = some n) (hn2 : n ≤ sizeLine) (hdf : d.params.defaults = []) (hr : RoomG k callerA) (O : PrOk p) (hp : ∀ a ∈ p.fps, PlainD a.d) (hx : p.c.gls = xs.map (·.1)) (hg : ∀ n, p.T.g n = (xs[n]?).map (·.2))
    (h0 : p.fps[n0]? = some a0) (hd : a0.d.name = d.name) (h1 : a0.ps = [x])
    (law : ∀ ns : List Int, ns.length ≤ n → ∃ h', callN p.T k n0 [.d (.list (ns.map PyData.int))] [] = .ok (.d (.bool true)) h') :
    PySem.W.WalkO q loose XP (hookN p.c.tk m (faN p) (p.fps.map (·.d)) xs).says l.row.toRowW d [] (fun f vs => PySem.call f vs) := by
  refine Att.attach_call hn hdf fun w s₀ s₁ mg mb fa o pm cd doc a vs ns G Y ho hd2 hcd hmg hobj hints hlen hg2 => ?_
  obtain ⟨K, KX, c⟩ := Y
  let W : Wo := ⟨K, fun _ => 0⟩
  have S : Says w W.K mg p := says_of O hp hx hg KX G.T.g c
  have hx0 : p.c.fns[n0]? = some a0.d.name := by rw [O.nm, List.getElem?_map, h0]; rfl
  obtain ⟨fn, ef, hfn⟩ : ∃ fn, p.T.fns[n0]? = some fn ∧ fnB p.c a0 fn = true := by
    rcases paired_get O.chk n0 with ⟨e1, _⟩ | ⟨a', fn, e1, e2, q⟩
    · rw [h0] at e1; cases e1
    · rw [h0] at e1; cases e1; exact ⟨fn, e2, q⟩
  have hnp : fn.np = 1 := by
    unfold fnB at hfn
    simp only [Bool.and_eq_true, decide_eq_true_eq] at hfn
    rw [hfn.1.1.2, h1]
    rfl
  refine law_callG (W := W) (x := x) KX (fun a o e => notLT_l (c.2.2.2 a o e)) G.T.g G.T.b G.T.builtins G.T.nolimit hg2 hobj hints (Nat.le_trans hlen hn2) hr (fun base => ?_) ⟨fn, ef, hnp⟩ (law ns hlen)
  obtain ⟨f, fd, ps, q1, q2, _, q4, _, ⟨a1, e1, q5⟩, _⟩ := fn_all (P := l.prog) (w := w) (base := base) O S k n0 _ hx0
  rw [h0] at e1
  cases e1
  rw [hd, hmg] at q2
  cases q2
  rw [h1] at q5
  subst q5
  exact ⟨fd, q1, fun s u hK => q4 s [u] hK rfl⟩
end
end Nv
set_option Elab.async false
set_option linter.all false
set_option maxRecDepth 100000
set_option exponentiation.threshold 5000
/-! N13: computing with the language. -/
namespace Nv
open PySem

section
variable {Γ : Ctx} {s : Sg} {h : Hs}
theorem bnd_ext {α β : Type} {m : Res α} {f g : α → M β} (e : ∀ x h, f x h = g x h) : m.bnd f = m.bnd g := congrArg _ (funext fun x => funext fun h => e x h)
theorem if_ap2 {α : Type} (t : Bool) (a b : M α) (h : Hs) : (if t = true then a else b) h = if t = true then a h else b h := by split <;> rfl
theorem pureM {α : Type} (a : α) : (pure a : M α) h = .ok a h := (rfl)
theorem x_k (d : PD) : evE Γ (.k d) s h = .ok (.d d) h := (rfl)
theorem x_v (i : Nat) : evE Γ (.v i) s h = optM (s[i]?).join h := (rfl)
theorem x_g (n : Nat) : evE Γ (.g n) s h = gV (Γ.g n) h := (rfl)
theorem x_gix (n : Nat) (e : E) : evE Γ (.gix n e) s h = (evE Γ e s h).bnd fun x h1 => gixV (Γ.g n) x h1 := (rfl)
theorem x_bin (o : Bop) (a b : E) : evE Γ (.bin o a b) s h = (evE Γ a s h).bnd fun x h1 => (evE Γ b s h1).bnd fun y h2 => bopL false o x y h2 := (rfl)
theorem x_neg (a : E) : evE Γ (.neg a) s h = (evE Γ a s h).bnd fun x h1 => (match x with
    | .d (.int i) => (intV (-i) : M Val)
    | _ => bad) h1 := rfl
theorem x_cmp (o : Cop) (a b : E) : evE Γ (.cmp o a b) s h = (evE Γ a s h).bnd fun x h1 => (evE Γ b s h1).bnd fun y h2 => cop o x y h2 := (rfl)
theorem x_chn (o o' : Cop) (a b c : E) : evE Γ (.chn o o' a b c) s h = (evE Γ a s h).bnd fun x h1 => (evE Γ b s h1).bnd fun y h2 => (cop o x y h2).bnd fun z h3 => (match z with
    | .d (.bool true) => (do
      let w ← evE Γ c s
      cop o' y w : M Val)
    | .d (.bool false) => bl false
    | _ => bad) h3 := rfl
theorem x_and (a b : E) : evE Γ (.and a b) s h = (evE Γ a s h).bnd fun x h1 => (truth x h1).bnd fun t h2 => if t = true then evE Γ b s h2 else .ok x h2 := by
  exact bnd_ext fun x h1 => bnd_ext fun t h2 => if_ap2 ..
theorem x_or (a b : E) : evE Γ (.or a b) s h = (evE Γ a s h).bnd fun x h1 => (truth x h1).bnd fun t h2 => if t = true then .ok x h2 else evE Γ b s h2 := by
  exact bnd_ext fun x h1 => bnd_ext fun t h2 => if_ap2 ..
theorem x_not (a : E) : evE Γ (.not a) s h = (evE Γ a s h).bnd fun x h1 => (truth x h1).bnd fun t h2 => .ok (.d (.bool (!t))) h2 := (rfl)
theorem x_ite (c a b : E) : evE Γ (.ite c a b) s h = (evE Γ c s h).bnd fun x h1 => (truth x h1).bnd fun t h2 => if t = true then evE Γ a s h2 else evE Γ b s h2 := by
  exact bnd_ext fun x h1 => bnd_ext fun t h2 => if_ap2 ..
theorem x_tup (es : Es) : evE Γ (.tup es) s h = (evEs Γ es s h).bnd fun vs h1 => (frzs vs h1).bnd fun ds h2 => .ok (.d (.tuple ds)) h2 := (rfl)
theorem x_lst (m : Bool) (es : Es) : evE Γ (.lst m es) s h = (evEs Γ es s h).bnd fun vs h1 => mkL m vs h1 := (rfl)
theorem x_dct (m : Bool) (ks : List L2.Key) (es : Es) : evE Γ (.dct m ks es) s h = (evEs Γ es s h).bnd fun vs h1 => if ks.length = vs.length then mkD m (ks.zip vs) h1 else .bad := by
  exact bnd_ext fun vs h1 => ite_ap ..
theorem x_ix (a i : E) : evE Γ (.ix a i) s h = (evE Γ a s h).bnd fun x h1 => (evE Γ i s h1).bnd fun y h2 => ixV x y h2 := (rfl)
theorem x_sl (m : Bool) (a : E) (lo hi : Oe) : evE Γ (.sl m a lo hi) s h = (evE Γ a s h).bnd fun x h1 => (evO Γ lo s h1).bnd fun l h2 => (evO Γ hi s h2).bnd fun u h3 => slV m x l u h3 := (rfl)
theorem x_rv (m : Bool) (a : E) : evE Γ (.rv m a) s h = (evE Γ a s h).bnd fun x h1 => revV m x h1 := (rfl)
theorem x_cal (f : Nat) (es : Es) : evE Γ (.cal f es) s h = (evEs Γ es s h).bnd fun vs h1 => Γ.call f vs h1 := (rfl)
theorem x_calk (f : Nat) (es ks : Es) (p : List Nat) : evE Γ (.calk f es ks p) s h = (evEs Γ es s h).bnd fun vs h1 => (evEs Γ ks s h1).bnd fun ws h2 => Γ.call f (vs ++ p.filterMap fun i => ws[i]?) h2 := (rfl)
theorem x_bi (o : Bi) (m : Bool) (es : Es) : evE Γ (.bi o m es) s h = (evEs Γ es s h).bnd fun vs h1 => biV o m vs h1 := (rfl)
theorem x_mt (o : Mt) (a : E) (es : Es) : evE Γ (.mt o a es) s h = (evE Γ a s h).bnd fun x h1 => (kdV (mtK o) x h1).bnd fun _ h2 => (evEs Γ es s h2).bnd fun vs h3 => mtV o x vs h3 := (rfl)
theorem x_isi (a : E) (t : Ty) : evE Γ (.isi a t) s h = (evE Γ a s h).bnd fun x h1 => isV t x h1 := (rfl)
theorem x_lc (m : Bool) (t : Tgt) (it : It) (c : Oe) (e : E) : evE Γ (.lc m t it c e) s h = (evI Γ it s h).bnd fun r h1 => (lcL r.live t (fun s1 => evC Γ c s1) (fun s1 => evE Γ e s1) s r.items h1).bnd fun ys h2 => mkL m ys h2 := (rfl)
theorem x_en : evEs Γ .n s h = .ok [] h := (rfl)
theorem x_ec (e : E) (es : Es) : evEs Γ (.c e es) s h = (evE Γ e s h).bnd fun x h1 => (evEs Γ es s h1).bnd fun xs h2 => .ok (x :: xs) h2 := (rfl)
theorem x_on : evO Γ .n s h = .ok none h := (rfl)
theorem x_os (e : E) : evO Γ (.s e) s h = (evE Γ e s h).bnd fun x h1 => optI x h1 := (rfl)
theorem x_cn : evC Γ .n s h = .ok true h := (rfl)
theorem x_cs (e : E) : evC Γ (.s e) s h = (evE Γ e s h).bnd fun x h1 => truth x h1 := (rfl)
theorem x_sq (a : E) : evI Γ (.sq a) s h = (evE Γ a s h).bnd fun x h1 => srcOf x h1 := (rfl)
theorem x_rg (es : Es) : evI Γ (.rg es) s h = (evEs Γ es s h).bnd fun vs h1 => rgV vs h1 := (rfl)
/-! statements -/
theorem y_n : exSs Γ .n s h = .ok (.nx s) h := (rfl)
theorem y_c (a : S) (r : Ss) : exSs Γ (.c a r) s h = (exS Γ a s h).bnd fun f h1 => (match f with
    | .nx s1 => exSs Γ r s1
    | f => (pure f : M Fl)) h1 := rfl
theorem y_ex (e : E) : exS Γ (.ex e) s h = (evE Γ e s h).bnd fun _ h1 => .ok (.nx s) h1 := (rfl)
theorem y_set (i : Nat) (e : E) : exS Γ (.set i e) s h = (evE Γ e s h).bnd fun x h1 => .ok (.nx (s.set i (some x))) h1 := (rfl)
theorem y_par (is : List Nat) (es : Es) : exS Γ (.par is es) s h = (evEs Γ es s h).bnd fun vs h1 => (optM (setL is vs s) h1).bnd fun s1 h2 => .ok (.nx s1) h2 := (rfl)
theorem y_unp (is : List Nat) (e : E) : exS Γ (.unp is e) s h = (evE Γ e s h).bnd fun x h1 => (asg (.t is) x s h1).bnd fun s1 h2 => .ok (.nx s1) h2 := (rfl)
theorem y_sti (o i e : E) : exS Γ (.sti o i e) s h = (evE Γ e s h).bnd fun v h1 => (evE Γ o s h1).bnd fun x h2 => (evE Γ i s h2).bnd fun k h3 => (stV x k v h3).bnd fun _ h4 => .ok (.nx s) h4 := (rfl)
theorem y_aug (i : Nat) (o : Bop) (e : E) : exS Γ (.aug i o e) s h = (optM (s[i]?).join h).bnd fun x h1 => (evE Γ e s h1).bnd fun y h2 => (iop o x y h2).bnd fun z h3 => .ok (.nx (s.set i (some z))) h3 := (rfl)
theorem y_ret (e : E) : exS Γ (.ret e) s h = (evE Γ e s h).bnd fun x h1 => .ok (.ret x) h1 := (rfl)
theorem y_retn : exS Γ .retn s h = .ok (.ret (.d .none)) h := (rfl)
theorem y_pass : exS Γ .pass s h = .ok (.nx s) h := (rfl)
theorem y_brk : exS Γ .brk s h = .ok (.brk s) h := (rfl)
theorem y_cont : exS Γ .cont s h = .ok (.ct s) h := (rfl)
theorem y_ite (c : E) (a b : Ss) : exS Γ (.ite c a b) s h = (evE Γ c s h).bnd fun x h1 => (truth x h1).bnd fun t h2 => if t = true then exSs Γ a s h2 else exSs Γ b s h2 := by
  exact bnd_ext fun x h1 => bnd_ext fun t h2 => if_ap2 ..
theorem y_whl (c : E) (b : Ss) : exS Γ (.whl c b) s h = whlN (fun s1 => do let x ← evE Γ c s1; truth x) (fun s1 => exSs Γ b s1) rounds s h := (rfl)
theorem y_fr (t : Tgt) (it : It) (b : Ss) : exS Γ (.fr t it b) s h = (evI Γ it s h).bnd fun r h1 => frL r.live t (fun s1 => exSs Γ b s1) r.items s h1 := (rfl)
/-! flow -/
theorem y_nx (s1 : Sg) (r : Ss) (h1 : Hs) : ((match (Fl.nx s1 : Fl) with
    | .nx s1 => exSs Γ r s1
    | f => (pure f : M Fl)) h1) = exSs Γ r s1 h1 := rfl
end
/-! values -/
section
variable {h : Hs}
theorem t_bool (b : Bool) : truth (.d (.bool b)) h = .ok b h := (rfl)
theorem t_int (i : Int) : truth (.d (.int i)) h = .ok (i != 0) h := (rfl)
theorem t_none : truth (.d .none) h = .ok false h := (rfl)
theorem o_some {α : Type} (x : α) : optM (some x) h = .ok x h := (rfl)
theorem o_none {α : Type} : optM (none : Option α) h = .bad := (rfl)
theorem b_add (i j : Int) : bopL false .add (.d (.int i)) (.d (.int j)) h = .ok (.d (.int (i + j))) h := (rfl)
theorem b_sub (i j : Int) : bopL false .sub (.d (.int i)) (.d (.int j)) h = .ok (.d (.int (i - j))) h := (rfl)
theorem b_str (x y : Str) : bopL false .add (.d (.str x)) (.d (.str y)) h = if x.length + y.length ≤ lim then .ok (.d (.str (x ++ y))) h else .bad := by
  show (if x.length + y.length ≤ lim then (pure (.d (.str (x ++ y))) : M Val) else bad) h = _
  split <;> rfl
theorem b_mul (i j : Int) : bopL false .mul (.d (.int i)) (.d (.int j)) h = if i.natAbs < 2 ^ 4000 ∧ j.natAbs < 2 ^ 4000 then .ok (.d (.int (i * j))) h else .bad := by
  show (if i.natAbs < 2 ^ 4000 ∧ j.natAbs < 2 ^ 4000 then intV (i * j) else bad) h = _
  split <;> rfl
theorem b_fdiv (i j : Int) : bopL false .fdiv (.d (.int i)) (.d (.int j)) h = if 0 < j ∧ j < 1073741824 then .ok (.d (.int (i / j))) h else .bad := by
  show (if 0 < j ∧ j < 1073741824 then intV (i / j) else bad) h = _
  split <;> rfl
theorem b_mod (i j : Int) : bopL false .mod (.d (.int i)) (.d (.int j)) h = if 0 < j then .ok (.d (.int (i % j))) h else .bad := by
  show (if 0 < j then intV (i % j) else bad) h = _
  split <;> rfl
theorem b_pow (i j : Int) : bopL false .pow (.d (.int i)) (.d (.int j)) h = if 0 ≤ j ∧ j ≤ 1000 ∧ i.natAbs < 2 ^ 64 then .ok (.d (.int (i ^ j.toNat))) h else .bad := by
  show (if 0 ≤ j ∧ j ≤ 1000 ∧ i.natAbs < 2 ^ 64 then intV (i ^ j.toNat) else bad) h = _
  split <;> rfl
theorem c_eq (a b : PD) : cop .eq (.d a) (.d b) h = if eqOk a b = true then .ok (.d (.bool (a.eqv b))) h else .bad := by
  show (if eqOk a b = true then bl (a.eqv b) else bad) h = _
  split <;> rfl
theorem c_ne (a b : PD) : cop .ne (.d a) (.d b) h = if eqOk a b = true then .ok (.d (.bool (!a.eqv b))) h else .bad := by
  show (if eqOk a b = true then bl (!a.eqv b) else bad) h = _
  split <;> rfl
theorem c_lt (i j : Int) : cop .lt (.d (.int i)) (.d (.int j)) h = .ok (.d (.bool (decide (i < j)))) h := (rfl)
theorem c_le (i j : Int) : cop .le (.d (.int i)) (.d (.int j)) h = .ok (.d (.bool (decide (i ≤ j)))) h := (rfl)
theorem c_gt (i j : Int) : cop .gt (.d (.int i)) (.d (.int j)) h = .ok (.d (.bool (decide (j < i)))) h := (rfl)
theorem c_ge (i j : Int) : cop .ge (.d (.int i)) (.d (.int j)) h = .ok (.d (.bool (decide (j ≤ i)))) h := (rfl)
/-- equality of ints and texts needs no room -/
theorem c_eqi (i j : Int) : cop .eq (.d (.int i)) (.d (.int j)) h = .ok (.d (.bool (decide (i = j)))) h := by
  rw [c_eq, if_pos (by simp [eqOk, PyData.hasDict, PyData.depth])]
  simp only [PyData.eqv]
  first | rfl | (congr 3; exact Bool.eq_iff_iff.mpr (by simp))
theorem c_nei (i j : Int) : cop .ne (.d (.int i)) (.d (.int j)) h = .ok (.d (.bool (!decide (i = j)))) h := by
  rw [c_ne, if_pos (by simp [eqOk, PyData.hasDict, PyData.depth])]
  simp only [PyData.eqv]
  first | rfl | (congr 4; exact Bool.eq_iff_iff.mpr (by simp))
theorem c_eqs (i j : Str) : cop .eq (.d (.str i)) (.d (.str j)) h = .ok (.d (.bool (decide (i = j)))) h := by
  rw [c_eq, if_pos (by simp [eqOk, PyData.hasDict, PyData.depth])]
  simp only [PyData.eqv]
  first | rfl | (congr 3; exact Bool.eq_iff_iff.mpr (by simp))
theorem c_nes (i j : Str) : cop .ne (.d (.str i)) (.d (.str j)) h = .ok (.d (.bool (!decide (i = j)))) h := by
  rw [c_ne, if_pos (by simp [eqOk, PyData.hasDict, PyData.depth])]
  simp only [PyData.eqv]
  first | rfl | (congr 4; exact Bool.eq_iff_iff.mpr (by simp))
end
/-! a call -/
open Classical in
noncomputable def fin (fz : Bool) (h : Hs) : Res Fl → Res Val
  | .ok (.ret v) h1 => exitC fz h v h1
  | .ok (.nx _) h1 => exitC fz h (.d .none) h1
  | _ => .bad
theorem call_eq {T : Tab} {d f : Nat} {vs : List Val} {h : Hs} {fn : Fn} (e : T.fns[f]? = some fn) (l : vs.length = fn.np) : callN T (d + 1) f vs h = fin fn.fz h (exSs ⟨callN T d, T.g⟩ fn.body (startS fn.nn vs) h) := by
  show (match T.fns[f]? with
      | none => Res.bad
      | some fn => if vs.length = fn.np then (match exSs ⟨callN T d, T.g⟩ fn.body (startS fn.nn vs) h with
        | .ok (.ret v) h1 => exitC fn.fz h v h1
        | .ok (.nx _) h1 => exitC fn.fz h (.d .none) h1
        | _ => .bad) else .bad) = _
  rw [e]
  simp only [if_pos l]
  unfold fin
  rfl
theorem fin_ret {fz : Bool} {h h1 : Hs} {v : Val} : fin fz h (.ok (.ret v) h1) = exitC fz h v h1 := (rfl)
theorem fin_nx {fz : Bool} {h h1 : Hs} {s : Sg} : fin fz h (.ok (.nx s) h1) = exitC fz h (.d .none) h1 := (rfl)
theorem exit_d {h h1 : Hs} {x : PD} {fz : Bool} (e : h1.take h.length = h ∨ (h.length ≤ h1.length ∧ shut h.length h1)) : exitC fz h (.d x) h1 = .ok (.d x) (h1.take h.length) := by
  have q : frzR fz (.d x) h1 = .ok (.d x) h1 := by cases fz <;> rfl
  unfold exitC
  rw [q]
  exact if_pos e
/-- nothing was laid -/
theorem exit_p {h : Hs} {x : PD} {fz : Bool} : exitC fz h (.d x) h = .ok (.d x) h := by
  rw [exit_d (.inl (List.take_length ..)), List.take_length]
/-- something was laid -/
theorem exit_a {h l : Hs} {x : PD} {fz : Bool} : exitC fz h (.d x) (h ++ l) = .ok (.d x) h := by
  rw [exit_d (.inl (List.take_left ..)), List.take_left]
theorem exit_r {h h1 : Hs} {a : Nat} : exitC false h (.r a) h1 = .ok (.r a) h1 := (rfl)
/-! loops over what does not change -/
theorem stays_n {h : Hs} : staysM none h = .ok () h := by
  unfold staysM
  exact if_pos trivial
theorem stays_s {h : Hs} {a : Nat} {o : AO} (e : h[a]? = some o) : staysM (some (a, o)) h = .ok () h := by
  unfold staysM
  exact if_pos e
theorem fr_nil {l : Option (Nat × AO)} {t : Tgt} {b : Sg → M Fl} {s : Sg} {h : Hs} (st : staysM l h = .ok () h) : frL l t b [] s h = .ok (.nx s) h := by
  show (staysM l >>= fun _ => (pure (.nx s) : M Fl)) h = _
  rw [bind_ap, st]
  rfl
theorem fr_step {l : Option (Nat × AO)} {t : Tgt} {b : Sg → M Fl} {s s1 : Sg} {x : Val} {xs : List Val} {h h1 : Hs} {f : Fl} (st : staysM l h = .ok () h) (ea : asg t x s h = .ok s1 h) (eb : b s1 h = .ok f h1) : frL l t b (x :: xs) s h = (match f with
      | .nx s2 => frL l t b xs s2 h1
      | .ct s2 => frL l t b xs s2 h1
      | .brk s2 => .ok (.nx s2) h1
      | .ret v => .ok (.ret v) h1) := by
  show (staysM l >>= fun _ => asg t x s >>= fun s1 => b s1 >>= fun f => match f with
    | .nx s2 => frL l t b xs s2
    | .ct s2 => frL l t b xs s2
    | .brk s2 => pure (.nx s2)
    | .ret v => pure (.ret v)) h = _
  simp only [bind_ap, st, bnd_ok, ea, eb]
  cases f <;> rfl
theorem lc_nil {l : Option (Nat × AO)} {t : Tgt} {c : Sg → M Bool} {e : Sg → M Val} {s : Sg} {h : Hs} (st : staysM l h = .ok () h) : lcL l t c e s [] h = .ok [] h := by
  show (staysM l >>= fun _ => (pure [] : M (List Val))) h = _
  rw [bind_ap, st]
  rfl
theorem lc_step {l : Option (Nat × AO)} {t : Tgt} {c : Sg → M Bool} {e : Sg → M Val} {s s1 : Sg} {x y : Val} {xs : List Val} {h h1 h2 : Hs} (st : staysM l h = .ok () h) (ea : asg t x s h = .ok s1 h) (ec : c s1 h = .ok true h1) (ee : e s1 h1 = .ok y h2) :
    lcL l t c e s (x :: xs) h = (lcL l t c e s xs h2).bnd fun ys h3 => .ok (y :: ys) h3 := by
  show (staysM l >>= fun _ => asg t x s >>= fun s1 => c s1 >>= fun b => if b = true then (e s1 >>= fun y => lcL l t c e s xs >>= fun ys => pure (y :: ys)) else lcL l t c e s xs) h = _
  simp only [bind_ap, st, bnd_ok, ea, ec, ite_ap, if_true, ee]
  rfl
theorem lc_skip {l : Option (Nat × AO)} {t : Tgt} {c : Sg → M Bool} {e : Sg → M Val} {s s1 : Sg} {x : Val} {xs : List Val} {h h1 : Hs} (st : staysM l h = .ok () h) (ea : asg t x s h = .ok s1 h) (ec : c s1 h = .ok false h1) :
    lcL l t c e s (x :: xs) h = lcL l t c e s xs h1 := by
  show (staysM l >>= fun _ => asg t x s >>= fun s1 => c s1 >>= fun b => if b = true then (e s1 >>= fun y => lcL l t c e s xs >>= fun ys => pure (y :: ys)) else lcL l t c e s xs) h = _
  simp only [bind_ap, st, bnd_ok, ea, ec, ite_ap]
  rfl
/-- each by itself, nothing changes -/
theorem lc_map {t : Tgt} {c : Sg → M Bool} {e : Sg → M Val} {s : Sg} {h : Hs} {f : Val → Val} : ∀ {xs : List Val}, (∀ x ∈ xs, ∃ s1, asg t x s h = .ok s1 h ∧ c s1 h = .ok true h ∧ e s1 h = .ok (f x) h) → lcL none t c e s xs h = .ok (xs.map f) h
  | [], _ => lc_nil stays_n
  | x :: xs, k => by
    obtain ⟨s1, e1, e2, e3⟩ := k x (List.mem_cons_self ..)
    rw [lc_step stays_n e1 e2 e3, lc_map fun y m => k y (List.mem_cons_of_mem _ m)]
    rfl
theorem lc_filter {t : Tgt} {c : Sg → M Bool} {e : Sg → M Val} {s : Sg} {h : Hs} {f : Val → Val} {p : Val → Bool} : ∀ {xs : List Val}, (∀ x ∈ xs, ∃ s1, asg t x s h = .ok s1 h ∧ c s1 h = .ok (p x) h ∧ (p x = true → e s1 h = .ok (f x) h)) → lcL none t c e s xs h = .ok ((xs.filter p).map f) h
  | [], _ => lc_nil stays_n
  | x :: xs, k => by
    obtain ⟨s1, e1, e2, e3⟩ := k x (List.mem_cons_self ..)
    have ih := lc_filter fun y m => k y (List.mem_cons_of_mem _ m)
    cases hp : p x with
    | true => rw [lc_step stays_n e1 (by rw [e2, hp]) (e3 hp), ih, List.filter_cons_of_pos hp]; rfl
    | false => rw [lc_skip stays_n e1 (by rw [e2, hp]), ih, List.filter_cons_of_neg (by rw [hp]; decide)]
end Nv
set_option Elab.async false
set_option linter.all false
set_option maxRecDepth 100000
set_option exponentiation.threshold 5000
/-! N14: values. -/
namespace Nv
open PySem

/-! texts by their signs -/
def st (l : List Nat) : Str := ⟨l.toArray⟩
theorem st_len (l : List Nat) : (st l).length = l.length := by simp [st, Str.length]
theorem st_list (l : List Nat) : (st l).cps.toList = l := by simp [st]
theorem st_app (a b : List Nat) : st a ++ st b = st (a ++ b) := by
  show (⟨(st a).cps ++ (st b).cps⟩ : Str) = _
  simp [st]
theorem st_inj {a b : List Nat} : st a = st b ↔ a = b := by simp [st]
theorem st_of (x : Str) : ∃ l, x = st l := ⟨x.cps.toList, by cases x; simp [st]⟩
section
variable {h : Hs}
theorem b_st (a b : List Nat) (l : a.length + b.length ≤ lim) : bopL false .add (.d (.str (st a))) (.d (.str (st b))) h = .ok (.d (.str (st (a ++ b)))) h := by
  rw [b_str, if_pos (by rw [st_len, st_len]; exact l), st_app]
theorem ix_s {l : List Nat} {i : Nat} {c : Nat} (e : l[i]? = some c) : ixV (.d (.str (st l))) (.d (.int i)) h = .ok (.d (.str (st [c]))) h := by
  show optM ((L2.atI (st l).cps.toList i).map fun c => Val.d (.str ⟨#[c]⟩)) h = _
  rw [st_list, L2.atI_nat e]
  rfl
theorem ix_t {l : List PD} {i : Nat} {c : PD} (e : l[i]? = some c) : ixV (.d (.tuple l)) (.d (.int i)) h = .ok (.d c) h := by
  show optM ((L2.atI l i).map Val.d) h = _
  rw [L2.atI_nat e]
  rfl
theorem ix_l {l : List PD} {i : Nat} {c : PD} (e : l[i]? = some c) : ixV (.d (.list l)) (.d (.int i)) h = .ok (.d c) h := by
  show optM ((L2.atI l i).map Val.d) h = _
  rw [L2.atI_nat e]
  rfl
theorem ix_t0 {a : PD} {l : List PD} : ixV (.d (.tuple (a :: l))) (.d (.int 0)) h = .ok (.d a) h := ix_t (i := 0) rfl
theorem ix_t1 {a b : PD} {l : List PD} : ixV (.d (.tuple (a :: b :: l))) (.d (.int 1)) h = .ok (.d b) h := ix_t (i := 1) rfl
theorem ix_t2 {a b c : PD} {l : List PD} : ixV (.d (.tuple (a :: b :: c :: l))) (.d (.int 2)) h = .ok (.d c) h := ix_t (i := 2) rfl
theorem ix_d {kvs : List (PD × PD)} {k : PD} {q : L2.Key} {d : PD} (e1 : keyOf k = some q) (e : lookD q kvs = some d) : ixV (.d (.dict kvs)) (.d k) h = .ok (.d d) h := by
  show (optM (keyOf k) >>= fun q => optM ((lookD q kvs).map Val.d)) h = _
  rw [e1, bind_ap, o_some, bnd_ok, e]
  rfl
/-- an object's place -/
theorem ix_r {a : Nat} {kvs : List (L2.Key × Val)} {k : PD} {q : L2.Key} {v : Val} (ea : h[a]? = some (.dct kvs)) (e1 : keyOf k = some q) (e : look q kvs = some v) : ixV (.r a) (.d k) h = .ok v h := by
  show (getO a >>= fun o => ixO o k) h = _
  rw [bind_ap, getO_ap ea, bnd_ok]
  show (optM (keyOf k) >>= fun q => optM (look q kvs)) h = _
  rw [e1, bind_ap, o_some, bnd_ok, e]
  rfl
theorem st_r {a : Nat} {kvs : List (L2.Key × Val)} {k : PD} {q : L2.Key} {v : Val} (ea : h[a]? = some (.dct kvs)) (e1 : keyOf k = some q) (l : kvs.length < lim) : stV (.r a) (.d k) v h = .ok () (h.set a (.dct (put q v kvs))) := by
  show (getO a >>= fun o => stO o k v >>= fun o' => setO a o') h = _
  rw [bind_ap, getO_ap ea, bnd_ok, bind_ap]
  have e2 : stO (.dct kvs) k v h = .ok (.dct (put q v kvs)) h := by
    show (optM (keyOf k) >>= fun q => if kvs.length < lim then (pure (.dct (put q v kvs)) : M AO) else bad) h = _
    rw [e1, bind_ap, o_some, bnd_ok, if_pos l]
    rfl
  rw [e2]
  rfl
theorem v_isi (t : Ty) (x : PD) : isV t (.d x) h = .ok (.d (.bool (isTy t x))) h := (rfl)
theorem v_len_s (x : Str) : bi1 .len false (.d (.str x)) h = .ok (.d (.int x.length)) h := (rfl)
theorem v_len_t (x : List PD) : bi1 .len false (.d (.tuple x)) h = .ok (.d (.int x.length)) h := by
  show (lenV (.d (.tuple x)) >>= fun n => intV n) h = _
  show ((seqOf (.d (.tuple x)) >>= fun xs => (pure xs.length : M Nat)) >>= fun n => intV n) h = _
  show Res.ok _ h = _
  rw [List.length_map]
theorem v_len_l (x : List PD) : bi1 .len false (.d (.list x)) h = .ok (.d (.int x.length)) h := by
  show Res.ok _ h = _
  rw [List.length_map]
theorem v_bi1 (o : Bi) (m : Bool) (x : Val) : biV o m [x] h = bi1 o m x h := (rfl)
theorem v_bi2 (o : Bi) (m : Bool) (x y : Val) : biV o m [x, y] h = bi2 o m x y h := (rfl)
theorem bools_map (l : List Bool) : bools (l.map fun b => Val.d (.bool b)) = some l := by
  induction l with
  | nil => rfl
  | cons b r ih => show (bools _).map _ = _; rw [ih]; rfl
theorem v_all (l : List Bool) : bi1 .all false (.d (.list (l.map PyData.bool))) h = .ok (.d (.bool (l.all id))) h := by
  show ((pure ((l.map PyData.bool).map Val.d) : M (List Val)) >>= fun xs => optM (bools xs) >>= fun bs => bl (bs.all id)) h = _
  rw [bind_ap, pure_ap, bnd_ok, List.map_map, bind_ap]
  rw [show (l.map (Val.d ∘ PyData.bool)) = l.map fun b => Val.d (.bool b) from rfl, bools_map]
  rfl
theorem v_any (l : List Bool) : bi1 .any false (.d (.list (l.map PyData.bool))) h = .ok (.d (.bool (l.any id))) h := by
  show ((pure ((l.map PyData.bool).map Val.d) : M (List Val)) >>= fun xs => optM (bools xs) >>= fun bs => bl (bs.any id)) h = _
  rw [bind_ap, pure_ap, bnd_ok, List.map_map, bind_ap]
  rw [show (l.map (Val.d ∘ PyData.bool)) = l.map fun b => Val.d (.bool b) from rfl, bools_map]
  rfl
theorem mkL_d (l : List PD) : mkL false (l.map Val.d) h = .ok (.d (.list l)) h := by
  unfold mkL
  rw [dats_map]
  rfl
theorem mkL_t (l : List Val) : mkL true l h = .ok (.r h.length) (h ++ [.lst l]) := by
  unfold mkL
  rfl
theorem frzs_d (l : List PD) : frzs (l.map Val.d) h = .ok l h := by
  induction l with
  | nil => rfl
  | cons x r ih =>
    show (frz (.d x) >>= fun x => frzs (r.map Val.d) >>= fun xs => pure (x :: xs)) h = _
    rw [bind_ap, show frz (.d x) h = .ok x h from rfl, bnd_ok, bind_ap, ih]
    rfl
/-- tuples of data -/
theorem f_0 : frzs [] h = .ok [] h := (rfl)
theorem f_c (x : PD) (r : List Val) : frzs (.d x :: r) h = (frzs r h).bnd fun xs h1 => .ok (x :: xs) h1 := (rfl)
theorem src_s (l : List Nat) : srcOf (.d (.str (st l))) h = .ok (src (l.map fun c => .d (.str (st [c])))) h := by
  show Res.ok _ h = _
  rw [st_list]
  rfl
theorem src_l (l : List PD) : srcOf (.d (.list l)) h = .ok (src (l.map Val.d)) h := (rfl)
theorem src_d (l : List (PD × PD)) : srcOf (.d (.dict l)) h = .ok (src (l.map fun p => .d p.1)) h := (rfl)
theorem asg_v (i : Nat) (x : Val) (s : Sg) : asg (.v i) x s h = .ok (s.set i (some x)) h := (rfl)
theorem rg_1 (n : Nat) (l : n ≤ lim) : rgV [.d (.int n)] h = .ok (src (rangeI 0 n 1)) h := by
  have hs : sml (n : Int) := by
    have hl : n ≤ 16777216 := l
    have h2 : (n : Int) ≤ 16777216 := Int.ofNat_le.mpr hl
    exact ⟨Int.le_trans (by decide) (Int.natCast_nonneg n), Int.lt_of_le_of_lt h2 (by decide)⟩
  show (if sml (n : Int) ∧ (n : Int).toNat ≤ lim then (pure (src (rangeI 0 (n : Int).toNat 1)) : M Src) else bad) h = _
  rw [if_pos ⟨hs, l⟩]
  rfl
theorem items_src (l : List Val) : (src l).items = l := (rfl)
theorem live_src (l : List Val) : (src l).live = none := (rfl)
/-- a list that changes and the empty list -/
theorem ne_nil {a : Nat} {ds : List PD} (e : h[a]? = some (.lst (ds.map Val.d))) (nd : PyData.hasDictAll ds = false) : cop .ne (.r a) (.d (.list [])) h = .ok (.d (.bool (!ds.isEmpty))) h := by
  have e1 : datV (.r a) h = .ok (.list ds) h := by
    show ((getO a >>= fun o => itemsO o >>= fun xs => optM (dats xs)) >>= fun ds => (pure (.list ds) : M PD)) h = _
    rw [bind_ap, bind_ap, getO_ap e, bnd_ok, bind_ap]
    show (((Res.ok (ds.map Val.d) h).bnd _).bnd _) = _
    rw [bnd_ok, dats_map]
    rfl
  show (datV (.r a) >>= fun x => datV (.d (.list [])) >>= fun y => if eqOk x y = true then bl (!x.eqv y) else bad) h = _
  rw [bind_ap, e1, bnd_ok, bind_ap, show datV (.d (.list [])) h = .ok (.list []) h from rfl, bnd_ok, if_pos]
  · cases ds <;> rfl
  · simp [eqOk, PyData.hasDict, PyData.hasDictAll, nd, PyData.depth, PyData.depthAll]
    try omega
theorem pop_r {a : Nat} {xs : List Val} {y : Val} (e : h[a]? = some (.lst (xs ++ [y]))) : mtV .pop (.r a) [] h = .ok y (h.set a (.lst xs)) := by
  show (getO a >>= fun o => itemsO o >>= fun zs => optM zs[zs.length - 1]? >>= fun y => setO a (.lst zs.dropLast) >>= fun _ => (pure y : M Val)) h = _
  rw [bind_ap, getO_ap e, bnd_ok, bind_ap, show itemsO (.lst (xs ++ [y])) h = .ok (xs ++ [y]) h from rfl, bnd_ok, bind_ap]
  have e2 : (xs ++ [y])[(xs ++ [y]).length - 1]? = some y := by simp
  rw [e2, o_some, bnd_ok]
  show Res.ok y (h.set a (.lst (xs ++ [y]).dropLast)) = _
  rw [List.dropLast_concat]
theorem app_r {a : Nat} {xs : List Val} {y : Val} (e : h[a]? = some (.lst xs)) (l : xs.length < lim) : mtV .append (.r a) [y] h = .ok (.d .none) (h.set a (.lst (xs ++ [y]))) := by
  show (getO a >>= fun o => itemsO o >>= fun zs => if zs.length < lim then (setO a (.lst (zs ++ [y])) >>= fun _ => (pure (.d .none) : M Val)) else bad) h = _
  rw [bind_ap, getO_ap e, bnd_ok]
  show (if xs.length < lim then (setO a (.lst (xs ++ [y])) >>= fun _ => (pure (.d .none) : M Val)) else bad) h = _
  rw [if_pos l]
  rfl
theorem ext_r {a : Nat} {xs : List Val} {ds : List PD} (e : h[a]? = some (.lst xs)) (l : xs.length + ds.length ≤ lim) : mtV .extend (.r a) [.d (.tuple ds)] h = .ok (.d .none) (h.set a (.lst (xs ++ ds.map Val.d))) := by
  show (seqOf (.d (.tuple ds)) >>= fun ys => getO a >>= fun o => itemsO o >>= fun zs => if zs.length + ys.length ≤ lim then (setO a (.lst (zs ++ ys)) >>= fun _ => (pure (.d .none) : M Val)) else bad) h = _
  rw [bind_ap, show seqOf (.d (.tuple ds)) h = .ok (ds.map Val.d) h from rfl, bnd_ok, bind_ap, getO_ap e, bnd_ok]
  show (if xs.length + (ds.map Val.d).length ≤ lim then (setO a (.lst (xs ++ ds.map Val.d)) >>= fun _ => (pure (.d .none) : M Val)) else bad) h = _
  rw [if_pos (by rw [List.length_map]; exact l)]
  rfl
theorem kd_l {a : Nat} {xs : List Val} (e : h[a]? = some (.lst xs)) : kdV .lst (.r a) h = .ok () h := by
  show (getO a >>= fun o => kdO .lst o) h = _
  rw [bind_ap, getO_ap e]
  rfl
theorem whl_s {c : Sg → M Bool} {b : Sg → M Fl} {n : Nat} {s : Sg} : whlN c b (n + 1) s h = (c s h).bnd fun t h1 => if t = true then (b s h1).bnd fun f h2 => (match f with
      | .nx s1 => whlN c b n s1 h2
      | .ct s1 => whlN c b n s1 h2
      | .brk s1 => .ok (.nx s1) h2
      | .ret v => .ok (.ret v) h2) else .ok (.nx s) h1 := by
  show (c s >>= fun t => if t = true then (b s >>= fun f => match f with
      | .nx s1 => whlN c b n s1
      | .ct s1 => whlN c b n s1
      | .brk s1 => pure (.nx s1)
      | .ret v => pure (.ret v)) else pure (.nx s)) h = _
  refine bnd_ext fun t h1 => ?_
  rw [ite_ap]
  cases t with
  | true =>
    simp only [if_true]
    exact bnd_ext fun f h2 => by cases f <;> rfl
  | false => rfl
theorem at_end {o : AO} : (h ++ [o])[h.length]? = some o := by simp
theorem set_end {o u : AO} : (h ++ [o]).set h.length u = h ++ [u] := by
  rw [List.set_append_right _ _ (Nat.le_refl _), Nat.sub_self]
  rfl
theorem lc_two {t : Tgt} {c : Sg → M Bool} {e : Sg → M Val} {s s1 s2 : Sg} {x y u v : Val} (a1 : asg t x s h = .ok s1 h) (c1 : c s1 h = .ok true h) (e1 : e s1 h = .ok u h) (a2 : asg t y s h = .ok s2 h) (c2 : c s2 h = .ok true h) (e2 : e s2 h = .ok v h) :
    lcL none t c e s [x, y] h = .ok [u, v] h := by
  rw [lc_step stays_n a1 c1 e1, lc_step stays_n a2 c2 e2, lc_nil stays_n]
  rfl
theorem asg_t2 {i j : Nat} {a b : PD} {s : Sg} : asg (.t [i, j]) (.d (.tuple [a, b])) s h = .ok ((s.set i (some (.d a))).set j (some (.d b))) h := (rfl)
theorem mkL_b2 (a b : Bool) : mkL false [.d (.bool a), .d (.bool b)] h = .ok (.d (.list [.bool a, .bool b])) h := (rfl)
end
end Nv
set_option Elab.async false
set_option linter.all false
set_option maxRecDepth 100000
set_option exponentiation.threshold 5000
/-! N15: the deck that a law draws from. -/
namespace Nv
open PySem
local macro_rules | `(tactic| trivial) => `(tactic| try simp only [startS, List.map_cons, List.map_nil, List.length_cons, List.length_nil, List.replicate_succ, List.replicate_zero, List.cons_append, List.nil_append, Nat.reduceAdd, Nat.reduceSub, Nat.sub_self, Nat.zero_add,
  y_n, y_c, y_ex, y_set, y_par, y_unp, y_sti, y_aug, y_ret, y_retn, y_pass, y_brk, y_cont, y_ite, pure_ap,
  x_k, x_v, x_g, x_bin, x_neg, x_cmp, x_chn, x_and, x_or, x_not, x_ite, x_tup, x_lst, x_dct, x_ix, x_sl, x_rv, x_cal, x_calk, x_bi, x_mt, x_isi, x_en, x_ec, x_on, x_os,
  List.getElem?_cons_zero, List.getElem?_cons_succ, List.set_cons_zero, List.set_cons_succ, Option.join_some, o_some, bnd_ok, bnd_bad, t_bool, t_int, t_none, pureM,
  b_add, b_sub, c_lt, c_le, c_gt, c_ge, c_eqi, c_nei, c_eqs, c_nes, fin_ret, fin_nx, exit_p, if_true, Bool.not_true, Bool.not_false, v_bi1, v_bi2, mtK])

def nums (cs : List Int) : List Val := cs.map fun c => .d (.int c)
/-- the deck: its cells, its numbers -/
def dk (key : Str) (cs : List Int) (mx n : Int) : Hs := [.lst (nums cs), .dct [(.inr key, .r 0), (.inr "mixed", .d (.int mx)), (.inr "draws", .d (.int n))]]
section
variable {key : Str} {cs : List Int} {mx n : Int}
theorem nums_d (cs : List Int) : nums cs = (cs.map PyData.int).map Val.d := by unfold nums; rw [List.map_map]; rfl
theorem dk_mixed (k : key ≠ "mixed") : ixV (.r 1) (.d (.str "mixed")) (dk key cs mx n) = .ok (.d (.int mx)) (dk key cs mx n) := by
  refine ix_r (kvs := [(.inr key, .r 0), (.inr "mixed", .d (.int mx)), (.inr "draws", .d (.int n))]) (q := .inr "mixed") rfl rfl ?_
  unfold look
  rw [if_neg (fun e => k (Sum.inr.inj e))]
  unfold look
  rw [if_pos rfl]
theorem dk_draws (k : key ≠ "draws") : ixV (.r 1) (.d (.str "draws")) (dk key cs mx n) = .ok (.d (.int n)) (dk key cs mx n) := by
  refine ix_r (kvs := [(.inr key, .r 0), (.inr "mixed", .d (.int mx)), (.inr "draws", .d (.int n))]) (q := .inr "draws") rfl rfl ?_
  unfold look
  rw [if_neg (fun e => k (Sum.inr.inj e))]
  unfold look
  rw [if_neg (by decide)]
  unfold look
  rw [if_pos rfl]
theorem dk_key : ixV (.r 1) (.d (.str key)) (dk key cs mx n) = .ok (.r 0) (dk key cs mx n) := by
  refine ix_r (kvs := [(.inr key, .r 0), (.inr "mixed", .d (.int mx)), (.inr "draws", .d (.int n))]) (q := .inr key) rfl rfl ?_
  unfold look
  rw [if_pos rfl]
theorem dk_setd (k : key ≠ "draws") (n' : Int) : stV (.r 1) (.d (.str "draws")) (.d (.int n')) (dk key cs mx n) = .ok () (dk key cs mx n') := by
  rw [st_r (kvs := [(.inr key, .r 0), (.inr "mixed", .d (.int mx)), (.inr "draws", .d (.int n))]) (q := .inr "draws") rfl rfl (by show 3 < sizeLine; decide)]
  show Res.ok () [.lst (nums cs), .dct (put (.inr "draws") (.d (.int n')) [(.inr key, .r 0), (.inr "mixed", .d (.int mx)), (.inr "draws", .d (.int n))])] = _
  have e : put (α := Val) (.inr "draws") (.d (.int n')) [(.inr key, .r 0), (.inr "mixed", .d (.int mx)), (.inr "draws", .d (.int n))] = [(.inr key, .r 0), (.inr "mixed", .d (.int mx)), (.inr "draws", .d (.int n'))] := by
    unfold put
    rw [if_pos (by simp)]
    simp only [List.map_cons, List.map_nil]
    rw [if_neg (fun e => k (Sum.inr.inj e)), if_neg (by decide), if_pos True.intro]
  rw [e]
  rfl
theorem dk_setm (k : key ≠ "mixed") (n' : Int) : stV (.r 1) (.d (.str "mixed")) (.d (.int n')) (dk key cs mx n) = .ok () (dk key cs n' n) := by
  rw [st_r (kvs := [(.inr key, .r 0), (.inr "mixed", .d (.int mx)), (.inr "draws", .d (.int n))]) (q := .inr "mixed") rfl rfl (by show 3 < sizeLine; decide)]
  show Res.ok () [.lst (nums cs), .dct (put (.inr "mixed") (.d (.int n')) [(.inr key, .r 0), (.inr "mixed", .d (.int mx)), (.inr "draws", .d (.int n))])] = _
  have e : put (α := Val) (.inr "mixed") (.d (.int n')) [(.inr key, .r 0), (.inr "mixed", .d (.int mx)), (.inr "draws", .d (.int n))] = [(.inr key, .r 0), (.inr "mixed", .d (.int n')), (.inr "draws", .d (.int n))] := by
    unfold put
    rw [if_pos (by simp)]
    simp only [List.map_cons, List.map_nil]
    rw [if_neg (fun e => k (Sum.inr.inj e)), if_pos True.intro, if_neg (by decide)]
  rw [e]
  rfl
theorem nd_ints : ∀ cs : List Int, PyData.hasDictAll (cs.map PyData.int) = false
  | [] => by simp [PyData.hasDictAll]
  | c :: cs => by simp [PyData.hasDictAll, PyData.hasDict, nd_ints cs]
theorem dk_ne : cop .ne (.r 0) (.d (.list [])) (dk key cs mx n) = .ok (.d (.bool (!cs.isEmpty))) (dk key cs mx n) := by
  rw [ne_nil (ds := cs.map PyData.int) (by show some (AO.lst (nums cs)) = _; rw [nums_d]) (nd_ints cs)]
  cases cs <;> rfl
theorem dk_kd : kdV .lst (.r 0) (dk key cs mx n) = .ok () (dk key cs mx n) := kd_l (xs := nums cs) rfl
theorem dk_pop (y : Int) : mtV .pop (.r 0) [] (dk key (cs ++ [y]) mx n) = .ok (.d (.int y)) (dk key cs mx n) := by
  rw [pop_r (xs := nums cs) (y := .d (.int y)) (by show some (AO.lst (nums (cs ++ [y]))) = _; unfold nums; rw [List.map_append]; rfl)]
  rfl
theorem dk_app (y : Int) (l : cs.length < lim) : mtV .append (.r 0) [.d (.int y)] (dk key cs mx n) = .ok (.d .none) (dk key (cs ++ [y]) mx n) := by
  rw [app_r (xs := nums cs) rfl (by unfold nums; rw [List.length_map]; exact l)]
  unfold dk nums
  rw [List.map_append]
  rfl
theorem dk_exit {x : PD} {cs' : List Int} {mx' n' : Int} {fz : Bool} : exitC fz (dk key cs mx n) (.d x) (dk key cs' mx' n') = .ok (.d x) (dk key cs' mx' n') := by
  rw [exit_d (h := dk key cs mx n) (h1 := dk key cs' mx' n') (.inr ⟨Nat.le_refl 2, ?_⟩)]
  · rfl
  · intro o m
    have m' : o ∈ [AO.lst (nums cs'), .dct [(.inr key, .r 0), (.inr "mixed", .d (.int mx')), (.inr "draws", .d (.int n'))]] := m
    rcases List.mem_cons.mp m' with rfl | m'
    · intro x mx
      unfold nums at mx
      obtain ⟨c, _, rfl⟩ := List.mem_map.mp mx
      exact True.intro
    · rcases List.mem_cons.mp m' with rfl | m'
      · intro p mp
        rcases List.mem_cons.mp mp with rfl | mp
        · exact (by decide : 0 < 2)
        · rcases List.mem_cons.mp mp with rfl | mp
          · exact True.intro
          · rcases List.mem_cons.mp mp with rfl | mp
            · exact True.intro
            · exact nomatch mp
      · exact nomatch m'
end
/-! numbers -/
theorem b_mul64 {i j : Int} {h : Hs} (hi : i.natAbs < 1267650600228229401496703205376) (hj : j.natAbs < 1267650600228229401496703205376) : bopL false .mul (.d (.int i)) (.d (.int j)) h = .ok (.d (.int (i * j))) h := by
  rw [b_mul, if_pos ⟨Nat.lt_of_lt_of_le hi (by decide), Nat.lt_of_lt_of_le hj (by decide)⟩]
theorem b_modp {i j : Int} {h : Hs} (hj : 0 < j) : bopL false .mod (.d (.int i)) (.d (.int j)) h = .ok (.d (.int (i % j))) h := by rw [b_mod, if_pos hj]
theorem b_fdivp {i j : Int} {h : Hs} (hj : 0 < j ∧ j < 1073741824) : bopL false .fdiv (.d (.int i)) (.d (.int j)) h = .ok (.d (.int (i / j))) h := by rw [b_fdiv, if_pos hj]
theorem b_pow18 {h : Hs} : bopL false .pow (.d (.int 10)) (.d (.int 18)) h = .ok (.d (.int 1000000000000000000)) h := by
  rw [b_pow, if_pos (by decide)]
  rfl
theorem v_int (i : Int) {m : Bool} {h : Hs} : bi1 .int m (.d (.int i)) h = .ok (.d (.int i)) h := (rfl)
theorem v_max (i j : Int) {m : Bool} {h : Hs} : bi2 .max m (.d (.int i)) (.d (.int j)) h = .ok (.d (.int (if j > i then j else i))) h := (rfl)
/-- the numbers of a draw -/
structure DkA where
  a : Int
  p : Int
  b : Int
  c : Int
  q : Int
  e : Int
  f : Int
  r : Int
  g : Int
  s : Int
  t : Int
def DkA.ok (z : DkA) : Bool := decide (0 < z.a ∧ z.a < 1099511627776 ∧ 0 < z.p ∧ z.p < 1099511627776 ∧ 0 < z.b ∧ z.b < 1099511627776 ∧ 0 < z.c ∧ z.c < 1099511627776 ∧ 0 < z.q ∧ z.q < 1099511627776 ∧ 0 < z.e ∧ z.e < 1099511627776 ∧ 0 < z.f ∧ z.f < 1099511627776 ∧ 0 < z.r ∧ z.r < 1099511627776 ∧
  0 < z.g ∧ z.g < 1099511627776 ∧ 0 < z.s ∧ z.s < 1099511627776 ∧ 0 < z.t ∧ z.t < 1073741824)
def drawA (key : Str) (z : DkA) : Ss :=
  (.c (.sti (.v 0) (.k (.str "draws")) (.bin .add (.ix (.v 0) (.k (.str "draws"))) (.k (.int 1))))
  (.c (.set 2 (.bin .add (.ix (.v 0) (.k (.str "mixed"))) (.bin .mul (.k (.int z.a)) (.ix (.v 0) (.k (.str "draws"))))))
  (.c (.ite (.cmp .ne (.ix (.v 0) (.k (.str key))) (.lst false .n)) 
   (.c (.set 3 (.mt .pop (.ix (.v 0) (.k (.str key))) .n))
   (.c (.ite (.cmp .ge (.v 3) (.bin .pow (.k (.int 10)) (.k (.int 18)))) 
    (.c (.ex (.mt .append (.ix (.v 0) (.k (.str key))) (.c (.bin .fdiv (.v 3) (.bi .max false (.c (.k (.int 2)) (.c (.v 1) .n)))) .n)))
    (.c (.ret (.bin .mod (.bi .int false (.c (.v 3) .n)) (.v 1))) .n)) .n)
   (.c (.set 2 (.bin .add (.v 2) (.bin .mod (.bi .int false (.c (.v 3) .n)) (.k (.int z.p))))) .n))) .n)
  (.c (.set 2 (.bin .mod (.bi .int false (.c (.bin .add (.bin .mul (.v 2) (.k (.int z.b))) (.k (.int z.c))) .n)) (.k (.int z.q))))
  (.c (.set 2 (.bin .mod (.bi .int false (.c (.bin .add (.bin .add (.bin .mul (.v 2) (.v 2)) (.bin .mul (.k (.int z.e)) (.ix (.v 0) (.k (.str "draws"))))) (.k (.int z.f))) .n)) (.k (.int z.r))))
  (.c (.set 2 (.bin .mod (.bi .int false (.c (.bin .mul (.v 2) (.k (.int z.g))) .n)) (.k (.int z.s))))
  (.c (.ret (.bin .mod (.bi .int false (.c (.bin .fdiv (.v 2) (.k (.int z.t))) .n)) (.v 1))) .n)))))))
theorem mk_nil {h : Hs} : mkL false [] h = .ok (.d (.list [])) h := (rfl)
theorem mulB {x y A B : Int} (hx : 0 ≤ x ∧ x < A) (hy : 0 ≤ y ∧ y < B) : 0 ≤ x * y ∧ x * y < A * B := by
  refine ⟨Int.mul_nonneg hx.1 hy.1, ?_⟩
  have hB : 0 < B := Int.lt_of_le_of_lt hy.1 hy.2
  exact Int.lt_of_le_of_lt (Int.mul_le_mul_of_nonneg_left (Int.le_of_lt hy.2) hx.1) (Int.mul_lt_mul_of_pos_right hx.2 hB)
/-- the last rows of a draw -/
theorem drawA_end {Γ : Ctx} {key : Str} {z : DkA} (k2 : key ≠ "draws") (hz : z.ok = true) {cs : List Int} {mx n m w : Int} {c3 : Option Val} (hn : 0 ≤ n ∧ n < 1099511627777) (h0 : 0 < m) (hw : 0 ≤ w ∧ w < 1208925819630000000000000) :
    ∃ v, 0 ≤ v ∧ v < m ∧ exSs Γ (.c (.set 2 (.bin .mod (.bi .int false (.c (.bin .add (.bin .mul (.v 2) (.k (.int z.b))) (.k (.int z.c))) .n)) (.k (.int z.q))))
  (.c (.set 2 (.bin .mod (.bi .int false (.c (.bin .add (.bin .add (.bin .mul (.v 2) (.v 2)) (.bin .mul (.k (.int z.e)) (.ix (.v 0) (.k (.str "draws"))))) (.k (.int z.f))) .n)) (.k (.int z.r))))
  (.c (.set 2 (.bin .mod (.bi .int false (.c (.bin .mul (.v 2) (.k (.int z.g))) .n)) (.k (.int z.s))))
  (.c (.ret (.bin .mod (.bi .int false (.c (.bin .fdiv (.v 2) (.k (.int z.t))) .n)) (.v 1))) .n)))) [some (.r 1), some (.d (.int m)), some (.d (.int w)), c3] (dk key cs mx n) = .ok (.ret (.d (.int v))) (dk key cs mx n) := by
  obtain ⟨a, p, b, c, q, ee, f, r, g, s, t⟩ := z
  simp only [DkA.ok, decide_eq_true_eq] at hz
  trivial
  have e1 := mulB (x := w) (y := b) hw (B := 1099511627776) ⟨by omega, by omega⟩
  rw [b_mul64 (by omega) (by omega)]
  trivial
  simp only [v_int, bnd_ok]
  rw [b_modp (by omega)]
  trivial
  have q1 := Int.emod_nonneg (w * b + c) (show q ≠ 0 by omega)
  have q2 := Int.emod_lt_of_pos (w * b + c) (show 0 < q by omega)
  generalize (w * b + c) % q = w2 at *
  have e2 := mulB (x := w2) (y := w2) (A := 1099511627776) (B := 1099511627776) ⟨by omega, by omega⟩ ⟨by omega, by omega⟩
  rw [b_mul64 (by omega) (by omega)]
  trivial
  rw [dk_draws k2]
  trivial
  have e3 := mulB (x := ee) (y := n) (A := 1099511627776) (B := 1099511627777) ⟨by omega, by omega⟩ hn
  rw [b_mul64 (by omega) (by omega)]
  trivial
  simp only [v_int, bnd_ok]
  rw [b_modp (by omega)]
  trivial
  have q3 := Int.emod_nonneg (w2 * w2 + ee * n + f) (show r ≠ 0 by omega)
  have q4 := Int.emod_lt_of_pos (w2 * w2 + ee * n + f) (show 0 < r by omega)
  generalize (w2 * w2 + ee * n + f) % r = w3 at *
  rw [b_mul64 (by omega) (by omega)]
  trivial
  simp only [v_int, bnd_ok]
  rw [b_modp (by omega)]
  trivial
  rw [b_fdivp (by omega)]
  trivial
  simp only [v_int, bnd_ok]
  rw [b_modp (by omega)]
  trivial
  exact ⟨_, Int.emod_nonneg _ (by omega), Int.emod_lt_of_pos _ h0, rfl⟩
theorem drawA_ok {T : Tab} {d i : Nat} {fn : Fn} {key : Str} {z : DkA} (k1 : key ≠ "mixed") (k2 : key ≠ "draws") (hz : z.ok = true) (e : T.fns[i]? = some fn) (hf : fn = ⟨2, 4, false, drawA key z⟩) {cs : List Int} {mx n m : Int} (lc : cs.length < lim) (hm : 0 ≤ mx ∧ mx < 1099511627776) (hn : 0 ≤ n ∧ n < 1099511627776) (h0 : 0 < m) (h1 : m < 1073741824) :
    ∃ v cs', 0 ≤ v ∧ v < m ∧ cs'.length ≤ cs.length ∧ callN T (d + 1) i [.r 1, .d (.int m)] (dk key cs mx n) = .ok (.d (.int v)) (dk key cs' mx (n + 1)) := by
  subst hf
  obtain ⟨a, p, b, c, q, ee, f, r, g, s, t⟩ := z
  simp only [DkA.ok, decide_eq_true_eq] at hz
  rw [call_eq e rfl]
  simp only [drawA]
  trivial
  rw [dk_draws k2]
  trivial
  rw [dk_setd k2]
  trivial
  rw [dk_mixed k1]
  trivial
  rw [dk_draws k2]
  trivial
  rw [b_mul64 (by omega) (by omega)]
  trivial
  rw [dk_key]
  trivial
  rw [mk_nil]
  trivial
  rw [dk_ne]
  trivial
  have ea := mulB (x := a) (y := n + 1) (A := 1099511627776) (B := 1099511627777) ⟨by omega, by omega⟩ ⟨by omega, by omega⟩
  rcases List.eq_nil_or_concat cs with rfl | ⟨cs', y, rfl⟩
  · rw [if_neg (show ¬ ((!([] : List Int).isEmpty) = true) from by decide)]
    simp only [bnd_ok]
    obtain ⟨v, v1, v2, ev⟩ := drawA_end (Γ := ⟨callN T d, T.g⟩) (key := key) (z := ⟨a, p, b, c, q, ee, f, r, g, s, t⟩) (cs := []) (mx := mx) (n := n + 1) (m := m) (w := mx + a * (n + 1)) (c3 := none) k2 (by simpa only [DkA.ok, decide_eq_true_eq] using hz) ⟨by omega, by omega⟩ h0 ⟨by omega, by omega⟩
    rw [ev]
    try simp only [bnd_ok, pure_ap]
    exact ⟨v, [], v1, v2, Nat.le_refl _, by rw [fin_ret, dk_exit]⟩
  · rw [List.concat_eq_append] at lc ⊢
    have lc2 : cs'.length < lim := by
      rw [List.length_append] at lc
      omega
    rw [if_pos (show (!(cs' ++ [y]).isEmpty) = true by simp)]
    trivial
    rw [dk_key]
    trivial
    rw [dk_kd]
    trivial
    rw [dk_pop]
    trivial
    rw [b_pow18]
    trivial
    by_cases hy : (1000000000000000000 : Int) ≤ y
    · rw [decide_eq_true hy]
      trivial
      rw [dk_key]
      trivial
      rw [dk_kd]
      trivial
      simp only [v_max, bnd_ok]
      rw [b_fdivp (by split <;> omega)]
      trivial
      rw [dk_app _ lc2]
      trivial
      simp only [v_int, bnd_ok]
      rw [b_modp h0]
      trivial
      exact ⟨_, _, Int.emod_nonneg _ (by omega), Int.emod_lt_of_pos _ h0, by simp, dk_exit⟩
    · rw [decide_eq_false hy]
      rw [if_neg (by decide)]
      trivial
      simp only [v_int, bnd_ok]
      rw [b_modp (by omega)]
      simp only [bnd_ok, b_add, y_n, List.set_cons_zero, List.set_cons_succ]
      have q1 := Int.emod_nonneg y (show p ≠ 0 by omega)
      have q2 := Int.emod_lt_of_pos y (show 0 < p by omega)
      obtain ⟨v, v1, v2, ev⟩ := drawA_end (Γ := ⟨callN T d, T.g⟩) (key := key) (z := ⟨a, p, b, c, q, ee, f, r, g, s, t⟩) (cs := cs') (mx := mx) (n := n + 1) (m := m) (w := mx + a * (n + 1) + y % p) (c3 := some (.d (.int y))) k2 (by simpa only [DkA.ok, decide_eq_true_eq] using hz) ⟨by omega, by omega⟩ h0 ⟨by omega, by omega⟩
      rw [ev]
      try simp only [bnd_ok, pure_ap]
      exact ⟨v, cs', v1, v2, by simp, by rw [fin_ret, dk_exit]⟩
/-! the deck -/
theorem cut_map {α β : Type} (f : α → β) (l : List α) (lo hi : Option Int) : cut (l.map f) lo hi = (cut l lo hi).map f := by
  unfold cut
  rw [List.length_map, List.map_take, List.map_drop]
theorem sl_l {h : Hs} (ds : List PD) (lo hi : Option Int) : slV false (.d (.list ds)) lo hi h = .ok (.d (.list (cut ds lo hi))) h := by
  show (seqOf (.d (.list ds)) >>= fun xs => mkL false (cut xs lo hi)) h = _
  rw [bind_ap, show seqOf (.d (.list ds)) h = .ok (ds.map Val.d) h from rfl, bnd_ok, cut_map, mkL_d]
theorem sl_t {h : Hs} {m : Bool} (ds : List PD) (lo hi : Option Int) : slV m (.d (.tuple ds)) lo hi h = .ok (.d (.tuple (cut ds lo hi))) h := (rfl)
theorem sl_s {h : Hs} {m : Bool} (x : Str) (lo hi : Option Int) : slV m (.d (.str x)) lo hi h = .ok (.d (.str (L2.cutS x lo hi))) h := (rfl)
theorem o_int (i : Int) {h : Hs} : optI (.d (.int i)) h = .ok (some i) h := (rfl)
theorem v_list {h : Hs} (ds : List PD) : bi1 .list false (.d (.list ds)) h = .ok (.d (.list ds)) h := by
  show (seqOf (.d (.list ds)) >>= fun xs => mkL false xs) h = _
  rw [bind_ap, show seqOf (.d (.list ds)) h = .ok (ds.map Val.d) h from rfl, bnd_ok, mkL_d]
theorem rv_l {h : Hs} {m : Bool} (ds : List PD) : revV m (.d (.list ds)) h = mkL m (ds.map Val.d).reverse h := (rfl)
structure DkM where
  a : Int
  b : Int
  p : Int
  c : Int
  q : Int
  t : Int
def DkM.ok (z : DkM) : Bool := decide (0 ≤ z.a ∧ z.a < 1099511627776 ∧ 0 < z.b ∧ z.b < 1099511627776 ∧ 0 < z.p ∧ z.p < 1099511627776 ∧ 0 < z.c ∧ z.c < 1099511627776 ∧ 0 < z.q ∧ z.q < 1099511627776)
def deckM (key : Str) (z : DkM) : Ss :=
  (.c (.set 1 (.k (.int z.a)))
  (.c (.fr (.v 2) (.sq (.sl false (.v 0) .n (.s (.k (.int z.t))))) 
   (.c (.set 1 (.bin .mod (.bi .int false (.c (.bin .add (.bin .add (.bin .mul (.v 1) (.k (.int z.b))) (.bin .mod (.bi .int false (.c (.v 2) .n)) (.k (.int z.p)))) (.k (.int z.c))) .n)) (.k (.int z.q)))) .n))
  (.c (.ret (.dct true [.inr key, .inr "mixed", .inr "draws"] (.c (.rv true (.bi .list false (.c (.sl false (.v 0) .n (.s (.k (.int z.t)))) .n))) (.c (.v 1) (.c (.k (.int 0)) .n))))) .n)))
theorem deck_loop {Γ : Ctx} {z : DkM} (hz : z.ok = true) {x : Val} {h : Hs} : ∀ (cs : List Int) (mx : Int) (c3 : Option Val), 0 ≤ mx ∧ mx < 1099511627776 → ∃ mx' c3', 0 ≤ mx' ∧ mx' < 1099511627776 ∧
    frL none (.v 2) (fun s1 => exSs Γ (.c (.set 1 (.bin .mod (.bi .int false (.c (.bin .add (.bin .add (.bin .mul (.v 1) (.k (.int z.b))) (.bin .mod (.bi .int false (.c (.v 2) .n)) (.k (.int z.p)))) (.k (.int z.c))) .n)) (.k (.int z.q)))) .n) s1) (nums cs) [some x, some (.d (.int mx)), c3] h = .ok (.nx [some x, some (.d (.int mx')), c3']) h
  | [], mx, c3, hm => ⟨mx, c3, hm.1, hm.2, fr_nil stays_n⟩
  | y :: cs, mx, c3, hm => by
    have hz' := hz
    obtain ⟨a, b, p, c, q, t⟩ := z
    simp only [DkM.ok, decide_eq_true_eq] at hz'
    have e1 := mulB (x := mx) (y := b) (A := 1099511627776) (B := 1099511627776) hm ⟨by omega, by omega⟩
    have q1 := Int.emod_nonneg y (show p ≠ 0 by omega)
    have q2 := Int.emod_lt_of_pos y (show 0 < p by omega)
    have q3 := Int.emod_nonneg (mx * b + y % p + c) (show q ≠ 0 by omega)
    have q4 := Int.emod_lt_of_pos (mx * b + y % p + c) (show 0 < q by omega)
    obtain ⟨mx', c3', h1, h2, h3⟩ := deck_loop hz cs ((mx * b + y % p + c) % q) (some (.d (.int y))) ⟨q3, by omega⟩
    refine ⟨mx', c3', h1, h2, ?_⟩
    rw [show nums (y :: cs) = .d (.int y) :: nums cs from rfl, fr_step stays_n (s1 := [some x, some (.d (.int mx)), some (.d (.int y))]) (h1 := h) (f := .nx [some x, some (.d (.int ((mx * b + y % p + c) % q))), some (.d (.int y))]) rfl ?_]
    · exact h3
    · trivial
      rw [b_mul64 (by omega) (by omega)]
      trivial
      simp only [v_int, bnd_ok]
      rw [b_modp (by omega)]
      trivial
      simp only [v_int, bnd_ok]
      rw [b_modp (by omega)]
      trivial
theorem deckM_ok {T : Tab} {d i : Nat} {fn : Fn} {key : Str} {z : DkM} (hz : z.ok = true) (e : T.fns[i]? = some fn) (hf : fn = ⟨1, 3, false, deckM key z⟩) (ns : List Int) :
    ∃ cs mx, 0 ≤ mx ∧ mx < 1099511627776 ∧ cs.length ≤ ns.length ∧ callN T (d + 1) i [.d (.list (ns.map PyData.int))] [] = .ok (.r 1) (dk key cs mx 0) := by
  subst hf
  have hz' := hz
  simp only [DkM.ok, decide_eq_true_eq] at hz'
  obtain ⟨mx, c3, h1, h2, h3⟩ := deck_loop (Γ := ⟨callN T d, T.g⟩) hz (x := .d (.list (ns.map PyData.int))) (h := []) (cut ns none (some z.t)) z.a none ⟨hz'.1, hz'.2.1⟩
  refine ⟨(cut ns none (some z.t)).reverse, mx, h1, h2, by rw [List.length_reverse]; exact cut_len _ _ _, ?_⟩
  rw [call_eq e rfl]
  simp only [deckM]
  trivial
  rw [y_fr]
  simp only [x_sq, x_sl, x_v, List.getElem?_cons_zero, Option.join_some, o_some, bnd_ok, x_on, x_os, x_k, o_int, sl_l, src_l, cut_map]
  rw [show (src (((cut ns none (some z.t)).map PyData.int).map Val.d)).items = nums (cut ns none (some z.t)) from (nums_d _).symm, show (src (((cut ns none (some z.t)).map PyData.int).map Val.d)).live = none from rfl, h3]
  trivial
  simp only [o_int, bnd_ok, sl_l, v_bi1, v_list, rv_l, cut_map, mkL_t, List.length_nil, List.nil_append]
  trivial
  show fin false [] ((Res.ok (Val.r 1) ([AO.lst (((cut ns none (some z.t)).map PyData.int).map Val.d).reverse] ++ [AO.dct [(.inr key, .r 0), (.inr "mixed", .d (.int mx)), (.inr "draws", .d (.int 0))]])).bnd _ |>.bnd _) = _
  simp only [bnd_ok, pure_ap, fin_ret, exit_r]
  unfold dk
  rw [← nums_d]
  unfold nums
  rw [List.map_reverse]
  rfl
end Nv
set_option Elab.async false
set_option linter.all false
set_option maxRecDepth 100000
set_option exponentiation.threshold 5000
/-! N16: loops and comprehensions over mapped lists; slices of texts. -/
namespace Nv
open PySem
section
variable {h : Hs}
theorem lc_maps {α : Type} {t : Tgt} {c : Sg → M Bool} {e : Sg → M Val} {s : Sg} {g g' : α → Val} : ∀ {l : List α}, (∀ x ∈ l, ∃ s1, asg t (g x) s h = .ok s1 h ∧ c s1 h = .ok true h ∧ e s1 h = .ok (g' x) h) → lcL none t c e s (l.map g) h = .ok (l.map g') h
  | [], _ => lc_nil stays_n
  | x :: l, k => by
    obtain ⟨s1, e1, e2, e3⟩ := k x (List.mem_cons_self ..)
    rw [List.map_cons, lc_step stays_n e1 e2 e3, lc_maps fun y m => k y (List.mem_cons_of_mem _ m)]
    rfl
theorem lc_filters {α : Type} {t : Tgt} {c : Sg → M Bool} {e : Sg → M Val} {s : Sg} {g g' : α → Val} {p : α → Bool} : ∀ {l : List α}, (∀ x ∈ l, ∃ s1, asg t (g x) s h = .ok s1 h ∧ c s1 h = .ok (p x) h ∧ (p x = true → e s1 h = .ok (g' x) h)) → lcL none t c e s (l.map g) h = .ok ((l.filter p).map g') h
  | [], _ => lc_nil stays_n
  | x :: l, k => by
    obtain ⟨s1, e1, e2, e3⟩ := k x (List.mem_cons_self ..)
    have ih := lc_filters fun y m => k y (List.mem_cons_of_mem _ m)
    rw [List.map_cons]
    cases hp : p x with
    | true => rw [lc_step stays_n e1 (by rw [e2, hp]) (e3 hp), ih, List.filter_cons_of_pos hp]; rfl
    | false => rw [lc_skip stays_n e1 (by rw [e2, hp]), ih, List.filter_cons_of_neg (by rw [hp]; decide)]
/-- a walk that ends at the first item that fails -/
theorem fr_all {α : Type} {t : Tgt} {b : Sg → M Fl} {g : α → Val} {P : α → Bool} {v : Val} {I : Sg → Prop} : ∀ {l : List α}, (∀ x ∈ l, ∀ s, I s → ∃ s1, asg t (g x) s h = .ok s1 h ∧ (P x = true → ∃ s2, I s2 ∧ b s1 h = .ok (.nx s2) h) ∧ (P x = false → b s1 h = .ok (.ret v) h)) → ∀ s, I s →
    (l.all P = true → ∃ s2, I s2 ∧ frL none t b (l.map g) s h = .ok (.nx s2) h) ∧ (l.all P = false → frL none t b (l.map g) s h = .ok (.ret v) h)
  | [], _, s, i => ⟨fun _ => ⟨s, i, fr_nil stays_n⟩, fun e => nomatch e⟩
  | x :: l, k, s, i => by
    obtain ⟨s1, e1, e2, e3⟩ := k x (List.mem_cons_self ..) s i
    have ih := fr_all (l := l) fun y m => k y (List.mem_cons_of_mem _ m)
    rw [List.map_cons, List.all_cons]
    cases hp : P x with
    | true =>
      obtain ⟨s2, i2, e4⟩ := e2 hp
      obtain ⟨h1, h2⟩ := ih s2 i2
      rw [Bool.true_and]
      refine ⟨fun q => ?_, fun q => ?_⟩
      · obtain ⟨s3, i3, e5⟩ := h1 q
        exact ⟨s3, i3, by rw [fr_step stays_n e1 e4]; exact e5⟩
      · rw [fr_step stays_n e1 e4]
        exact h2 q
    | false =>
      rw [Bool.false_and]
      refine ⟨fun q => ?_, fun _ => ?_⟩
      · cases q
      · rw [fr_step stays_n e1 (e3 hp)]
theorem lc2_nil {l : Option (Nat × AO)} {t : Tgt} {f : Sg → M (List Val)} {s : Sg} (st : staysM l h = .ok () h) : lcL2 l t f s [] h = .ok [] h := by
  show (staysM l >>= fun _ => (pure [] : M (List Val))) h = _
  rw [bind_ap, st]
  rfl
theorem lc2_step {l : Option (Nat × AO)} {t : Tgt} {f : Sg → M (List Val)} {s s1 : Sg} {x : Val} {xs ys : List Val} {h1 : Hs} (st : staysM l h = .ok () h) (ea : asg t x s h = .ok s1 h) (ef : f s1 h = .ok ys h1) :
    lcL2 l t f s (x :: xs) h = (lcL2 l t f s xs h1).bnd fun zs h3 => .ok (ys ++ zs) h3 := by
  show (staysM l >>= fun _ => asg t x s >>= fun s1 => f s1 >>= fun ys => lcL2 l t f s xs >>= fun zs => pure (ys ++ zs)) h = _
  simp only [bind_ap, st, bnd_ok, ea, ef]
  rfl
theorem lc2_maps {α : Type} {t : Tgt} {f : Sg → M (List Val)} {s : Sg} {g : α → Val} {g' : α → List Val} : ∀ {l : List α}, (∀ x ∈ l, ∃ s1, asg t (g x) s h = .ok s1 h ∧ f s1 h = .ok (g' x) h) → lcL2 none t f s (l.map g) h = .ok (l.flatMap g') h
  | [], _ => lc2_nil stays_n
  | x :: l, k => by
    obtain ⟨s1, e1, e2⟩ := k x (List.mem_cons_self ..)
    rw [List.map_cons, lc2_step stays_n e1 e2, lc2_maps fun y m => k y (List.mem_cons_of_mem _ m)]
    rfl
theorem x_lc2 {Γ : Ctx} {s : Sg} (m : Bool) (t : Tgt) (it : It) (t2 : Tgt) (it2 : It) (c : Oe) (e : E) : evE Γ (.lc2 m t it t2 it2 c e) s h = (evI Γ it s h).bnd fun r h1 => (lcL2 r.live t (fun s1 => evI Γ it2 s1 >>= fun r2 => lcL r2.live t2 (fun s2 => evC Γ c s2) (fun s2 => evE Γ e s2) s1 r2.items) (wS (tgS t2) s) r.items h1).bnd fun ys h2 => if ys.length ≤ lim then mkL m ys h2 else .bad := by
  exact bnd_ext fun r h1 => bnd_ext fun ys h2 => ite_ap ..
theorem x_zip {Γ : Ctx} {s : Sg} (a b : E) : evI Γ (.zip a b) s h = (evE Γ a s h).bnd fun x h1 => (evE Γ b s h1).bnd fun y h2 => zipV x y h2 := (rfl)
theorem x_enum {Γ : Ctx} {s : Sg} (a : E) : evI Γ (.enum a) s h = (evE Γ a s h).bnd fun x h1 => enumV x h1 := (rfl)
/-- zip of two texts -/
def zz (p q : List Nat) : List Val := (p.zip q).map fun c => .d (.tuple [.str (st [c.1]), .str (st [c.2])])
theorem zip_s (p q : List Nat) : zipV (.d (.str (st p))) (.d (.str (st q))) h = .ok (src (zz p q)) h := by
  show Res.ok (zipP (sigs (st p)) (sigs (st q))) h = _
  have e : ∀ l, sigs (st l) = l.map fun c => PyData.str (st [c]) := fun l => by unfold sigs; rw [st_list]; rfl
  unfold zipP
  rw [e, e, List.zip_map, List.map_map]
  rfl
theorem eq_nil {ds : List PD} (nd : PyData.hasDictAll ds = false) : cop .eq (.d (.list ds)) (.d (.list [])) h = .ok (.d (.bool ds.isEmpty)) h := by
  rw [c_eq, if_pos]
  · cases ds <;> rfl
  · simp [eqOk, PyData.hasDict, PyData.hasDictAll, nd, PyData.depth, PyData.depthAll]
    try omega
/-- slices of texts -/
theorem cut_take (l : List Nat) (i : Nat) : L2.cutS (st l) none (some (i : Int)) = st (l.take i) := by
  unfold L2.cutS
  rw [st_list, st_len, HT.sIx_none, HT.sIx_nat]
  simp only [List.drop_zero, Nat.sub_zero, st]
  rw [Nat.min_def]
  split
  · rfl
  · rw [List.take_length, List.take_of_length_le (by omega)]
theorem cut_drop (l : List Nat) (i : Nat) : L2.cutS (st l) (some (i : Int)) none = st (l.drop i) := by
  unfold L2.cutS
  rw [st_list, st_len, HT.sIx_none, HT.sIx_nat]
  rw [List.take_of_length_le (by rw [List.length_drop]; exact Nat.le_refl _)]
  simp only [st]
  rw [Nat.min_def]
  split
  · rfl
  · rw [List.drop_length, List.drop_of_length_le (by omega)]
theorem slv_s (l : List Nat) (lo hi : Option Int) {m : Bool} : slV m (.d (.str (st l))) lo hi h = .ok (.d (.str (L2.cutS (st l) lo hi))) h := (rfl)
theorem rep_st (c n : Nat) : repS n (st [c]) = st (List.replicate n c) := by
  unfold repS st
  simp
end
end Nv
set_option Elab.async false
set_option linter.all false
set_option maxRecDepth 100000
set_option exponentiation.threshold 5000
/-! N17: what repr answers. -/
namespace Nv
open PySem
/-- repr answers -/
structure Rp (d : PD) (w k : Nat) : Prop where
  c : d.canLay0 = true
  h : d.hasDict = false
  s : d.showable = true
  i : d.intsShort 1000 = true
  w : d.weight ≤ w
  d : d.depth ≤ k
theorem repr_ok {d : PD} {w k : Nat} (r : Rp d w k) (hw : w ≤ 10000) (hk : k ≤ 60) {m : Bool} {h : Hs} : bi1 .repr m (.d d) h = .ok (.d (.str d.shown)) h := by
  show (if d.showable = true ∧ d.shown.length ≤ lim ∧ d.depth ≤ 60 then (pure (.d (.str d.shown)) : M Val) else bad) h = _
  have e : lim = 16777216 := by decide
  have q : d.shown.length ≤ lim := by
    have h2 := PyData.shown_le 1000 (by decide) d (PyData.leavesShort_of_canLay0 1000 d r.c r.i)
    have := r.w
    rw [e]
    omega
  exact congrFun (if_pos ⟨r.s, q, Nat.le_trans r.d hk⟩) h
theorem rp_int {n : Nat} (hn : n < 10) : Rp (.int n) 5 0 := by
  match n, hn with
  | 0, _ | 1, _ | 2, _ | 3, _ | 4, _ | 5, _ | 6, _ | 7, _ | 8, _ | 9, _ => exact ⟨by decide +kernel, by decide +kernel, by decide +kernel, by decide +kernel, by decide +kernel, by decide +kernel⟩
theorem rp_bool (b : Bool) : Rp (.bool b) 1 0 := by
  cases b <;> exact ⟨by decide +kernel, by decide +kernel, by decide +kernel, by decide +kernel, by decide +kernel, by decide +kernel⟩
theorem rp_none : Rp .none 1 0 := ⟨by decide +kernel, by decide +kernel, by decide +kernel, by decide +kernel, by decide +kernel, by decide +kernel⟩
theorem rp_st {l : List Nat} (hl : ∀ c ∈ l, c < 128) : Rp (.str (st l)) (l.length + 1) 0 := by
  refine ⟨?_, by simp [PyData.hasDict], by simp [PyData.showable], by simp [PyData.intsShort], ?_, by simp [PyData.depth]⟩
  · simp only [PyData.canLay0]
    exact strOk_of (asc_of hl)
  · simp [PyData.weight, st]
/-- all of a list -/
structure Rps (ds : List PD) (w k : Nat) : Prop where
  c : PyData.canLayAll0 ds = true
  h : PyData.hasDictAll ds = false
  s : PyData.showableAll ds = true
  i : PyData.intsShortAll 1000 ds = true
  w : PyData.weightAll ds ≤ w
  d : PyData.depthAll ds ≤ k
theorem rps_nil : Rps [] 0 0 := ⟨by simp [PyData.canLayAll0], by simp [PyData.hasDictAll], by simp [PyData.showableAll], by simp [PyData.intsShortAll], by simp [PyData.weightAll], by simp [PyData.depthAll]⟩
theorem rps_cons {d : PD} {ds : List PD} {w1 k1 w2 k2 w k : Nat} (a : Rp d w1 k1) (b : Rps ds w2 k2) (hw : w1 + w2 + 5 ≤ w) (h1 : k1 ≤ k) (h2 : k2 ≤ k) : Rps (d :: ds) w k := by
  have := a.w; have := b.w; have := a.d; have := b.d
  refine ⟨by simp [PyData.canLayAll0, a.c, b.c], by simp [PyData.hasDictAll, a.h, b.h], by simp [PyData.showableAll, a.s, b.s], by simp [PyData.intsShortAll, a.i, b.i], ?_, ?_⟩
  · simp only [PyData.weightAll]; omega
  · simp only [PyData.depthAll]; omega
theorem rp_tup {ds : List PD} {w k w2 k2 : Nat} (a : Rps ds w k) (hw : w + 5 ≤ w2) (hk : k + 1 ≤ k2) : Rp (.tuple ds) w2 k2 := by
  have := a.w; have := a.d
  refine ⟨by simp [PyData.canLay0, a.c], by simp [PyData.hasDict, a.h], by simp [PyData.showable, a.s], by simp [PyData.intsShort, a.i], ?_, ?_⟩
  · simp only [PyData.weight]; omega
  · simp only [PyData.depth]; omega
theorem rp_lst {ds : List PD} {w k w2 k2 : Nat} (a : Rps ds w k) (hw : w + 5 ≤ w2) (hk : k + 1 ≤ k2) : Rp (.list ds) w2 k2 := by
  have := a.w; have := a.d
  refine ⟨by simp [PyData.canLay0, a.c], by simp [PyData.hasDict, a.h], by simp [PyData.showable, a.s], by simp [PyData.intsShort, a.i], ?_, ?_⟩
  · simp only [PyData.weight]; omega
  · simp only [PyData.depth]; omega
end Nv
set_option Elab.async false
set_option linter.all false
set_option maxRecDepth 100000
set_option exponentiation.threshold 5000
/-! N18: the deck below other lists. -/
namespace Nv
open PySem
local macro_rules | `(tactic| trivial) => `(tactic| try simp only [startS, List.map_cons, List.map_nil, List.length_cons, List.length_nil, List.replicate_succ, List.replicate_zero, List.cons_append, List.nil_append, Nat.reduceAdd, Nat.reduceSub, Nat.sub_self, Nat.zero_add,
  y_n, y_c, y_ex, y_set, y_par, y_unp, y_sti, y_aug, y_ret, y_retn, y_pass, y_brk, y_cont, y_ite, pure_ap,
  x_k, x_v, x_g, x_bin, x_neg, x_cmp, x_chn, x_and, x_or, x_not, x_ite, x_tup, x_lst, x_dct, x_ix, x_sl, x_rv, x_cal, x_calk, x_bi, x_mt, x_isi, x_en, x_ec, x_on, x_os,
  List.getElem?_cons_zero, List.getElem?_cons_succ, List.set_cons_zero, List.set_cons_succ, Option.join_some, o_some, bnd_ok, bnd_bad, t_bool, t_int, t_none, pureM,
  b_add, b_sub, c_lt, c_le, c_gt, c_ge, c_eqi, c_nei, c_eqs, c_nes, fin_ret, fin_nx, exit_p, if_true, Bool.not_true, Bool.not_false, v_bi1, v_bi2, mtK])

/-- the deck with lists above it -/
def dkf (F : Hs) (key : Str) (cs : List Int) (mx n : Int) : Hs := .lst (nums cs) :: .dct [(.inr key, .r 0), (.inr "mixed", .d (.int mx)), (.inr "draws", .d (.int n))] :: F
theorem dkf_0 (key : Str) (cs : List Int) (mx n : Int) : dkf [] key cs mx n = dk key cs mx n := rfl
section
variable {F : Hs} {key : Str} {cs : List Int} {mx n : Int}
theorem dkf_mixed (k : key ≠ "mixed") : ixV (.r 1) (.d (.str "mixed")) (dkf F key cs mx n) = .ok (.d (.int mx)) (dkf F key cs mx n) := by
  refine ix_r (kvs := [(.inr key, .r 0), (.inr "mixed", .d (.int mx)), (.inr "draws", .d (.int n))]) (q := .inr "mixed") rfl rfl ?_
  unfold look
  rw [if_neg (fun e => k (Sum.inr.inj e))]
  unfold look
  rw [if_pos rfl]
theorem dkf_draws (k : key ≠ "draws") : ixV (.r 1) (.d (.str "draws")) (dkf F key cs mx n) = .ok (.d (.int n)) (dkf F key cs mx n) := by
  refine ix_r (kvs := [(.inr key, .r 0), (.inr "mixed", .d (.int mx)), (.inr "draws", .d (.int n))]) (q := .inr "draws") rfl rfl ?_
  unfold look
  rw [if_neg (fun e => k (Sum.inr.inj e))]
  unfold look
  rw [if_neg (by decide)]
  unfold look
  rw [if_pos rfl]
theorem dkf_key : ixV (.r 1) (.d (.str key)) (dkf F key cs mx n) = .ok (.r 0) (dkf F key cs mx n) := by
  refine ix_r (kvs := [(.inr key, .r 0), (.inr "mixed", .d (.int mx)), (.inr "draws", .d (.int n))]) (q := .inr key) rfl rfl ?_
  unfold look
  rw [if_pos rfl]
theorem dkf_setd (k : key ≠ "draws") (n' : Int) : stV (.r 1) (.d (.str "draws")) (.d (.int n')) (dkf F key cs mx n) = .ok () (dkf F key cs mx n') := by
  rw [st_r (kvs := [(.inr key, .r 0), (.inr "mixed", .d (.int mx)), (.inr "draws", .d (.int n))]) (q := .inr "draws") rfl rfl (by show 3 < sizeLine; decide)]
  show Res.ok () (.lst (nums cs) :: .dct (put (.inr "draws") (.d (.int n')) [(.inr key, .r 0), (.inr "mixed", .d (.int mx)), (.inr "draws", .d (.int n))]) :: F) = _
  have e : put (α := Val) (.inr "draws") (.d (.int n')) [(.inr key, .r 0), (.inr "mixed", .d (.int mx)), (.inr "draws", .d (.int n))] = [(.inr key, .r 0), (.inr "mixed", .d (.int mx)), (.inr "draws", .d (.int n'))] := by
    unfold put
    rw [if_pos (by simp)]
    simp only [List.map_cons, List.map_nil]
    rw [if_neg (fun e => k (Sum.inr.inj e)), if_neg (by decide), if_pos True.intro]
  rw [e]
  rfl
theorem dkf_setm (k : key ≠ "mixed") (n' : Int) : stV (.r 1) (.d (.str "mixed")) (.d (.int n')) (dkf F key cs mx n) = .ok () (dkf F key cs n' n) := by
  rw [st_r (kvs := [(.inr key, .r 0), (.inr "mixed", .d (.int mx)), (.inr "draws", .d (.int n))]) (q := .inr "mixed") rfl rfl (by show 3 < sizeLine; decide)]
  show Res.ok () (.lst (nums cs) :: .dct (put (.inr "mixed") (.d (.int n')) [(.inr key, .r 0), (.inr "mixed", .d (.int mx)), (.inr "draws", .d (.int n))]) :: F) = _
  have e : put (α := Val) (.inr "mixed") (.d (.int n')) [(.inr key, .r 0), (.inr "mixed", .d (.int mx)), (.inr "draws", .d (.int n))] = [(.inr key, .r 0), (.inr "mixed", .d (.int n')), (.inr "draws", .d (.int n))] := by
    unfold put
    rw [if_pos (by simp)]
    simp only [List.map_cons, List.map_nil]
    rw [if_neg (fun e => k (Sum.inr.inj e)), if_pos True.intro, if_neg (by decide)]
  rw [e]
  rfl
theorem dkf_ne : cop .ne (.r 0) (.d (.list [])) (dkf F key cs mx n) = .ok (.d (.bool (!cs.isEmpty))) (dkf F key cs mx n) := by
  rw [ne_nil (ds := cs.map PyData.int) (by show some (AO.lst (nums cs)) = _; rw [nums_d]) (nd_ints cs)]
  cases cs <;> rfl
theorem dkf_kd : kdV .lst (.r 0) (dkf F key cs mx n) = .ok () (dkf F key cs mx n) := kd_l (xs := nums cs) rfl
theorem dkf_pop (y : Int) : mtV .pop (.r 0) [] (dkf F key (cs ++ [y]) mx n) = .ok (.d (.int y)) (dkf F key cs mx n) := by
  rw [pop_r (xs := nums cs) (y := .d (.int y)) (by show some (AO.lst (nums (cs ++ [y]))) = _; unfold nums; rw [List.map_append]; rfl)]
  rfl
theorem dkf_app (y : Int) (l : cs.length < lim) : mtV .append (.r 0) [.d (.int y)] (dkf F key cs mx n) = .ok (.d .none) (dkf F key (cs ++ [y]) mx n) := by
  rw [app_r (xs := nums cs) rfl (by unfold nums; rw [List.length_map]; exact l)]
  unfold dkf nums
  rw [List.map_append]
  rfl
theorem dkf_exit2g (hF : ∀ o ∈ F, objOk (F.length + 2) o) {G : Hs} {x : PD} {cs' : List Int} {mx' n' : Int} {fz : Bool} : exitC fz (dkf F key cs mx n) (.d x) (dkf (F ++ G) key cs' mx' n') = .ok (.d x) (dkf F key cs' mx' n') := by
  have tk : (dkf (F ++ G) key cs' mx' n').take (dkf F key cs mx n).length = dkf F key cs' mx' n' := by
    show (.lst (nums cs') :: .dct _ :: (F ++ G) : Hs).take (F.length + 2) = _
    rw [List.take_succ_cons, List.take_succ_cons, List.take_left]
    rfl
  rw [exit_d (h := dkf F key cs mx n) (h1 := dkf (F ++ G) key cs' mx' n') (.inr ⟨?_, ?_⟩), tk]
  · show F.length + 2 ≤ (F ++ G).length + 2
    rw [List.length_append]
    omega
  · intro o m
    rw [tk] at m
    have m' : o ∈ (AO.lst (nums cs') :: .dct [(.inr key, .r 0), (.inr "mixed", .d (.int mx')), (.inr "draws", .d (.int n'))] :: F) := m
    rcases List.mem_cons.mp m' with rfl | m'
    · intro x mx
      unfold nums at mx
      obtain ⟨c, _, rfl⟩ := List.mem_map.mp mx
      exact True.intro
    · rcases List.mem_cons.mp m' with rfl | m'
      · intro p mp
        rcases List.mem_cons.mp mp with rfl | mp
        · show 0 < F.length + 2
          omega
        · rcases List.mem_cons.mp mp with rfl | mp
          · exact True.intro
          · rcases List.mem_cons.mp mp with rfl | mp
            · exact True.intro
            · exact nomatch mp
      · exact hF o m'
theorem fd_ok (hF : ∀ o ∈ F, ∃ ds : List PD, o = .lst (ds.map Val.d)) : ∀ o ∈ F, objOk (F.length + 2) o := fun o m => by
  obtain ⟨ds, rfl⟩ := hF o m
  intro x mx
  obtain ⟨c, _, rfl⟩ := List.mem_map.mp mx
  exact True.intro
theorem dkf_exit2 (hF : ∀ o ∈ F, ∃ ds : List PD, o = .lst (ds.map Val.d)) {G : Hs} {x : PD} {cs' : List Int} {mx' n' : Int} {fz : Bool} : exitC fz (dkf F key cs mx n) (.d x) (dkf (F ++ G) key cs' mx' n') = .ok (.d x) (dkf F key cs' mx' n') := dkf_exit2g (fd_ok hF)
theorem dkf_exitg (hF : ∀ o ∈ F, objOk (F.length + 2) o) {x : PD} {cs' : List Int} {mx' n' : Int} {fz : Bool} : exitC fz (dkf F key cs mx n) (.d x) (dkf F key cs' mx' n') = .ok (.d x) (dkf F key cs' mx' n') := by
  have := dkf_exit2g (key := key) (cs := cs) (mx := mx) (n := n) hF (G := []) (x := x) (cs' := cs') (mx' := mx') (n' := n') (fz := fz)
  rw [List.append_nil] at this
  exact this
theorem dkf_exit (hF : ∀ o ∈ F, ∃ ds : List PD, o = .lst (ds.map Val.d)) {x : PD} {cs' : List Int} {mx' n' : Int} {fz : Bool} : exitC fz (dkf F key cs mx n) (.d x) (dkf F key cs' mx' n') = .ok (.d x) (dkf F key cs' mx' n') := dkf_exitg (fd_ok hF)
end
/-- the last rows of a draw -/
theorem drawF_end {Γ : Ctx} {F : Hs} {key : Str} {z : DkA} (k2 : key ≠ "draws") (hz : z.ok = true) {cs : List Int} {mx n m w : Int} {c3 : Option Val} (hn : 0 ≤ n ∧ n < 1099511627777) (h0 : 0 < m) (hw : 0 ≤ w ∧ w < 1208925819630000000000000) :
    ∃ v, 0 ≤ v ∧ v < m ∧ exSs Γ (.c (.set 2 (.bin .mod (.bi .int false (.c (.bin .add (.bin .mul (.v 2) (.k (.int z.b))) (.k (.int z.c))) .n)) (.k (.int z.q))))
  (.c (.set 2 (.bin .mod (.bi .int false (.c (.bin .add (.bin .add (.bin .mul (.v 2) (.v 2)) (.bin .mul (.k (.int z.e)) (.ix (.v 0) (.k (.str "draws"))))) (.k (.int z.f))) .n)) (.k (.int z.r))))
  (.c (.set 2 (.bin .mod (.bi .int false (.c (.bin .mul (.v 2) (.k (.int z.g))) .n)) (.k (.int z.s))))
  (.c (.ret (.bin .mod (.bi .int false (.c (.bin .fdiv (.v 2) (.k (.int z.t))) .n)) (.v 1))) .n)))) [some (.r 1), some (.d (.int m)), some (.d (.int w)), c3] (dkf F key cs mx n) = .ok (.ret (.d (.int v))) (dkf F key cs mx n) := by
  obtain ⟨a, p, b, c, q, ee, f, r, g, s, t⟩ := z
  simp only [DkA.ok, decide_eq_true_eq] at hz
  trivial
  have e1 := mulB (x := w) (y := b) hw (B := 1099511627776) ⟨by omega, by omega⟩
  rw [b_mul64 (by omega) (by omega)]
  trivial
  simp only [v_int, bnd_ok]
  rw [b_modp (by omega)]
  trivial
  have q1 := Int.emod_nonneg (w * b + c) (show q ≠ 0 by omega)
  have q2 := Int.emod_lt_of_pos (w * b + c) (show 0 < q by omega)
  generalize (w * b + c) % q = w2 at *
  have e2 := mulB (x := w2) (y := w2) (A := 1099511627776) (B := 1099511627776) ⟨by omega, by omega⟩ ⟨by omega, by omega⟩
  rw [b_mul64 (by omega) (by omega)]
  trivial
  rw [dkf_draws k2]
  trivial
  have e3 := mulB (x := ee) (y := n) (A := 1099511627776) (B := 1099511627777) ⟨by omega, by omega⟩ hn
  rw [b_mul64 (by omega) (by omega)]
  trivial
  simp only [v_int, bnd_ok]
  rw [b_modp (by omega)]
  trivial
  have q3 := Int.emod_nonneg (w2 * w2 + ee * n + f) (show r ≠ 0 by omega)
  have q4 := Int.emod_lt_of_pos (w2 * w2 + ee * n + f) (show 0 < r by omega)
  generalize (w2 * w2 + ee * n + f) % r = w3 at *
  rw [b_mul64 (by omega) (by omega)]
  trivial
  simp only [v_int, bnd_ok]
  rw [b_modp (by omega)]
  trivial
  rw [b_fdivp (by omega)]
  trivial
  simp only [v_int, bnd_ok]
  rw [b_modp (by omega)]
  trivial
  exact ⟨_, Int.emod_nonneg _ (by omega), Int.emod_lt_of_pos _ h0, rfl⟩
theorem drawF_okg {T : Tab} {d i : Nat} {fn : Fn} {F : Hs} (hF : ∀ o ∈ F, objOk (F.length + 2) o) {key : Str} {z : DkA} (k1 : key ≠ "mixed") (k2 : key ≠ "draws") (hz : z.ok = true) (e : T.fns[i]? = some fn) (hf : fn = ⟨2, 4, false, drawA key z⟩) {cs : List Int} {mx n m : Int} (lc : cs.length < lim) (hm : 0 ≤ mx ∧ mx < 1099511627776) (hn : 0 ≤ n ∧ n < 1099511627776) (h0 : 0 < m) (h1 : m < 1073741824) :
    ∃ v cs', 0 ≤ v ∧ v < m ∧ cs'.length ≤ cs.length ∧ callN T (d + 1) i [.r 1, .d (.int m)] (dkf F key cs mx n) = .ok (.d (.int v)) (dkf F key cs' mx (n + 1)) := by
  subst hf
  obtain ⟨a, p, b, c, q, ee, f, r, g, s, t⟩ := z
  simp only [DkA.ok, decide_eq_true_eq] at hz
  rw [call_eq e rfl]
  simp only [drawA]
  trivial
  rw [dkf_draws k2]
  trivial
  rw [dkf_setd k2]
  trivial
  rw [dkf_mixed k1]
  trivial
  rw [dkf_draws k2]
  trivial
  rw [b_mul64 (by omega) (by omega)]
  trivial
  rw [dkf_key]
  trivial
  rw [mk_nil]
  trivial
  rw [dkf_ne]
  trivial
  have ea := mulB (x := a) (y := n + 1) (A := 1099511627776) (B := 1099511627777) ⟨by omega, by omega⟩ ⟨by omega, by omega⟩
  rcases List.eq_nil_or_concat cs with rfl | ⟨cs', y, rfl⟩
  · rw [if_neg (show ¬ ((!([] : List Int).isEmpty) = true) from by decide)]
    simp only [bnd_ok]
    obtain ⟨v, v1, v2, ev⟩ := drawF_end (Γ := ⟨callN T d, T.g⟩) (key := key) (z := ⟨a, p, b, c, q, ee, f, r, g, s, t⟩) (cs := []) (mx := mx) (n := n + 1) (m := m) (w := mx + a * (n + 1)) (c3 := none) k2 (by simpa only [DkA.ok, decide_eq_true_eq] using hz) ⟨by omega, by omega⟩ h0 ⟨by omega, by omega⟩
    rw [ev]
    try simp only [bnd_ok, pure_ap]
    exact ⟨v, [], v1, v2, Nat.le_refl _, by rw [fin_ret, dkf_exitg hF]⟩
  · rw [List.concat_eq_append] at lc ⊢
    have lc2 : cs'.length < lim := by
      rw [List.length_append] at lc
      omega
    rw [if_pos (show (!(cs' ++ [y]).isEmpty) = true by simp)]
    trivial
    rw [dkf_key]
    trivial
    rw [dkf_kd]
    trivial
    rw [dkf_pop]
    trivial
    rw [b_pow18]
    trivial
    by_cases hy : (1000000000000000000 : Int) ≤ y
    · rw [decide_eq_true hy]
      trivial
      rw [dkf_key]
      trivial
      rw [dkf_kd]
      trivial
      simp only [v_max, bnd_ok]
      rw [b_fdivp (by split <;> omega)]
      trivial
      rw [dkf_app _ lc2]
      trivial
      simp only [v_int, bnd_ok]
      rw [b_modp h0]
      trivial
      exact ⟨_, _, Int.emod_nonneg _ (by omega), Int.emod_lt_of_pos _ h0, by simp, dkf_exitg hF⟩
    · rw [decide_eq_false hy]
      rw [if_neg (by decide)]
      trivial
      simp only [v_int, bnd_ok]
      rw [b_modp (by omega)]
      simp only [bnd_ok, b_add, y_n, List.set_cons_zero, List.set_cons_succ]
      have q1 := Int.emod_nonneg y (show p ≠ 0 by omega)
      have q2 := Int.emod_lt_of_pos y (show 0 < p by omega)
      obtain ⟨v, v1, v2, ev⟩ := drawF_end (Γ := ⟨callN T d, T.g⟩) (key := key) (z := ⟨a, p, b, c, q, ee, f, r, g, s, t⟩) (cs := cs') (mx := mx) (n := n + 1) (m := m) (w := mx + a * (n + 1) + y % p) (c3 := some (.d (.int y))) k2 (by simpa only [DkA.ok, decide_eq_true_eq] using hz) ⟨by omega, by omega⟩ h0 ⟨by omega, by omega⟩
      rw [ev]
      try simp only [bnd_ok, pure_ap]
      exact ⟨v, cs', v1, v2, by simp, by rw [fin_ret, dkf_exitg hF]⟩
theorem drawF_ok {T : Tab} {d i : Nat} {fn : Fn} {F : Hs} (hF : ∀ o ∈ F, ∃ ds : List PD, o = .lst (ds.map Val.d)) {key : Str} {z : DkA} (k1 : key ≠ "mixed") (k2 : key ≠ "draws") (hz : z.ok = true) (e : T.fns[i]? = some fn) (hf : fn = ⟨2, 4, false, drawA key z⟩) {cs : List Int} {mx n m : Int} (lc : cs.length < lim) (hm : 0 ≤ mx ∧ mx < 1099511627776) (hn : 0 ≤ n ∧ n < 1099511627776) (h0 : 0 < m) (h1 : m < 1073741824) :
    ∃ v cs', 0 ≤ v ∧ v < m ∧ cs'.length ≤ cs.length ∧ callN T (d + 1) i [.r 1, .d (.int m)] (dkf F key cs mx n) = .ok (.d (.int v)) (dkf F key cs' mx (n + 1)) := drawF_okg (fd_ok hF) k1 k2 hz e hf lc hm hn h0 h1
end Nv
set_option Elab.async false
set_option linter.all false
set_option maxRecDepth 100000
set_option exponentiation.threshold 5000
/-! N19: texts of signs, lists of signs. -/
namespace Nv
open PySem
section
variable {h : Hs}
theorem one_lt (a b : Nat) : [a] < [b] ↔ a < b := by
  rw [List.cons_lt_cons_iff]
  exact ⟨fun q => q.elim id fun q => absurd q.2 (List.not_lt_nil _), .inl⟩
/-- the signs of a text as data -/
def sg (l : List Nat) : List PD := l.map fun c => .str (st [c])
theorem sg_len (l : List Nat) : (sg l).length = l.length := List.length_map ..
theorem in_st {l : List Nat} {c : Nat} : cop .isin (.d (.str (st [c]))) (.d (.str (st l))) h = .ok (.d (.bool (decide (c ∈ l)))) h := by
  show Res.ok (Val.d (.bool (!(Builtin.Str.occurrences (st l) (st [c]) 0 (st l).length 1).isEmpty))) h = _
  rw [show (st [c]) = (⟨#[c]⟩ : Str) from rfl, StrLaws.found_one, st_list]
theorem nin_st {l : List Nat} {c : Nat} : cop .notin (.d (.str (st [c]))) (.d (.str (st l))) h = .ok (.d (.bool (!decide (c ∈ l)))) h := by
  show Res.ok (Val.d (.bool (!(!(Builtin.Str.occurrences (st l) (st [c]) 0 (st l).length 1).isEmpty)))) h = _
  rw [show (st [c]) = (⟨#[c]⟩ : Str) from rfl, StrLaws.found_one, st_list]
theorem lt_st {a b : Nat} : cop .lt (.d (.str (st [a]))) (.d (.str (st [b]))) h = .ok (.d (.bool (decide (a < b)))) h := by
  show Res.ok (Val.d (.bool (strLt (st [a]) (st [b])))) h = _
  unfold strLt
  rw [st_list, st_list]
  congr 3
  exact Bool.eq_iff_iff.mpr (by rw [decide_eq_true_eq, decide_eq_true_eq, one_lt])
theorem idx_st {l : List Nat} {c : Nat} (m : c ∈ l) : ∃ i : Nat, l[i]? = some c ∧ ∀ h : Hs, mtV .idx (.d (.str (st l))) [.d (.str (st [c]))] h = .ok (.d (.int i)) h := by
  obtain ⟨j, ej⟩ := List.mem_iff_getElem?.mp m
  rcases StrLaws.occ_head (st l) (st [c]) 1 (Nat.le_refl _) with ⟨_, hn⟩ | ⟨i, r, e, hi, _⟩
  · exact absurd ((StrLaws.subAt_one (st l) c j).mpr (by rw [st_list]; exact ej)) (hn j)
  · have := (StrLaws.subAt_one (st l) c i).mp hi
    rw [st_list] at this
    refine ⟨i, this, fun h => ?_⟩
    show (optM (Builtin.Str.occurrences (st l) (st [c]) 0 (st l).length 1).head? >>= fun i => intV ((i : Nat) : Int)) h = _
    rw [e, bind_ap]
    rfl
theorem b_lst {xs ys : List PD} (hl : xs.length + ys.length ≤ lim) : bopL false .add (.d (.list xs)) (.d (.list ys)) h = .ok (.d (.list (xs ++ ys))) h := by
  show (seqOf (.d (.list xs)) >>= fun xs => seqOf (.d (.list ys)) >>= fun ys => if xs.length + ys.length ≤ lim then mkL false (xs ++ ys) else bad) h = _
  rw [bind_ap, show seqOf (.d (.list xs)) h = .ok (xs.map .d) h from rfl, bnd_ok, bind_ap, show seqOf (.d (.list ys)) h = .ok (ys.map .d) h from rfl, bnd_ok, if_pos (by rw [List.length_map, List.length_map]; exact hl), ← List.map_append, mkL_d]
theorem b_tup {xs ys : List PD} (hl : xs.length + ys.length ≤ lim) : bopL false .add (.d (.tuple xs)) (.d (.tuple ys)) h = .ok (.d (.tuple (xs ++ ys))) h := by
  show (if xs.length + ys.length ≤ lim then (pure (.d (.tuple (xs ++ ys))) : M Val) else bad) h = _
  rw [if_pos hl]
  rfl
theorem b_mulS {c : Nat} {k : Int} (hk : k ≤ 1000 ∧ -1000 ≤ k) : bopL false .mul (.d (.str (st [c]))) (.d (.int k)) h = .ok (.d (.str (st (List.replicate k.toNat c)))) h := by
  show (if k ≤ 1000 ∧ -1000 ≤ k ∧ (st [c]).length ≤ 1000 then (pure (.d (.str (repS k.toNat (st [c])))) : M Val) else bad) h = _
  rw [if_pos ⟨hk.1, hk.2, by rw [st_len]; exact (by decide : 1 ≤ 1000)⟩, rep_st]
  rfl
theorem b_mulL {xs : List PD} {k : Int} (hk : k ≤ 1000 ∧ -1000 ≤ k) (hx : xs.length ≤ 1000) : bopL false .mul (.d (.list xs)) (.d (.int k)) h = .ok (.d (.list (List.replicate k.toNat xs).flatten)) h := by
  show (seqOf (.d (.list xs)) >>= fun xs => if (k ≤ 1000 ∧ -1000 ≤ k) ∧ xs.length ≤ 1000 then mkL false (List.replicate k.toNat xs).flatten else bad) h = _
  rw [bind_ap, show seqOf (.d (.list xs)) h = .ok (xs.map .d) h from rfl, bnd_ok, if_pos ⟨hk, by rw [List.length_map]; exact hx⟩, show (List.replicate k.toNat (xs.map Val.d)).flatten = (List.replicate k.toNat xs).flatten.map Val.d by rw [List.map_flatten, List.map_replicate], mkL_d]
theorem v_min (i j : Int) {m : Bool} : bi2 .min m (.d (.int i)) (.d (.int j)) h = .ok (.d (.int (if j < i then j else i))) h := (rfl)
theorem v_listS {l : List Nat} : bi1 .list false (.d (.str (st l))) h = .ok (.d (.list (sg l))) h := by
  show mkL false ((sigs (st l)).map .d) h = _
  rw [mkL_d]
  unfold sigs sg
  rw [st_list]
  rfl
theorem v_listSt {l : List Nat} : bi1 .list true (.d (.str (st l))) h = .ok (.r h.length) (h ++ [.lst ((sg l).map .d)]) := by
  show mkL true ((sigs (st l)).map .d) h = _
  rw [mkL_t]
  unfold sigs sg
  rw [st_list]
  rfl
theorem popi_r {a : Nat} {xs : List Val} {i : Nat} {y : Val} (e : h[a]? = some (.lst xs)) (ey : xs[i]? = some y) : mtV .popi (.r a) [.d (.int i)] h = .ok y (h.set a (.lst (xs.eraseIdx i))) := by
  show (getO a >>= fun o => itemsO o >>= fun zs => if 0 ≤ (i : Int) ∧ (i : Int) < zs.length then (optM zs[(i : Int).toNat]? >>= fun y => setO a (.lst (zs.eraseIdx (i : Int).toNat)) >>= fun _ => (pure y : M Val)) else bad) h = _
  have hi := (List.getElem?_eq_some_iff.mp ey).1
  rw [bind_ap, getO_ap e, bnd_ok, bind_ap, show itemsO (.lst xs) h = .ok xs h from rfl, bnd_ok, if_pos ⟨by omega, by omega⟩, bind_ap, Int.toNat_natCast, ey, o_some, bnd_ok]
  rfl
theorem sg_strs (l : List Nat) : strsOf (sg l) = some (l.map fun c => st [c]) := by
  induction l with
  | nil => rfl
  | cons s r ih => show (strsOf (sg r)).map _ = _; rw [ih]; rfl
theorem sort_sg {f : List Nat} (h0 : f ≠ []) : sortM false (sg f) h = .ok (.d (.list (sg (f.mergeSort fun a b => decide (a ≤ b))))) h := by
  unfold sortM
  have hi : intsOf (sg f) = none := by
    obtain ⟨a, r, rfl⟩ := List.exists_cons_of_ne_nil h0
    rfl
  rw [hi]
  show (optM (strsOf (sg f)) >>= fun ss => mkL false ((srtS ss).map fun i => Val.d (.str i))) h = _
  rw [sg_strs, bind_ap, o_some, bnd_ok]
  unfold srtS
  rw [← List.map_mergeSort (r := fun a b => decide (a ≤ b)) (f := fun c => st [c])]
  · rw [List.map_map, show ((f.mergeSort fun a b => decide (a ≤ b)).map ((fun i => Val.d (.str i)) ∘ fun c => st [c])) = (sg (f.mergeSort fun a b => decide (a ≤ b))).map Val.d by unfold sg; rw [List.map_map]; rfl, mkL_d]
  · intro a _ b _
    unfold strLt
    rw [st_list, st_list]
    have := one_lt b a
    rw [Bool.eq_iff_iff, decide_eq_true_eq, Bool.not_eq_true', decide_eq_false_iff_not, this, Nat.not_lt]
theorem sort_r {a : Nat} {f : List Nat} (e : h[a]? = some (.lst ((sg f).map .d))) (h0 : f ≠ []) : bi1 .sorted false (.r a) h = .ok (.d (.list (sg (f.mergeSort fun a b => decide (a ≤ b))))) h := by
  show (getO a >>= fun o => sortO false o) h = _
  rw [bind_ap, getO_ap e, bnd_ok]
  show (optM (dats ((sg f).map Val.d)) >>= fun ds => sortM false ds) h = _
  rw [dats_map, bind_ap, o_some, bnd_ok, sort_sg h0]
/-- strictly rising -/
theorem sorted_lt {f : List Nat} (hf : f.Nodup) : (f.mergeSort fun a b => decide (a ≤ b)).Pairwise (· < ·) := by
  have h1 : (f.mergeSort fun a b => decide (a ≤ b)).Pairwise (· ≤ ·) := by
    have := List.pairwise_mergeSort (le := fun a b : Nat => decide (a ≤ b)) (by simp; omega) (by simp; omega) f
    exact this.imp fun {a b} q => of_decide_eq_true q
  have h2 : (f.mergeSort fun a b => decide (a ≤ b)).Nodup := (List.mergeSort_perm f _).nodup_iff.mpr hf
  exact List.Pairwise.imp₂ (fun a b q r => Nat.lt_of_le_of_ne q r) h1 h2
theorem join_s : ∀ l : List Nat, Str.join (st []) (l.map fun c => st [c]) = st l
  | [] => rfl
  | [c] => rfl
  | c :: d :: r => by
    have ih := join_s (d :: r)
    show st [c] ++ st [] ++ Str.join (st []) ((d :: r).map fun c => st [c]) = _
    rw [ih, st_app, st_app]
    rfl
theorem join_e (l : List Nat) : Txt.join (st []) (l.map fun c => st [c]) = st l := by
  rw [TL.join_eq, join_s]
theorem join_sg {l : List Nat} (hl : l.length ≤ lim) : mtV .join (.d (.str ("" : Str))) [.d (.list (sg l))] h = .ok (.d (.str (st l))) h := by
  rw [show ("" : Str) = st [] from by decide]
  show (seqOf (.d (.list (sg l))) >>= fun ys => optM (dats ys) >>= fun ds => optM (strsOf ds) >>= fun ss => if (ss.map (·.length)).sum + ss.length * (st []).length ≤ lim then (pure (.d (.str (Txt.join (st []) ss))) : M Val) else bad) h = _
  have e3 : ∀ l : List Nat, ((l.map fun c => st [c]).map (·.length)).sum = l.length := fun l => by
    induction l with
    | nil => rfl
    | cons c r ih => rw [List.map_cons, List.map_cons, List.sum_cons, ih, st_len, List.length_cons, List.length_cons]; simp only [List.length_nil]; omega
  rw [bind_ap, show seqOf (.d (.list (sg l))) h = .ok ((sg l).map Val.d) h from rfl, bnd_ok, dats_map, bind_ap, o_some, bnd_ok, sg_strs, bind_ap, o_some, bnd_ok, if_pos (by rw [e3, st_len]; simpa using hl), join_e]
  rfl
theorem src_sg (l : List Nat) : srcOf (.d (.str (st l))) h = .ok (src ((sg l).map Val.d)) h := by
  rw [src_s]
  unfold sg
  rw [List.map_map]
  rfl
theorem src_t (ds : List PD) : srcOf (.d (.tuple ds)) h = .ok (src (ds.map Val.d)) h := (rfl)
/-- a comprehension whose items tell data, nothing changes -/
theorem x_lcm {α : Type} {Γ : Ctx} {s : Sg} {t : Tgt} {it : It} {e : E} {l : List α} {g : α → Val} {f : α → PD} (ei : evI Γ it s h = .ok (src (l.map g)) h) (k : ∀ x ∈ l, ∃ s1, asg t (g x) s h = .ok s1 h ∧ evE Γ e s1 h = .ok (.d (f x)) h) : evE Γ (.lc false t it .n e) s h = .ok (.d (.list (l.map f))) h := by
  rw [x_lc, ei, bnd_ok]
  simp only [items_src, live_src]
  rw [lc_maps (g' := fun x => .d (f x)) fun x m => by
    obtain ⟨s1, e1, e2⟩ := k x m
    exact ⟨s1, e1, x_cn, e2⟩]
  rw [bnd_ok, show (l.map fun x => Val.d (f x)) = (l.map f).map Val.d by rw [List.map_map]; rfl, mkL_d]
theorem x_lcf {α : Type} {Γ : Ctx} {s : Sg} {t : Tgt} {it : It} {c e : E} {l : List α} {g : α → Val} {f : α → PD} {P : α → Bool} (ei : evI Γ it s h = .ok (src (l.map g)) h) (k : ∀ x ∈ l, ∃ s1, asg t (g x) s h = .ok s1 h ∧ evE Γ c s1 h = .ok (.d (.bool (P x))) h ∧ (P x = true → evE Γ e s1 h = .ok (.d (f x)) h)) : evE Γ (.lc false t it (.s c) e) s h = .ok (.d (.list ((l.filter P).map f))) h := by
  rw [x_lc, ei, bnd_ok]
  simp only [items_src, live_src]
  rw [lc_filters (g' := fun x => .d (f x)) (p := P) fun x m => by
    obtain ⟨s1, e1, e2, e3⟩ := k x m
    exact ⟨s1, e1, by rw [x_cs, e2, bnd_ok, t_bool], e3⟩]
  rw [bnd_ok, show ((l.filter P).map fun x => Val.d (f x)) = ((l.filter P).map f).map Val.d by rw [List.map_map]; rfl, mkL_d]
theorem v_allm {α : Type} (l : List α) (P : α → Bool) : bi1 .all false (.d (.list (l.map fun x => PyData.bool (P x)))) h = .ok (.d (.bool (l.all P))) h := by
  rw [show (l.map fun x => PyData.bool (P x)) = (l.map P).map PyData.bool by rw [List.map_map]; rfl, v_all, List.all_map]
  rfl
theorem sum_is (is : List Int) : bi1 .sum false (.d (.list (is.map PyData.int))) h = .ok (.d (.int is.sum)) h := by
  have e : intsOf (is.map PyData.int) = some is := by
    induction is with
    | nil => rfl
    | cons i r ih => show (intsOf (r.map PyData.int)).map _ = _; rw [ih]; rfl
  show ((pure ((is.map PyData.int).map Val.d) : M (List Val)) >>= fun xs => optM (dats xs) >>= fun ds => optM (intsOf ds) >>= fun is => intV is.sum) h = _
  rw [bind_ap, pure_ap, bnd_ok, dats_map, bind_ap, o_some, bnd_ok, e, bind_ap, o_some, bnd_ok]
  rfl
theorem zip_t (xs ys : List PD) : zipV (.d (.tuple xs)) (.d (.tuple ys)) h = .ok (src ((xs.zip ys).map fun p => .d (.tuple [p.1, p.2]))) h := (rfl)
theorem k_str {z : Str} : kdV .str (.d (.str z)) h = .ok () h := (rfl)
theorem y_cs {Γ : Ctx} {a : S} {r : Ss} {s s1 : Sg} {h1 : Hs} (e : exS Γ a s h = .ok (.nx s1) h1) : exSs Γ (.c a r) s h = exSs Γ r s1 h1 := by
  rw [y_c, e]
  rfl
theorem asg_t3 {i j k : Nat} {a b c : PD} {s : Sg} : asg (.t [i, j, k]) (.d (.tuple [a, b, c])) s h = .ok (((s.set i (some (.d a))).set j (some (.d b))).set k (some (.d c))) h := (rfl)
theorem asg_t4 {i j k m : Nat} {a b c d : PD} {s : Sg} : asg (.t [i, j, k, m]) (.d (.tuple [a, b, c, d])) s h = .ok ((((s.set i (some (.d a))).set j (some (.d b))).set k (some (.d c))).set m (some (.d d))) h := (rfl)
theorem ix_t3 {a b c e : PD} {l : List PD} : ixV (.d (.tuple (a :: b :: c :: e :: l))) (.d (.int 3)) h = .ok (.d e) h := ix_t (i := 3) rfl
/-- neighbours of a rising list -/
theorem zip_tail {α : Type} {r : α → α → Prop} : ∀ {l : List α}, l.Pairwise r → ∀ x ∈ l.zip (l.drop 1), r x.1 x.2
  | [], _, _, m => nomatch m
  | [_], _, _, m => nomatch m
  | a :: b :: l, p, x, m => by
    have m' : x ∈ (a, b) :: (b :: l).zip ((b :: l).drop 1) := m
    rcases List.mem_cons.mp m' with rfl | m'
    · exact (List.pairwise_cons.mp p).1 b (List.mem_cons_self ..)
    · exact zip_tail (List.pairwise_cons.mp p).2 x m'
end
end Nv
set_option Elab.async false
set_option linter.all false
set_option maxRecDepth 100000
set_option exponentiation.threshold 5000
/-! N20: count, the last sign, slices from behind, reversed and sorted texts. -/
namespace Nv
open PySem
section
variable {h : Hs}
theorem cnt_count (c : Nat) : ∀ l : List Nat, PyProof.Rows.cnt c l = ((l.count c : Nat) : Int)
  | [] => rfl
  | n :: r => by
    rw [PyProof.Rows.cnt_cons, cnt_count c r, List.count_cons]
    by_cases e : n = c
    · subst e
      simp
      omega
    · rw [if_neg e, if_neg (by simpa using e)]
      omega
theorem cnt_st {l : List Nat} {c : Nat} : mtV .cnt (.d (.str (st l))) [.d (.str (st [c]))] h = .ok (.d (.int ((l.count c : Nat) : Int))) h := by
  show intV (Txt.count (st l) (st [c])) h = _
  rw [show (st [c]) = (⟨#[c]⟩ : Str) from rfl, PyProof.Rows.count_cnt, st_list, cnt_count]
  rfl
theorem ix_last {l : List Nat} {c : Nat} (e : l[l.length - 1]? = some c) : ixV (.d (.str (st l))) (.d (.int (-1))) h = .ok (.d (.str (st [c]))) h := by
  have hl := (List.getElem?_eq_some_iff.mp e).1
  show optM ((L2.atI (st l).cps.toList (-1)).map fun c => Val.d (.str ⟨#[c]⟩)) h = _
  rw [st_list]
  unfold L2.atI L2.ixN
  rw [if_neg (by decide), if_pos (by omega)]
  show optM (Option.map _ (l[((l.length : Int) + -1).toNat]?)) h = _
  rw [show ((l.length : Int) + -1).toNat = l.length - 1 by omega, e]
  rfl
theorem cut_any (l : List Nat) (lo hi : Option Int) : ∃ a b, L2.cutS (st l) lo hi = st ((l.drop a).take b) := by
  refine ⟨HT.sIx l.length 0 lo, HT.sIx l.length l.length hi - HT.sIx l.length 0 lo, ?_⟩
  unfold L2.cutS
  rw [st_list, st_len]
  rfl
theorem cut_mid {l : List Nat} {w : Nat} (hl : l.length = 2 * w + 1) : L2.cutS (st l) (some (w : Int)) (some (-1)) = st ((l.drop w).take w) := by
  unfold L2.cutS
  rw [st_list, st_len, HT.sIx_nat, hl]
  have e : HT.sIx (2 * w + 1) (2 * w + 1) (some (-1)) = 2 * w := by
    show (if (-1 : Int) < 0 then ((-1 : Int) + ((2 * w + 1 : Nat) : Int)).toNat else min (-1 : Int).toNat (2 * w + 1)) = _
    rw [if_pos (by decide)]
    omega
  rw [e, Nat.min_eq_left (by omega), show 2 * w - w = w by omega]
  rfl
theorem rv_st {l : List Nat} {m : Bool} : revV m (.d (.str (st l))) h = .ok (.d (.str (st l.reverse))) h := by
  show Res.ok (Val.d (.str ⟨(st l).cps.toList.reverse.toArray⟩)) h = _
  rw [st_list]
  rfl
theorem sort_txt {l : List Nat} (h0 : l ≠ []) (hl : l.length < 64) : bi1 .sorted false (.d (.str (st l))) h = .ok (.d (.list (sg (l.mergeSort fun a b => decide (a ≤ b))))) h := by
  show (if (st l).length < 64 then sortM false (sigs (st l)) else bad) h = _
  rw [if_pos (by rw [st_len]; exact hl), ← sort_sg h0]
  unfold sigs sg
  rw [st_list]
  rfl
theorem sg_nd : ∀ l : List Nat, PyData.hasDictAll (sg l) = false
  | [] => rfl
  | c :: l => by
    show PyData.hasDictAll (.str (st [c]) :: sg l) = false
    simp only [PyData.hasDictAll, PyData.hasDict, sg_nd l]
    rfl
theorem sg_dep : ∀ l : List Nat, PyData.depthAll (sg l) = 0
  | [] => rfl
  | c :: l => by
    show PyData.depthAll (.str (st [c]) :: sg l) = 0
    simp only [PyData.depthAll, PyData.depth, sg_dep l]
    rfl
theorem sg_eqv : ∀ a b : List Nat, PyData.eqvAll (sg a) (sg b) = decide (a = b)
  | [], [] => by simp [sg, PyData.eqvAll]
  | [], _ :: _ => by simp [sg, PyData.eqvAll]
  | _ :: _, [] => by simp [sg, PyData.eqvAll]
  | c :: a, d :: b => by
    show PyData.eqvAll (.str (st [c]) :: sg a) (.str (st [d]) :: sg b) = _
    rw [PyData.eqvAll, sg_eqv a b, PyData.eqv]
    simp only [List.cons.injEq, Bool.decide_and]
    congr 1
    exact Bool.eq_iff_iff.mpr (by simp [st_inj])
theorem eq_sg {a b : List Nat} : cop .eq (.d (.list (sg a))) (.d (.list (sg b))) h = .ok (.d (.bool (decide (a = b)))) h := by
  rw [c_eq, if_pos]
  · rw [PyData.eqv, sg_eqv]
  · simp [eqOk, PyData.hasDict, sg_nd, PyData.depth, sg_dep]
theorem ne_sg {a b : List Nat} : cop .ne (.d (.list (sg a))) (.d (.list (sg b))) h = .ok (.d (.bool (!decide (a = b)))) h := by
  rw [c_ne, if_pos]
  · rw [PyData.eqv, sg_eqv]
  · simp [eqOk, PyData.hasDict, sg_nd, PyData.depth, sg_dep]
theorem sort_eq {a b : List Nat} : (a.mergeSort fun x y => decide (x ≤ y)) = (b.mergeSort fun x y => decide (x ≤ y)) ↔ a.Perm b := by
  constructor
  · intro e
    exact (List.mergeSort_perm a _).symm.trans (e ▸ List.mergeSort_perm b _)
  · intro p
    have so : ∀ l : List Nat, (l.mergeSort fun x y => decide (x ≤ y)).Pairwise (· ≤ ·) := fun l => by
      have := List.pairwise_mergeSort (le := fun a b : Nat => decide (a ≤ b)) (by simp; omega) (by simp; omega) l
      exact this.imp fun {a b} q => of_decide_eq_true q
    exact List.Perm.eq_of_pairwise (fun a b _ _ h1 h2 => Nat.le_antisymm h1 h2) (so a) (so b) ((List.mergeSort_perm a _).trans (p.trans (List.mergeSort_perm b _).symm))
/-- two counts that make up all -/
theorem count3 {x y a : Nat} (h1 : x ≠ y) (h2 : a ≠ x) (h3 : a ≠ y) : ∀ l : List Nat, l.count x + l.count y + l.count a ≤ l.length
  | [] => by simp
  | c :: l => by
    have ih := count3 h1 h2 h3 l
    simp only [List.count_cons, List.length_cons, beq_iff_eq]
    split <;> split <;> split <;> omega
theorem perm_two {x y w : Nat} (hxy : x ≠ y) {l : List Nat} (hl : l.length = w + 1) : l.Perm (x :: List.replicate w y) ↔ l.count x = 1 ∧ l.count y = w := by
  constructor
  · intro p
    refine ⟨?_, ?_⟩
    · rw [p.count_eq, List.count_cons_self, List.count_replicate, if_neg (by simpa using hxy.symm)]
    · rw [p.count_eq, List.count_cons, if_neg (by simpa using hxy), List.count_replicate, if_pos (by simp)]
      rfl
  · rintro ⟨h1, h2⟩
    rw [List.perm_iff_count]
    intro a
    rw [List.count_cons, List.count_replicate]
    by_cases e1 : a = x
    · subst e1
      rw [h1, if_neg (by simpa using hxy.symm)]
      simp
    · by_cases e2 : a = y
      · subst e2
        rw [h2, if_pos (by simp), if_neg (by simpa using hxy)]
        rfl
      · have := count3 hxy e1 e2 l
        rw [if_neg (by simpa using fun z : y = a => e2 z.symm), if_neg (by simpa using fun z : x = a => e1 z.symm)]
        omega
/-- one among others -/
theorem one_at {x y w : Nat} (hxy : x ≠ y) {l : List Nat} (hl : l.length = w + 1) (h1 : l.count x = 1) (h2 : l.count y = w) {i : Nat} (hi : l[i]? = some x) : l = (List.range (w + 1)).map fun k => if k = i then x else y := by
  have hil := (List.getElem?_eq_some_iff.mp hi).1
  have dec : l = l.take i ++ x :: l.drop (i + 1) := by
    have e := List.take_append_drop i l
    rw [List.drop_eq_getElem_cons hil, (List.getElem?_eq_some_iff.mp hi).2] at e
    exact e.symm
  have c1 : (l.take i).count x + 1 + (l.drop (i + 1)).count x = l.count x := by
    conv => rhs; rw [dec]
    rw [List.count_append, List.count_cons_self]
    omega
  have n1 : x ∉ l.take i := List.count_eq_zero.mp (by omega)
  have n2 : x ∉ l.drop (i + 1) := List.count_eq_zero.mp (by omega)
  have two : ∀ c ∈ l, c = x ∨ c = y := fun c hc => by
    by_cases e1 : c = x
    · exact .inl e1
    · by_cases e2 : c = y
      · exact .inr e2
      · have := count3 hxy e1 e2 l
        have := List.count_pos_iff.mpr hc
        omega
  refine List.ext_getElem? fun k => ?_
  rw [List.getElem?_map]
  by_cases hk : k < l.length
  · rw [List.getElem?_range (by omega), List.getElem?_eq_getElem hk]
    show some l[k] = some (if k = i then x else y)
    congr 1
    by_cases e : k = i
    · subst e
      rw [if_pos rfl]
      exact (List.getElem?_eq_some_iff.mp hi).2
    · rw [if_neg e]
      rcases two l[k] (List.getElem_mem hk) with q | q
      · exfalso
        rcases Nat.lt_or_gt_of_ne e with lt | gt
        · exact n1 (q ▸ List.mem_take_iff_getElem.mpr ⟨k, by omega, rfl⟩)
        · exact n2 (q ▸ List.mem_drop_iff_getElem.mpr ⟨k - (i + 1), by omega, by congr 1; omega⟩)
      · exact q
  · rw [List.getElem?_eq_none (by omega), List.getElem?_eq_none (by simp; omega)]
    rfl
end
end Nv
set_option Elab.async false
set_option linter.all false
set_option maxRecDepth 100000
set_option exponentiation.threshold 5000
/-! N21: dicts with tuple keys, to compute with. -/
namespace Nv
open PySem
theorem lookT_some {α : Type} {k : List L2.Key} : ∀ {kvs : List (List L2.Key × α)}, (lookT k kvs).isSome = kvs.any fun p => decide (p.1 = k)
  | [] => rfl
  | (j, x) :: r => by
    show (if j = k then some x else lookT k r).isSome = (decide (j = k) || r.any fun p => decide (p.1 = k))
    by_cases e : j = k
    · rw [if_pos e, decide_eq_true e]
      rfl
    · rw [if_neg e, decide_eq_false e, lookT_some]
      rfl
theorem lookT_mem {α : Type} {k : List L2.Key} {v : α} : ∀ {kvs : List (List L2.Key × α)}, lookT k kvs = some v → (k, v) ∈ kvs
  | [], e => nomatch e
  | (j, x) :: r, e => by
    have e : (if j = k then some x else lookT k r) = some v := e
    by_cases c : j = k
    · rw [if_pos c] at e
      cases e
      rw [← c]
      exact List.mem_cons_self ..
    · rw [if_neg c] at e
      exact List.mem_cons_of_mem _ (lookT_mem e)
theorem putT_new {α : Type} {k : List L2.Key} {v : α} {kvs : List (List L2.Key × α)} (n : (kvs.any fun p => decide (p.1 = k)) = false) : putT k v kvs = kvs ++ [(k, v)] := by
  unfold putT
  rw [if_neg (by rw [n]; decide)]
section
variable {h : Hs} {a : Nat} {kvs : List (List L2.Key × Val)} {x : PD} {q : List L2.Key}
theorem in_t (ea : h[a]? = some (.dtt kvs)) (eq : keyT x = some q) : cop .isin (.d x) (.r a) h = .ok (.d (.bool (kvs.any fun p => decide (p.1 = q)))) h := by
  have e : cop .isin (.d x) (.r a) h = (getO a >>= fun o => inR o x >>= fun b => bl b) h := by cases x <;> rfl
  rw [e, bind_ap, getO_ap ea, bnd_ok]
  show (((optM (keyT x) >>= fun q => (pure (lookT q kvs).isSome : M Bool)) >>= fun b => bl b) h) = _
  rw [bind_ap, bind_ap, eq, o_some, bnd_ok, lookT_some]
  rfl
theorem nin_t (ea : h[a]? = some (.dtt kvs)) (eq : keyT x = some q) : cop .notin (.d x) (.r a) h = .ok (.d (.bool (!(kvs.any fun p => decide (p.1 = q))))) h := by
  have e : cop .notin (.d x) (.r a) h = (getO a >>= fun o => inR o x >>= fun b => bl (!b)) h := by cases x <;> rfl
  rw [e, bind_ap, getO_ap ea, bnd_ok]
  show (((optM (keyT x) >>= fun q => (pure (lookT q kvs).isSome : M Bool)) >>= fun b => bl (!b)) h) = _
  rw [bind_ap, bind_ap, eq, o_some, bnd_ok, lookT_some]
  rfl
theorem st_t (ea : h[a]? = some (.dtt kvs)) (eq : keyT x = some q) (n : (kvs.any fun p => decide (p.1 = q)) = false) (l : kvs.length < lim) {v : Val} : stV (.r a) (.d x) v h = .ok () (h.set a (.dtt (kvs ++ [(q, v)]))) := by
  show (getO a >>= fun o => stO o x v >>= fun o' => setO a o') h = _
  rw [bind_ap, getO_ap ea, bnd_ok, bind_ap]
  have e2 : stO (.dtt kvs) x v h = .ok (.dtt (kvs ++ [(q, v)])) h := by
    have : stO (.dtt kvs) x v h = (optM (keyT x) >>= fun q => if kvs.length < lim then (pure (.dtt (putT q v kvs)) : M AO) else bad) h := by cases x <;> rfl
    rw [this, eq, bind_ap, o_some, bnd_ok, if_pos l, putT_new n]
    rfl
  rw [e2]
  rfl
theorem get_t (ea : h[a]? = some (.dtt kvs)) (eq : keyT x = some q) {z : Val} : mtV .get2 (.r a) [.d x, z] h = .ok ((lookT q kvs).getD z) h := by
  show (getO a >>= fun o => getO2 o x z) h = _
  rw [bind_ap, getO_ap ea, bnd_ok]
  show (optM (keyT x) >>= fun q => (pure ((lookT q kvs).getD z) : M Val)) h = _
  rw [eq, bind_ap, o_some, bnd_ok]
  rfl
theorem kd_t (ea : h[a]? = some (.dtt kvs)) : kdV .dct (.r a) h = .ok () h := by
  show (getO a >>= fun o => kdO .dct o) h = _
  rw [bind_ap, getO_ap ea]
  rfl
end
theorem x_dtn {Γ : Ctx} {s : Sg} {h : Hs} : evE Γ .dtn s h = .ok (.r h.length) (h ++ [.dtt []]) := rfl
end Nv
set_option Elab.async false
set_option linter.all false
set_option maxRecDepth 100000
set_option exponentiation.threshold 5000
/-! N22: rules with invariants; the deck as a predicate. -/
namespace Nv
open PySem
/-! ### loops -/
theorem fin_cs {Γ : Ctx} {a : S} {r : Ss} {s s1 : Sg} {h h1 h0 : Hs} {fz : Bool} (e : exS Γ a s h = .ok (.nx s1) h1) : fin fz h0 (exSs Γ (.c a r) s h) = fin fz h0 (exSs Γ r s1 h1) := congrArg _ (y_cs e)
section
variable {t : Tgt} {b : Sg → M Fl}
/-- a walk that goes on to its end -/
theorem fr_inv {I : List Val → Sg → Hs → Prop} (step : ∀ x r s h, I (x :: r) s h → ∃ s1 s2 h2, asg t x s h = .ok s1 h ∧ b s1 h = .ok (.nx s2) h2 ∧ I r s2 h2) : ∀ xs s h, I xs s h → ∃ s' h', frL none t b xs s h = .ok (.nx s') h' ∧ I [] s' h'
  | [], s, h, i => ⟨s, h, fr_nil stays_n, i⟩
  | x :: r, s, h, i => by
    obtain ⟨s1, s2, h2, e1, e2, i2⟩ := step x r s h i
    obtain ⟨s', h', e3, i3⟩ := fr_inv step r s2 h2 i2
    exact ⟨s', h', by rw [fr_step stays_n e1 e2]; exact e3, i3⟩
/-- how a round may end -/
def Rnd (I : Sg → Hs → Prop) (B : Sg → Hs → Prop) (R : Val → Hs → Prop) : Fl → Hs → Prop
  | .nx s, h => I s h
  | .ct s, h => I s h
  | .brk s, h => B s h
  | .ret v, h => R v h
/-- a walk whose rounds may end it -/
theorem fr_rnd {I : List Val → Sg → Hs → Prop} {B : Sg → Hs → Prop} {R : Val → Hs → Prop} (step : ∀ x r s h, I (x :: r) s h → ∃ s1 f h2, asg t x s h = .ok s1 h ∧ b s1 h = .ok f h2 ∧ Rnd (I r) B R f h2) : ∀ xs s h, I xs s h →
    (∃ s' h', frL none t b xs s h = .ok (.nx s') h' ∧ (I [] s' h' ∨ B s' h')) ∨ (∃ v h', frL none t b xs s h = .ok (.ret v) h' ∧ R v h')
  | [], s, h, i => .inl ⟨s, h, fr_nil stays_n, .inl i⟩
  | x :: r, s, h, i => by
    obtain ⟨s1, f, h2, e1, e2, i2⟩ := step x r s h i
    rw [fr_step stays_n e1 e2]
    cases f with
    | nx s2 => exact fr_rnd step r s2 h2 i2
    | ct s2 => exact fr_rnd step r s2 h2 i2
    | brk s2 => exact .inl ⟨s2, h2, rfl, .inr i2⟩
    | ret v => exact .inr ⟨v, h2, rfl, i2⟩
/-- a while, by a measure -/
theorem whl_rnd {c : Sg → M Bool} {I : Nat → Sg → Hs → Prop} {B : Sg → Hs → Prop} {R : Val → Hs → Prop}
    (step : ∀ m s h, I m s h → ∃ t h1, c s h = .ok t h1 ∧ ((t = false ∧ B s h1) ∨ (t = true ∧ ∃ f h2, b s h1 = .ok f h2 ∧ Rnd (fun s2 h3 => ∃ m', m' < m ∧ I m' s2 h3) B R f h2))) :
    ∀ m n s h, m < n → I m s h → (∃ s' h', whlN c b n s h = .ok (.nx s') h' ∧ B s' h') ∨ (∃ v h', whlN c b n s h = .ok (.ret v) h' ∧ R v h')
  | m, 0, s, h, hm, _ => absurd hm (Nat.not_lt_zero _)
  | m, n + 1, s, h, hm, i => by
    obtain ⟨t, h1, e1, q⟩ := step m s h i
    rw [whl_s, e1, bnd_ok]
    rcases q with ⟨rfl, q⟩ | ⟨rfl, f, h2, e2, q⟩
    · rw [if_neg (by decide)]
      exact .inl ⟨s, h1, rfl, q⟩
    · rw [if_pos rfl, e2, bnd_ok]
      cases f with
      | nx s2 =>
        obtain ⟨m', hm', q⟩ := q
        exact whl_rnd step m' n s2 h2 (by omega) q
      | ct s2 =>
        obtain ⟨m', hm', q⟩ := q
        exact whl_rnd step m' n s2 h2 (by omega) q
      | brk s2 => exact .inl ⟨s2, h2, rfl, q⟩
      | ret v => exact .inr ⟨v, h2, rfl, q⟩
/-- a while that goes on to its end -/
theorem whl_to {c : Sg → M Bool} {I : Nat → Sg → Hs → Prop} {B : Sg → Hs → Prop}
    (step : ∀ m s h, I m s h → ∃ t h1, c s h = .ok t h1 ∧ ((t = false ∧ B s h1) ∨ (t = true ∧ ∃ s2 h2, b s h1 = .ok (.nx s2) h2 ∧ ∃ m', m' < m ∧ I m' s2 h2))) {m n : Nat} {s : Sg} {h : Hs} (hm : m < n) (i : I m s h) : ∃ s' h', whlN c b n s h = .ok (.nx s') h' ∧ B s' h' := by
  rcases whl_rnd (R := fun _ _ => False) (fun m s h i => by
    obtain ⟨t, h1, e1, q⟩ := step m s h i
    refine ⟨t, h1, e1, ?_⟩
    rcases q with q | ⟨q, s2, h2, e2, q2⟩
    · exact .inl q
    · exact .inr ⟨q, .nx s2, h2, e2, q2⟩) m n s h hm i with q | ⟨_, _, _, q⟩
  · exact q
  · exact q.elim
end
theorem rounds_big {n : Nat} (h : n ≤ 1000000000000) : n < rounds := Nat.lt_of_le_of_lt h (by unfold rounds; decide)
/-! ### comprehensions -/
/-- each item tells something -/
theorem lc_inv {β : Type} {t : Tgt} {c : Sg → M Bool} {e : Sg → M Val} {s : Sg} {f : β → Val} {I : List Val → List β → Hs → Prop}
    (step : ∀ x r q h, I (x :: r) q h → ∃ s1 h1 y h2, asg t x s h = .ok s1 h ∧ c s1 h = .ok true h1 ∧ e s1 h1 = .ok (f y) h2 ∧ I r (q ++ [y]) h2) :
    ∀ xs q h, I xs q h → ∃ q' h', lcL none t c e s xs h = .ok (q'.map f) h' ∧ I [] (q ++ q') h'
  | [], q, h, i => ⟨[], h, lc_nil stays_n, by rw [List.append_nil]; exact i⟩
  | x :: r, q, h, i => by
    obtain ⟨s1, h1, y, h2, e1, e2, e3, i2⟩ := step x r q h i
    obtain ⟨q', h', e4, i3⟩ := lc_inv step r (q ++ [y]) h2 i2
    refine ⟨y :: q', h', ?_, by rw [List.append_assoc] at i3; exact i3⟩
    rw [lc_step stays_n e1 e2 e3, e4]
    rfl
/-! ### the deck -/
/-- the deck may be drawn from -/
structure DokN (cs : List Int) (mx n : Int) : Prop where
  lc : cs.length < lim
  hm : 0 ≤ mx ∧ mx < 1099511627776
  hn : 0 ≤ n
/-- nothing refers to what comes later -/
def Fok (F : Hs) : Prop := ∀ o ∈ F, objOk (F.length + 2) o
theorem fok0 : Fok [] := fun _ m => nomatch m
theorem objOk_d {n : Nat} {ds : List PD} : objOk n (.lst (ds.map .d)) := fun x m => by
  obtain ⟨d, _, rfl⟩ := List.mem_map.mp m
  exact True.intro
theorem objOk_mono {n m : Nat} (l : n ≤ m) : ∀ {o : AO}, objOk n o → objOk m o
  | .lst xs, k => fun x mx => by
    have := k x mx
    cases x with
    | d => exact True.intro
    | r a => exact Nat.lt_of_lt_of_le this l
  | .dct xs, k => fun p mx => by
    have := k p mx
    obtain ⟨_, x⟩ := p
    cases x with
    | d => exact True.intro
    | r a => exact Nat.lt_of_lt_of_le this l
  | .ins _ xs, k => fun p mx => by
    have := k p mx
    obtain ⟨_, x⟩ := p
    cases x with
    | d => exact True.intro
    | r a => exact Nat.lt_of_lt_of_le this l
  | .dtt xs, k => fun p mx => by
    have := k p mx
    obtain ⟨_, x⟩ := p
    cases x with
    | d => exact True.intro
    | r a => exact Nat.lt_of_lt_of_le this l
  | .dead, _ => True.intro
/-- the deck, other objects above it; at most b draws so far -/
def DK (key : Str) (F : Hs) (b : Nat) (h : Hs) : Prop := ∃ cs mx n, h = dkf F key cs mx n ∧ DokN cs mx n ∧ n ≤ b
section
variable {key : Str} {F G : Hs} {b b' : Nat} {h h' : Hs}
theorem DK.mono (k : DK key F b h) (l : b ≤ b') : DK key F b' h := by
  obtain ⟨cs, mx, n, e, o, le⟩ := k
  exact ⟨cs, mx, n, e, o, by omega⟩
theorem DK.len (k : DK key F b h) : h.length = F.length + 2 := by
  obtain ⟨cs, mx, n, rfl, _, _⟩ := k
  rfl
theorem DK.at_ (k : DK key F b h) (i : Nat) : h[i + 2]? = F[i]? := by
  obtain ⟨cs, mx, n, rfl, _, _⟩ := k
  rfl
theorem DK.set (k : DK key F b h) (i : Nat) (o : AO) : DK key (F.set i o) b (h.set (i + 2) o) := by
  obtain ⟨cs, mx, n, rfl, ok, le⟩ := k
  exact ⟨cs, mx, n, rfl, ok, le⟩
theorem DK.push (k : DK key F b h) (l : Hs) : DK key (F ++ l) b (h ++ l) := by
  obtain ⟨cs, mx, n, rfl, ok, le⟩ := k
  exact ⟨cs, mx, n, rfl, ok, le⟩
theorem DK.cut (k : DK key (F ++ G) b h) : DK key F b (h.take (F.length + 2)) := by
  obtain ⟨cs, mx, n, rfl, ok, le⟩ := k
  refine ⟨cs, mx, n, ?_, ok, le⟩
  show (AO.lst (nums cs) :: .dct _ :: (F ++ G) : Hs).take (F.length + 2) = _
  rw [List.take_succ_cons, List.take_succ_cons, List.take_left]
  rfl
/-- a function that tells data ends -/
theorem DK.exit {F' : Hs} (k : DK key F b h) (k' : DK key (F' ++ G) b' h') (l : F'.length = F.length) (f : Fok F') {x : PD} {fz : Bool} : exitC fz h (.d x) h' = .ok (.d x) (h'.take (F'.length + 2)) := by
  have kl := k.len
  have kc := k'.cut
  obtain ⟨cs, mx, n, e, ok, le⟩ := kc
  rw [exit_d (.inr ⟨?_, ?_⟩), kl, l]
  · rw [k'.len, kl, List.length_append]
    omega
  · rw [kl, ← l]
    intro o m
    rw [e] at m
    have m' : o ∈ (AO.lst (nums cs) :: .dct [(.inr key, .r 0), (.inr "mixed", .d (.int mx)), (.inr "draws", .d (.int n))] :: F') := m
    rcases List.mem_cons.mp m' with rfl | m'
    · intro x mx
      unfold nums at mx
      obtain ⟨c, _, rfl⟩ := List.mem_map.mp mx
      exact True.intro
    · rcases List.mem_cons.mp m' with rfl | m'
      · intro p mp
        rcases List.mem_cons.mp mp with rfl | mp
        · show 0 < F'.length + 2
          omega
        · rcases List.mem_cons.mp mp with rfl | mp
          · exact True.intro
          · rcases List.mem_cons.mp mp with rfl | mp
            · exact True.intro
            · exact nomatch mp
      · exact f o m'
theorem DK.exit0 {F' : Hs} (k : DK key F b h) (k' : DK key F' b' h') (l : F'.length = F.length) (f : Fok F') {x : PD} {fz : Bool} : exitC fz h (.d x) h' = .ok (.d x) h' := by
  rw [DK.exit (G := []) k (by rw [List.append_nil]; exact k') l f, ← k'.len, List.take_length]
theorem fok1 {ds : List PD} : Fok [.lst (ds.map .d)] := fun o m => by rw [List.mem_singleton.mp m]; exact objOk_d
theorem fok2 {ds es : List PD} : Fok [.lst (ds.map .d), .lst (es.map .d)] := fun o m => by
  rcases List.mem_cons.mp m with rfl | m
  · exact objOk_d
  · rw [List.mem_singleton.mp m]
    exact objOk_d
/-- the functions that draw -/
structure Deck (T : Tab) (i j : Nat) (key : Str) : Prop where
  k1 : key ≠ "mixed"
  k2 : key ≠ "draws"
  dr : ∃ z : DkA, z.ok = true ∧ T.fns[i]? = some ⟨2, 4, false, drawA key z⟩
  pk : T.fns[j]? = some ⟨2, 2, false, .c (.ret (.ix (.v 1) (.cal i (.c (.v 0) (.c (.bi .len false (.c (.v 1) .n)) .n))))) .n⟩
variable {T : Tab} {i j : Nat}
/-- a draw -/
theorem Deck.drawI (D : Deck T i j key) (hF : Fok F) {d : Nat} (k : DK key F b h) (hb : b < 1000000000000) {m : Int} (h0 : 0 < m) (h1 : m < 1000000000) :
    ∃ (v : Nat) (h' : Hs), (v : Int) < m ∧ DK key F (b + 1) h' ∧ callN T (d + 1) i [.r 1, .d (.int m)] h = .ok (.d (.int v)) h' := by
  obtain ⟨z, hz, ez⟩ := D.dr
  obtain ⟨cs, mx, n, rfl, ok, le⟩ := k
  have hn := ok.hn
  obtain ⟨v, cs', h2, h3, h4, h5⟩ := drawF_okg (T := T) (d := d) hF D.k1 D.k2 hz ez rfl ok.lc ok.hm ⟨ok.hn, by omega⟩ h0 (by omega)
  obtain ⟨q, rfl⟩ : ∃ q : Nat, v = q := ⟨v.toNat, by omega⟩
  exact ⟨q, _, h3, ⟨cs', mx, n + 1, rfl, ⟨Nat.lt_of_le_of_lt h4 ok.lc, ok.hm, by omega⟩, by omega⟩, h5⟩
theorem Deck.draw (D : Deck T i j key) (hF : Fok F) {d m : Nat} (k : DK key F b h) (hb : b < 1000000000000) (h0 : 0 < m) (h1 : m < 1000000000) :
    ∃ (v : Nat) (h' : Hs), v < m ∧ DK key F (b + 1) h' ∧ callN T (d + 1) i [.r 1, .d (.int m)] h = .ok (.d (.int v)) h' := by
  obtain ⟨v, h', a, b, c⟩ := D.drawI hF (d := d) (m := m) k hb (by omega) (by omega)
  exact ⟨v, h', by omega, b, c⟩
local macro_rules | `(tactic| trivial) => `(tactic| try simp only [startS, List.map_cons, List.map_nil, List.length_cons, List.length_nil, List.replicate_succ, List.replicate_zero, List.cons_append, List.nil_append, Nat.reduceAdd, Nat.reduceSub, Nat.sub_self, Nat.zero_add,
  y_n, y_c, y_ret, pure_ap, x_v, x_ix, x_cal, x_bi, x_en, x_ec, List.getElem?_cons_zero, List.getElem?_cons_succ, Option.join_some, o_some, bnd_ok, fin_ret, pureM, v_bi1, v_len_l, v_len_t, v_len_s])
/-- one of some -/
theorem Deck.pick (D : Deck T i j key) (hF : Fok F) {d : Nat} {ds : List PD} (k : DK key F b h) (hb : b < 1000000000000) (h0 : ds ≠ []) (h1 : ds.length < 1000000000) :
    ∃ (x : PD) (h' : Hs), x ∈ ds ∧ DK key F (b + 1) h' ∧ callN T (d + 2) j [.r 1, .d (.list ds)] h = .ok (.d x) h' := by
  have hl := List.length_pos_iff.mpr h0
  obtain ⟨v, h', h3, h4, h5⟩ := D.draw hF (d := d) (m := ds.length) k hb hl h1
  refine ⟨ds[v], h', List.getElem_mem h3, h4, ?_⟩
  rw [call_eq D.pk rfl]
  trivial
  rw [h5]
  trivial
  rw [ix_l (List.getElem?_eq_getElem h3)]
  trivial
  rw [DK.exit (G := []) k (by rw [List.append_nil]; exact h4) rfl hF, ← h4.len, List.take_length]
theorem Deck.pickT (D : Deck T i j key) (hF : Fok F) {d : Nat} {ds : List PD} (k : DK key F b h) (hb : b < 1000000000000) (h0 : ds ≠ []) (h1 : ds.length < 1000000000) :
    ∃ (x : PD) (h' : Hs), x ∈ ds ∧ DK key F (b + 1) h' ∧ callN T (d + 2) j [.r 1, .d (.tuple ds)] h = .ok (.d x) h' := by
  have hl := List.length_pos_iff.mpr h0
  obtain ⟨v, h', h3, h4, h5⟩ := D.draw hF (d := d) (m := ds.length) k hb hl h1
  refine ⟨ds[v], h', List.getElem_mem h3, h4, ?_⟩
  rw [call_eq D.pk rfl]
  trivial
  rw [h5]
  trivial
  rw [ix_t (List.getElem?_eq_getElem h3)]
  trivial
  rw [DK.exit (G := []) k (by rw [List.append_nil]; exact h4) rfl hF, ← h4.len, List.take_length]
theorem Deck.pickS (D : Deck T i j key) (hF : Fok F) {d : Nat} {l : List Nat} (k : DK key F b h) (hb : b < 1000000000000) (h0 : l ≠ []) (h1 : l.length < 1000000000) :
    ∃ (c : Nat) (h' : Hs), c ∈ l ∧ DK key F (b + 1) h' ∧ callN T (d + 2) j [.r 1, .d (.str (st l))] h = .ok (.d (.str (st [c]))) h' := by
  have hl := List.length_pos_iff.mpr h0
  obtain ⟨v, h', h3, h4, h5⟩ := D.draw hF (d := d) (m := l.length) k hb hl h1
  refine ⟨l[v], h', List.getElem_mem h3, h4, ?_⟩
  rw [call_eq D.pk rfl]
  trivial
  rw [st_len, h5]
  trivial
  rw [ix_s (List.getElem?_eq_getElem h3)]
  trivial
  rw [DK.exit (G := []) k (by rw [List.append_nil]; exact h4) rfl hF, ← h4.len, List.take_length]
/-- a list of things that show as data -/
theorem Deck.pickM (D : Deck T i j key) (hF : Fok F) {d : Nat} {α : Type} {l : List α} {f : α → PD} (k : DK key F b h) (hb : b < 1000000000000) (h0 : l ≠ []) (h1 : l.length < 1000000000) :
    ∃ (x : α) (h' : Hs), x ∈ l ∧ DK key F (b + 1) h' ∧ callN T (d + 2) j [.r 1, .d (.list (l.map f))] h = .ok (.d (f x)) h' := by
  obtain ⟨y, h', m, a, e⟩ := D.pick hF (d := d) (ds := l.map f) k hb (by simpa using h0) (by simpa using h1)
  obtain ⟨x, mx, rfl⟩ := List.mem_map.mp m
  exact ⟨x, h', mx, a, e⟩
/-- the deck is laid -/
theorem deck_new {T : Tab} {d i : Nat} {fn : Fn} {key : Str} {z : DkM} (hz : z.ok = true) (e : T.fns[i]? = some fn) (hf : fn = ⟨1, 3, false, deckM key z⟩) (ns : List Int) (hl : ns.length ≤ 63) :
    ∃ h', DK key [] 0 h' ∧ callN T (d + 1) i [.d (.list (ns.map PyData.int))] [] = .ok (.r 1) h' := by
  obtain ⟨cs, mx, c1, c2, c3, e0⟩ := deckM_ok (d := d) (key := key) hz e hf ns
  exact ⟨_, ⟨cs, mx, 0, (dkf_0 ..).symm, ⟨Nat.lt_of_le_of_lt (Nat.le_trans c3 hl) (by decide), ⟨c1, c2⟩, by omega⟩, by omega⟩, e0⟩
end
end Nv
set_option Elab.async false
set_option linter.all false
set_option maxRecDepth 100000
set_option exponentiation.threshold 5000
/-! N23: values of any kind. -/
namespace Nv
open PySem Nv
local macro_rules | `(tactic| trivial) => `(tactic| try simp only [startS, List.map_cons, List.map_nil, List.length_cons, List.length_nil, List.replicate_succ, List.replicate_zero, List.cons_append, List.nil_append, Nat.reduceAdd, Nat.reduceSub, Nat.sub_self, Nat.zero_add,
  y_n, y_c, y_ex, y_set, y_par, y_unp, y_sti, y_aug, y_ret, y_retn, y_pass, y_brk, y_cont, y_ite, pure_ap,
  x_k, x_v, x_g, x_bin, x_neg, x_cmp, x_chn, x_and, x_or, x_not, x_ite, x_tup, x_lst, x_dct, x_ix, x_sl, x_rv, x_cal, x_calk, x_bi, x_mt, x_isi, x_en, x_ec, x_on, x_os,
  List.getElem?_cons_zero, List.getElem?_cons_succ, List.set_cons_zero, List.set_cons_succ, Option.join_some, o_some, bnd_ok, bnd_bad, t_bool, t_int, t_none, pureM,
  b_add, b_sub, c_lt, c_le, c_gt, c_ge, c_eqi, c_nei, c_eqs, c_nes, fin_ret, fin_nx, exit_p, if_true, Bool.not_true, Bool.not_false, v_bi1, v_bi2, mtK, ix_t0, ix_t1, ix_t2, ix_t3, v_isi, v_len_t, v_len_s, v_len_l, st_len, isTy, decide_true, decide_false, if_false, f_c, f_0, o_int, sl_t, slv_s, k_str, setL, asg_t2, asg_t3, asg_t4, in_st, nin_st, lt_st, v_min, v_max, bind_ap, eq_self])
local macro_rules | `(tactic| simp! [$ls,*]) => `(tactic| try simp only [startS, List.map_cons, List.map_nil, List.length_cons, List.length_nil, List.replicate_succ, List.replicate_zero, List.cons_append, List.nil_append, Nat.reduceAdd, Nat.reduceSub, Nat.sub_self, Nat.zero_add,
  y_n, y_c, y_ex, y_set, y_par, y_unp, y_sti, y_aug, y_ret, y_retn, y_pass, y_brk, y_cont, y_ite, pure_ap,
  x_k, x_v, x_g, x_bin, x_neg, x_cmp, x_chn, x_and, x_or, x_not, x_ite, x_tup, x_lst, x_dct, x_ix, x_sl, x_rv, x_cal, x_calk, x_bi, x_mt, x_isi, x_en, x_ec, x_on, x_os,
  List.getElem?_cons_zero, List.getElem?_cons_succ, List.set_cons_zero, List.set_cons_succ, Option.join_some, o_some, bnd_ok, bnd_bad, t_bool, t_int, t_none, pureM,
  b_add, b_sub, c_lt, c_le, c_gt, c_ge, c_eqi, c_nei, c_eqs, c_nes, fin_ret, fin_nx, exit_p, if_true, Bool.not_true, Bool.not_false, v_bi1, v_bi2, mtK, ix_t0, ix_t1, ix_t2, ix_t3, v_isi, v_len_t, v_len_s, v_len_l, st_len, isTy, decide_true, decide_false, if_false, f_c, f_0, o_int, sl_t, slv_s, k_str, setL, asg_t2, asg_t3, asg_t4, in_st, nin_st, lt_st, v_min, v_max, bind_ap, eq_self, $ls,*])
local macro_rules | `(tactic| with_unfolding_all $t:tacticSeq) => `(tactic| ((first | with_reducible refine' Eq.trans (fin_cs ?ee) ?rr | with_reducible refine' Eq.trans (y_cs ?ee) ?rr); (case ee => (($t); try rfl)); try with_reducible rfl))
theorem all_st (z : Str) : z = st z.cps.toList := rfl
theorem cp_st (l : List Nat) : (st l).cps.toList = l := by simp [st]
/-! ### equality -/
/-- this text -/
def isS (s : Str) : PD → Bool
  | .str x => decide (x = s)
  | _ => false
theorem isS_s (s x : Str) : isS s (.str x) = decide (x = s) := rfl
theorem isS_iff {s : Str} {d : PD} : isS s d = true ↔ d = .str s := by
  cases d <;> simp [isS]
theorem eqv_str (d : PD) (s : Str) : d.eqv (.str s) = isS s d := by
  cases d <;> simp [PyData.eqv, isS]
  rename_i x
  by_cases c : x = s <;> simp [c]
theorem strv (s : Str) (d : PD) : (PyData.str s).eqv d = isS s d := by
  cases d <;> simp [PyData.eqv, isS]
  rename_i x
  by_cases c : s = x
  · subst c; simp
  · have : ¬ x = s := fun z => c z.symm
    simp [c, this]
theorem eqD_flat {y : PD} (f : flatD y = true) (d : PD) : eqD d y = true := by
  cases y <;> simp [flatD] at f <;> cases d <;> simp [eqD]
theorem dep_flat {y : PD} (f : flatD y = true) : y.depth = 0 := by
  cases y <;> simp [flatD] at f <;> simp [PyData.depth]
theorem eqOk_flat {y : PD} (f : flatD y = true) (d : PD) : eqOk d y = true := by
  unfold eqOk
  rw [eqD_flat f, dep_flat f]
  simp
section
variable {h : Hs}
theorem c_eqf {y : PD} (f : flatD y = true) (d : PD) : cop .eq (.d d) (.d y) h = .ok (.d (.bool (d.eqv y))) h := by rw [c_eq, if_pos (eqOk_flat f d)]
theorem c_nef {y : PD} (f : flatD y = true) (d : PD) : cop .ne (.d d) (.d y) h = .ok (.d (.bool (!d.eqv y))) h := by rw [c_ne, if_pos (eqOk_flat f d)]
theorem c_eqd (d : PD) (s : Str) : cop .eq (.d d) (.d (.str s)) h = .ok (.d (.bool (isS s d))) h := by rw [c_eqf rfl, eqv_str]
theorem c_ned (d : PD) (s : Str) : cop .ne (.d d) (.d (.str s)) h = .ok (.d (.bool (!isS s d))) h := by rw [c_nef rfl, eqv_str]
theorem inOk_flat {ys : List PD} (f : ys.all flatD = true) (d : PD) : inOk ys d = true := by
  unfold inOk
  rw [f]
  simp
theorem in_flat {ys : List PD} (f : ys.all flatD = true) (d : PD) : cop .isin (.d d) (.d (.tuple ys)) h = .ok (.d (.bool (ys.any fun y => y.eqv d))) h := by
  show (if inOk ys d = true then bl (ys.any fun y => y.eqv d) else bad) h = _
  rw [if_pos (inOk_flat f d)]
  rfl
theorem nin_flat {ys : List PD} (f : ys.all flatD = true) (d : PD) : cop .notin (.d d) (.d (.tuple ys)) h = .ok (.d (.bool (!(ys.any fun y => y.eqv d)))) h := by
  show (if inOk ys d = true then bl (!(ys.any fun y => y.eqv d)) else bad) h = _
  rw [if_pos (inOk_flat f d)]
  rfl
theorem any_str (d : PD) (ss : List Str) : ((ss.map PyData.str).any fun y => y.eqv d) = ss.any fun s => isS s d := by
  rw [List.any_map]
  congr 1
  funext s
  exact strv s d
theorem eqD_t0 (ds : List PD) : eqDs ds [] = true := by cases ds <;> simp [eqDs]
theorem eqv_t0 (ds : List PD) : PyData.eqvAll ds [] = ds.isEmpty := by cases ds <;> simp [PyData.eqvAll]
theorem eqOk_t0 (ds : List PD) : eqOk (.tuple ds) (.tuple []) = true := by
  unfold eqOk
  have : (PyData.tuple []).depth = 1 := by simp [PyData.depth, PyData.depthAll]
  rw [this, show eqD (.tuple ds) (.tuple []) = true by simp only [eqD]; exact eqD_t0 ds]
  have : min (PyData.tuple ds).depth 1 ≤ 60 := by omega
  simp [this]
theorem eqOk_l0 (ds : List PD) : eqOk (.list ds) (.list []) = true := by
  unfold eqOk
  have : (PyData.list []).depth = 1 := by simp [PyData.depth, PyData.depthAll]
  rw [this, show eqD (.list ds) (.list []) = true by simp only [eqD]; exact eqD_t0 ds]
  have : min (PyData.list ds).depth 1 ≤ 60 := by omega
  simp [this]
theorem ne_t0 (ds : List PD) : cop .ne (.d (.tuple ds)) (.d (.tuple [])) h = .ok (.d (.bool (!ds.isEmpty))) h := by
  rw [c_ne, if_pos (eqOk_t0 ds)]
  simp only [PyData.eqv, eqv_t0]
theorem eq_t0 (ds : List PD) : cop .eq (.d (.tuple ds)) (.d (.tuple [])) h = .ok (.d (.bool ds.isEmpty)) h := by
  rw [c_eq, if_pos (eqOk_t0 ds)]
  simp only [PyData.eqv, eqv_t0]
theorem ne_l0 (ds : List PD) : cop .ne (.d (.list ds)) (.d (.list [])) h = .ok (.d (.bool (!ds.isEmpty))) h := by
  rw [c_ne, if_pos (eqOk_l0 ds)]
  simp only [PyData.eqv, eqv_t0]
theorem eq_l0 (ds : List PD) : cop .eq (.d (.list ds)) (.d (.list [])) h = .ok (.d (.bool ds.isEmpty)) h := by
  rw [c_eq, if_pos (eqOk_l0 ds)]
  simp only [PyData.eqv, eqv_t0]
theorem ne_lr0 {a : Nat} {ds : List PD} (e : h[a]? = some (.lst (ds.map Val.d))) : cop .ne (.r a) (.d (.list [])) h = .ok (.d (.bool (!ds.isEmpty))) h := by
  have e1 : datV (.r a) h = .ok (.list ds) h := by
    show ((getO a >>= fun o => itemsO o >>= fun xs => optM (dats xs)) >>= fun ds => (pure (.list ds) : M PD)) h = _
    rw [bind_ap, bind_ap, getO_ap e, bnd_ok, bind_ap]
    show (((Res.ok (ds.map Val.d) h).bnd _).bnd _) = _
    rw [bnd_ok, dats_map]
    rfl
  show (datV (.r a) >>= fun x => datV (.d (.list [])) >>= fun y => if eqOk x y = true then bl (!x.eqv y) else bad) h = _
  rw [bind_ap, e1, bnd_ok, bind_ap, show datV (.d (.list [])) h = .ok (.list []) h from rfl, bnd_ok, if_pos (eqOk_l0 ds)]
  cases ds <;> rfl
end
/-! ### repr -/
mutual
/-- plain signs, numbers up to a bound -/
def gd (B : Nat) : PD → Bool
  | .none => true
  | .bool _ => true
  | .int i => decide (i.natAbs ≤ B)
  | .str z => ascOk z
  | .list ds => gds B ds
  | .tuple ds => gds B ds
  | .dict kvs => gdk B kvs
def gds (B : Nat) : List PD → Bool
  | [] => true
  | d :: ds => gd B d && gds B ds
def gdk (B : Nat) : List (PD × PD) → Bool
  | [] => true
  | (a, b) :: r => gd B a && gd B b && gdk B r
end
theorem gds_all {B : Nat} {ds : List PD} : gds B ds = true ↔ ∀ d ∈ ds, gd B d = true := by
  induction ds with
  | nil => simp [gds]
  | cons d ds ih => simp [gds, ih]
theorem shown_int {i : Int} {k : Nat} (hk : 0 < k) (hn : i.natAbs < 2 ^ k) : (Str.ofString (toString i)).length ≤ k + 1 := by
  have h1 : (Nat.repr i.natAbs).length ≤ k := nat_repr_length_le hk hn
  have h2 : (toString i).toList.length ≤ k + 1 := by
    cases i with
    | ofNat n =>
      have e : toString (Int.ofNat n) = Nat.repr n := rfl
      rw [e]
      have : (Nat.repr n).toList.length = (Nat.repr n).length := String.length_toList
      have h1' : (Nat.repr n).length ≤ k := h1
      omega
    | negSucc n =>
      have e : toString (Int.negSucc n) = "-" ++ Nat.repr (n + 1) := rfl
      rw [e, String.toList_append, List.length_append]
      have : (Nat.repr (n + 1)).toList.length = (Nat.repr (n + 1)).length := String.length_toList
      have h1' : (Nat.repr (n + 1)).length ≤ k := h1
      have : "-".toList.length = 1 := rfl
      omega
  rw [Str.ofString_eq_toList]
  show (List.toArray _).size ≤ _
  rw [List.size_toArray, List.length_map]
  exact h2
mutual
theorem gd_ls {B k : Nat} (hk : 0 < k) (hk2 : k ≤ 1900) (hB : B < 2 ^ k) : ∀ d : PD, gd B d = true → d.leavesShort (k + 1) = true ∧ d.showable = true
  | .none, _ => by simp [PyData.leavesShort, PyData.showable]
  | .bool _, _ => by simp [PyData.leavesShort, PyData.showable]
  | .int i, g => by
    have g : i.natAbs ≤ B := by simpa [gd] using g
    have g : i.natAbs < 2 ^ k := Nat.lt_of_le_of_lt g hB
    have h1 := shown_int hk g
    refine ⟨by simp only [PyData.leavesShort, PyData.shown]; exact decide_eq_true h1, ?_⟩
    simp only [PyData.showable, decide_eq_true_eq]
    by_cases z : i.natAbs = 0
    · rw [z, show Nat.log2 0 = 0 from by decide]; omega
    · have := (Nat.log2_lt z).mpr g; omega
  | .str z, g => by
    refine ⟨?_, by simp [PyData.showable]⟩
    simp only [PyData.leavesShort, List.all_eq_true, decide_eq_true_eq]
    intro c hc
    have g : ascOk z = true := by simpa [gd] using g
    unfold ascOk at g
    have := Array.all_eq_true_iff_forall_mem.mp g c (Array.mem_toList_iff.mp hc)
    have : c < 128 := by simpa using this
    omega
  | .list ds, g => by
    simp only [PyData.leavesShort, PyData.showable]
    exact gds_ls hk hk2 hB ds (by simpa [gd] using g)
  | .tuple ds, g => by
    simp only [PyData.leavesShort, PyData.showable]
    exact gds_ls hk hk2 hB ds (by simpa [gd] using g)
  | .dict kvs, g => by
    simp only [PyData.leavesShort, PyData.showable]
    exact gdk_ls hk hk2 hB kvs (by simpa [gd] using g)
theorem gds_ls {B k : Nat} (hk : 0 < k) (hk2 : k ≤ 1900) (hB : B < 2 ^ k) : ∀ ds : List PD, gds B ds = true → PyData.leavesShortAll (k + 1) ds = true ∧ PyData.showableAll ds = true
  | [], _ => by simp [PyData.leavesShortAll, PyData.showableAll]
  | d :: ds, g => by
    simp only [gds, Bool.and_eq_true] at g
    have a := gd_ls hk hk2 hB d g.1
    have b := gds_ls hk hk2 hB ds g.2
    simp [PyData.leavesShortAll, PyData.showableAll, a, b]
theorem gdk_ls {B k : Nat} (hk : 0 < k) (hk2 : k ≤ 1900) (hB : B < 2 ^ k) : ∀ ds : List (PD × PD), gdk B ds = true → PyData.leavesShortKv (k + 1) ds = true ∧ PyData.showableKv ds = true
  | [], _ => by simp [PyData.leavesShortKv, PyData.showableKv]
  | (k, d) :: ds, g => by
    simp only [gdk, Bool.and_eq_true] at g
    have a := gd_ls hk hk2 hB k g.1.1
    have c := gd_ls hk hk2 hB d g.1.2
    have b := gdk_ls hk hk2 hB ds g.2
    simp [PyData.leavesShortKv, PyData.showableKv, a, b, c]
end
theorem repr_g {B : Nat} {d : PD} (g : gd B d = true) (hB : B < 2 ^ 100) (hw : d.weight ≤ 100000) (hk : d.depth ≤ 60) {m : Bool} {h : Hs} : bi1 .repr m (.d d) h = .ok (.d (.str d.shown)) h := by
  show (if d.showable = true ∧ d.shown.length ≤ lim ∧ d.depth ≤ 60 then (pure (.d (.str d.shown)) : M Val) else bad) h = _
  obtain ⟨l, s⟩ := gd_ls (by decide) (by decide) hB d g
  have e : lim = 16777216 := by decide
  have q : d.shown.length ≤ lim := by
    have h2 := PyData.shown_le 101 (by decide) d l
    rw [e]
    omega
  exact congrFun (if_pos ⟨s, q, hk⟩) h
mutual
theorem gd_mono {B C : Nat} (h : B ≤ C) : ∀ d : PD, gd B d = true → gd C d = true
  | .none, _ => rfl
  | .bool _, _ => rfl
  | .int i, g => by simp only [gd, decide_eq_true_eq] at g ⊢; omega
  | .str z, g => g
  | .list ds, g => by simp only [gd] at g ⊢; exact gds_mono h ds g
  | .tuple ds, g => by simp only [gd] at g ⊢; exact gds_mono h ds g
  | .dict kvs, g => by simp only [gd] at g ⊢; exact gdk_mono h kvs g
theorem gds_mono {B C : Nat} (h : B ≤ C) : ∀ ds : List PD, gds B ds = true → gds C ds = true
  | [], _ => rfl
  | d :: ds, g => by
    simp only [gds, Bool.and_eq_true] at g ⊢
    exact ⟨gd_mono h d g.1, gds_mono h ds g.2⟩
theorem gdk_mono {B C : Nat} (h : B ≤ C) : ∀ ds : List (PD × PD), gdk B ds = true → gdk C ds = true
  | [], _ => rfl
  | (k, d) :: ds, g => by
    simp only [gdk, Bool.and_eq_true] at g ⊢
    exact ⟨⟨gd_mono h k g.1.1, gd_mono h d g.1.2⟩, gdk_mono h ds g.2⟩
end
theorem gds_app {B : Nat} {xs ys : List PD} (a : gds B xs = true) (b : gds B ys = true) : gds B (xs ++ ys) = true := by
  rw [gds_all] at *
  intro d m
  exact (List.mem_append.mp m).elim (a d) (b d)
theorem gds_sub {B : Nat} {xs ys : List PD} (a : gds B xs = true) (s : ∀ y ∈ ys, y ∈ xs) : gds B ys = true := by
  rw [gds_all] at *
  exact fun d m => a d (s d m)
/-! ### weights -/
theorem wt_app (xs ys : List PD) : PyData.weightAll (xs ++ ys) = PyData.weightAll xs + PyData.weightAll ys := by
  induction xs with
  | nil => simp [PyData.weightAll]
  | cons x xs ih => simp only [List.cons_append, PyData.weightAll, ih]; omega
theorem dp_app (xs ys : List PD) : PyData.depthAll (xs ++ ys) = max (PyData.depthAll xs) (PyData.depthAll ys) := by
  induction xs with
  | nil => simp [PyData.depthAll]
  | cons x xs ih => simp only [List.cons_append, PyData.depthAll, ih]; omega
theorem wt_take (xs : List PD) (n : Nat) : PyData.weightAll (xs.take n) ≤ PyData.weightAll xs := by
  have := wt_app (xs.take n) (xs.drop n)
  rw [List.take_append_drop] at this
  omega
theorem wt_drop (xs : List PD) (n : Nat) : PyData.weightAll (xs.drop n) ≤ PyData.weightAll xs := by
  have := wt_app (xs.take n) (xs.drop n)
  rw [List.take_append_drop] at this
  omega
theorem dp_mem {xs : List PD} {d : PD} (m : d ∈ xs) : d.depth ≤ PyData.depthAll xs := by
  induction xs with
  | nil => cases m
  | cons x xs ih =>
    simp only [PyData.depthAll]
    rcases List.mem_cons.mp m with rfl | m
    · omega
    · have := ih m; omega
theorem wt_mem {xs : List PD} {d : PD} (m : d ∈ xs) : d.weight + 1 ≤ PyData.weightAll xs := by
  induction xs with
  | nil => cases m
  | cons x xs ih =>
    simp only [PyData.weightAll]
    rcases List.mem_cons.mp m with rfl | m
    · omega
    · have := ih m; omega
theorem dp_le {xs : List PD} {k : Nat} (a : ∀ d ∈ xs, d.depth ≤ k) : PyData.depthAll xs ≤ k := by
  induction xs with
  | nil => simp [PyData.depthAll]
  | cons x xs ih =>
    simp only [PyData.depthAll]
    have := a x (.head _)
    have := ih fun d m => a d (.tail _ m)
    omega
theorem wt_rev (xs : List PD) : PyData.weightAll xs.reverse = PyData.weightAll xs := by
  induction xs with
  | nil => rfl
  | cons x xs ih => rw [List.reverse_cons, wt_app, ih]; simp only [PyData.weightAll]; omega
/-! ### cuts -/
section
variable {α : Type}
theorem ct_take (l : List α) (i : Nat) : cut l none (some (i : Int)) = l.take i := by
  unfold cut
  rw [HT.sIx_none, HT.sIx_nat]
  simp only [List.drop_zero, Nat.sub_zero]
  rw [Nat.min_def]
  split
  · rfl
  · rw [List.take_length, List.take_of_length_le (by omega)]
theorem ct_drop (l : List α) (i : Nat) : cut l (some (i : Int)) none = l.drop i := by
  unfold cut
  rw [HT.sIx_none, HT.sIx_nat]
  rw [List.take_of_length_le (by rw [List.length_drop]; exact Nat.le_refl _)]
  rw [Nat.min_def]
  split
  · rfl
  · rw [List.drop_length, List.drop_of_length_le (by omega)]
theorem ct_drop1 (l : List α) : cut l (some 1) none = l.drop 1 := ct_drop l 1
theorem ct_mem {l : List α} {lo hi : Option Int} {x : α} (m : x ∈ cut l lo hi) : x ∈ l := List.mem_of_mem_drop (List.mem_of_mem_take m)
end
theorem ct_wt (l : List PD) (lo hi : Option Int) : PyData.weightAll (cut l lo hi) ≤ PyData.weightAll l := Nat.le_trans (wt_take ..) (wt_drop ..)
theorem ct_dp (l : List PD) (lo hi : Option Int) : PyData.depthAll (cut l lo hi) ≤ PyData.depthAll l := dp_le fun d m => dp_mem (ct_mem m)
theorem ct_gd {B : Nat} {l : List PD} (g : gds B l = true) (lo hi : Option Int) : gds B (cut l lo hi) = true := gds_sub g fun y m => ct_mem m
theorem cutS_mem {z : Str} {lo hi : Option Int} {c : Nat} (m : c ∈ (L2.cutS z lo hi).cps.toList) : c ∈ z.cps.toList := by
  obtain ⟨a, b, e⟩ := cut_any z.cps.toList lo hi
  rw [show z = st z.cps.toList from rfl, e, cp_st] at m
  exact List.mem_of_mem_drop (List.mem_of_mem_take m)
theorem cutS_len (z : Str) (lo hi : Option Int) : (L2.cutS z lo hi).length ≤ z.length := by
  obtain ⟨a, b, e⟩ := cut_any z.cps.toList lo hi
  rw [show L2.cutS z lo hi = L2.cutS (st z.cps.toList) lo hi from rfl, e]
  show (List.toArray _).size ≤ z.cps.size
  rw [List.size_toArray, List.length_take, List.length_drop, Array.length_toList]
  omega
theorem ascOk_iff {z : Str} : ascOk z = true ↔ ∀ c ∈ z.cps.toList, c < 128 := by
  unfold ascOk
  rw [Array.all_eq_true_iff_forall_mem]
  simp
theorem asc_cut {z : Str} (o : ascOk z = true) (lo hi : Option Int) : ascOk (L2.cutS z lo hi) = true := by
  rw [ascOk_iff] at *
  exact fun c m => o c (cutS_mem m)
/-! ### rounds over a list that changes -/
theorem fr_liv {l : Option (Nat × AO)} {t : Tgt} {b : Sg → M Fl} {I : List Val → Sg → Hs → Prop} {B : Sg → Hs → Prop} {R : Val → Hs → Prop} (st : ∀ xs s h, I xs s h → staysM l h = .ok () h)
    (step : ∀ x r s h, I (x :: r) s h → ∃ s1 f h2, asg t x s h = .ok s1 h ∧ b s1 h = .ok f h2 ∧ Rnd (I r) B R f h2) : ∀ xs s h, I xs s h →
    (∃ s' h', frL l t b xs s h = .ok (.nx s') h' ∧ (I [] s' h' ∨ B s' h')) ∨ (∃ v h', frL l t b xs s h = .ok (.ret v) h' ∧ R v h')
  | [], s, h, i => .inl ⟨s, h, fr_nil (st _ _ _ i), .inl i⟩
  | x :: r, s, h, i => by
    obtain ⟨s1, f, h2, e1, e2, i2⟩ := step x r s h i
    rw [fr_step (st _ _ _ i) e1 e2]
    cases f with
    | nx s2 => exact fr_liv st step r s2 h2 i2
    | ct s2 => exact fr_liv st step r s2 h2 i2
    | brk s2 => exact .inl ⟨s2, h2, rfl, .inr i2⟩
    | ret v => exact .inr ⟨v, h2, rfl, i2⟩
/-- without an end ahead of time -/
theorem fr_livN {l : Option (Nat × AO)} {t : Tgt} {b : Sg → M Fl} {I : List Val → Sg → Hs → Prop} (st : ∀ xs s h, I xs s h → staysM l h = .ok () h)
    (step : ∀ x r s h, I (x :: r) s h → ∃ s1 s2 h2, asg t x s h = .ok s1 h ∧ (b s1 h = .ok (.nx s2) h2 ∨ b s1 h = .ok (.ct s2) h2) ∧ I r s2 h2) {xs : List Val} {s : Sg} {h : Hs} (i : I xs s h) :
    ∃ s' h', frL l t b xs s h = .ok (.nx s') h' ∧ I [] s' h' := by
  rcases fr_liv (B := fun _ _ => False) (R := fun _ _ => False) st (fun x r s h i => by
    obtain ⟨s1, s2, h2, e1, e2, i2⟩ := step x r s h i
    rcases e2 with e2 | e2
    · exact ⟨s1, _, h2, e1, e2, i2⟩
    · exact ⟨s1, _, h2, e1, e2, i2⟩) xs s h i with ⟨s', h', e, q⟩ | ⟨_, _, _, q⟩
  · exact ⟨s', h', e, q.resolve_right id⟩
  · exact q.elim
section
variable {h : Hs}
theorem src_r {a : Nat} {xs : List Val} (e : h[a]? = some (.lst xs)) : srcOf (.r a) h = .ok ⟨xs, some (a, .lst xs)⟩ h := by
  show (getO a >>= fun o => itemsO o >>= fun xs => (pure ⟨xs, some (a, .lst xs)⟩ : M Src)) h = _
  rw [bind_ap, getO_ap e]
  rfl
theorem ext_l {a : Nat} {xs : List Val} {ds : List PD} (e : h[a]? = some (.lst xs)) (l : xs.length + ds.length ≤ lim) : mtV .extend (.r a) [.d (.list ds)] h = .ok (.d .none) (h.set a (.lst (xs ++ ds.map Val.d))) := by
  show (seqOf (.d (.list ds)) >>= fun ys => getO a >>= fun o => itemsO o >>= fun zs => if zs.length + ys.length ≤ lim then (setO a (.lst (zs ++ ys)) >>= fun _ => (pure (.d .none) : M Val)) else bad) h = _
  rw [bind_ap, show seqOf (.d (.list ds)) h = .ok (ds.map Val.d) h from rfl, bnd_ok, bind_ap, getO_ap e, bnd_ok]
  show (if xs.length + (ds.map Val.d).length ≤ lim then (setO a (.lst (xs ++ ds.map Val.d)) >>= fun _ => (pure (.d .none) : M Val)) else bad) h = _
  rw [if_pos (by rw [List.length_map]; exact l)]
  rfl
theorem rv_t (ds : List PD) {m : Bool} : revV m (.d (.tuple ds)) h = .ok (.d (.tuple ds.reverse)) h := rfl
theorem b_bi {b : Bool} {j : Int} : bopL false .add (.d (.bool b)) (.d (.int j)) h = .ok (.d (.int (bi b + j))) h := rfl
theorem b_bs {b : Bool} {j : Int} : bopL false .sub (.d (.bool b)) (.d (.int j)) h = .ok (.d (.int (bi b - j))) h := rfl
theorem v_strB {b m : Bool} : bi1 .str m (.d (.bool b)) h = .ok (.d (.str (if b then "True" else "False"))) h := rfl
theorem v_strI {i : Int} {m : Bool} (c : i.natAbs.log2 < 1920) : bi1 .str m (.d (.int i)) h = .ok (.d (.str (toString i))) h := by
  show (if i.natAbs.log2 < 1920 then (pure (.d (.str (toString i))) : M Val) else bad) h = _
  rw [if_pos c]
  rfl
theorem v_up {z : Str} (c : z.length ≤ 1000) : mtV .upper (.d (.str z)) [] h = .ok (.d (.str (Txt.upper z))) h := by
  show (if z.length ≤ 1000 then (pure (.d (.str (Txt.upper z))) : M Val) else bad) h = _
  rw [if_pos c]
  rfl
theorem v_listT {ds : List PD} : bi1 .list false (.d (.tuple ds)) h = .ok (.d (.list ds)) h := by
  show (seqOf (.d (.tuple ds)) >>= fun xs => mkL false xs) h = _
  rw [bind_ap, show seqOf (.d (.tuple ds)) h = .ok (ds.map Val.d) h from rfl, bnd_ok, mkL_d]
end
theorem up_len {z : Str} (o : ascOk z = true) : (Txt.upper z).length = z.length := by
  rw [PyProof.Rows.upper_ascii (ascOk_iff.mp o)]
  exact Array.size_map ..
section
variable {I B : Sg → Hs → Prop} {R : Val → Hs → Prop} {s : Sg} {v : Val} {h : Hs}
theorem rnd_nx (i : I s h) : Rnd I B R (.nx s) h := i
theorem rnd_ct (i : I s h) : Rnd I B R (.ct s) h := i
theorem rnd_brk (i : B s h) : Rnd I B R (.brk s) h := i
theorem rnd_ret (i : R v h) : Rnd I B R (.ret v) h := i
end
theorem len_wt (ds : List PD) : ds.length ≤ PyData.weightAll ds := by
  induction ds with
  | nil => simp
  | cons d ds ih => simp only [List.length_cons, PyData.weightAll]; omega
theorem wt_2 (a b : PD) : (PyData.tuple [a, b]).weight = a.weight + b.weight + 2 := by simp only [PyData.weight, PyData.weightAll]; omega
theorem wt_3 (a b c : PD) : (PyData.tuple [a, b, c]).weight = a.weight + b.weight + c.weight + 3 := by simp only [PyData.weight, PyData.weightAll]; omega
theorem dp_2 (a b : PD) : (PyData.tuple [a, b]).depth = max a.depth b.depth + 1 := by simp only [PyData.depth, PyData.depthAll]; omega
theorem dp_3 (a b c : PD) : (PyData.tuple [a, b, c]).depth = max a.depth (max b.depth c.depth) + 1 := by simp only [PyData.depth, PyData.depthAll]; omega
theorem l_nil {h : Hs} : mkL false [] h = .ok (.d (.list [])) h := mkL_d []
theorem bl_ap {b : Bool} {h : Hs} : bl b h = .ok (.d (.bool b)) h := rfl
theorem mkl1 {a : PD} {h : Hs} : mkL false [.d a] h = .ok (.d (.list [a])) h := rfl
theorem mkl2 {a b : PD} {h : Hs} : mkL false [.d a, .d b] h = .ok (.d (.list [a, b])) h := rfl
theorem mkl3 {a b c : PD} {h : Hs} : mkL false [.d a, .d b, .d c] h = .ok (.d (.list [a, b, c])) h := rfl
theorem mkl4 {a b c d : PD} {h : Hs} : mkL false [.d a, .d b, .d c, .d d] h = .ok (.d (.list [a, b, c, d])) h := rfl
theorem mkl5 {a b c d e : PD} {h : Hs} : mkL false [.d a, .d b, .d c, .d d, .d e] h = .ok (.d (.list [a, b, c, d, e])) h := rfl
theorem mkl6 {a b c d e f : PD} {h : Hs} : mkL false [.d a, .d b, .d c, .d d, .d e, .d f] h = .ok (.d (.list [a, b, c, d, e, f])) h := rfl
theorem mkl7 {a b c d e f g : PD} {h : Hs} : mkL false [.d a, .d b, .d c, .d d, .d e, .d f, .d g] h = .ok (.d (.list [a, b, c, d, e, f, g])) h := rfl
theorem mkl8 {a b c d e f g i : PD} {h : Hs} : mkL false [.d a, .d b, .d c, .d d, .d e, .d f, .d g, .d i] h = .ok (.d (.list [a, b, c, d, e, f, g, i])) h := rfl
theorem mkl9 {a b c d e f g i j : PD} {h : Hs} : mkL false [.d a, .d b, .d c, .d d, .d e, .d f, .d g, .d i, .d j] h = .ok (.d (.list [a, b, c, d, e, f, g, i, j])) h := rfl
theorem mkl10 {a b c d e f g i j k : PD} {h : Hs} : mkL false [.d a, .d b, .d c, .d d, .d e, .d f, .d g, .d i, .d j, .d k] h = .ok (.d (.list [a, b, c, d, e, f, g, i, j, k])) h := rfl
theorem mkl11 {a b c d e f g i j k l : PD} {h : Hs} : mkL false [.d a, .d b, .d c, .d d, .d e, .d f, .d g, .d i, .d j, .d k, .d l] h = .ok (.d (.list [a, b, c, d, e, f, g, i, j, k, l])) h := rfl
theorem mkl12 {a b c d e f g i j k l m : PD} {h : Hs} : mkL false [.d a, .d b, .d c, .d d, .d e, .d f, .d g, .d i, .d j, .d k, .d l, .d m] h = .ok (.d (.list [a, b, c, d, e, f, g, i, j, k, l, m])) h := rfl
theorem mkl13 {a b c d e f g i j k l m n : PD} {h : Hs} : mkL false [.d a, .d b, .d c, .d d, .d e, .d f, .d g, .d i, .d j, .d k, .d l, .d m, .d n] h = .ok (.d (.list [a, b, c, d, e, f, g, i, j, k, l, m, n])) h := rfl
theorem mkl14 {a b c d e f g i j k l m n o : PD} {h : Hs} : mkL false [.d a, .d b, .d c, .d d, .d e, .d f, .d g, .d i, .d j, .d k, .d l, .d m, .d n, .d o] h = .ok (.d (.list [a, b, c, d, e, f, g, i, j, k, l, m, n, o])) h := rfl
theorem mkl15 {a b c d e f g i j k l m n o p : PD} {h : Hs} : mkL false [.d a, .d b, .d c, .d d, .d e, .d f, .d g, .d i, .d j, .d k, .d l, .d m, .d n, .d o, .d p] h = .ok (.d (.list [a, b, c, d, e, f, g, i, j, k, l, m, n, o, p])) h := rfl
theorem int_ap {i : Int} {h : Hs} : intV i h = .ok (.d (.int i)) h := rfl
theorem mkd0 {h : Hs} : mkD false [] h = .ok (.d (.dict [])) h := rfl
theorem ix_tl {ds : List PD} {c : PD} {h : Hs} (e : ds[ds.length - 1]? = some c) : ixV (.d (.tuple ds)) (.d (.int (-1))) h = .ok (.d c) h := by
  have hl := (List.getElem?_eq_some_iff.mp e).1
  show optM ((L2.atI ds (-1)).map Val.d) h = _
  unfold L2.atI L2.ixN
  rw [if_neg (by decide), if_pos (by omega)]
  show optM (Option.map _ (ds[((ds.length : Int) + -1).toNat]?)) h = _
  rw [show ((ds.length : Int) + -1).toNat = ds.length - 1 by omega, e]
  rfl
/-- a value of a size -/
structure Vl (B w k : Nat) (y : PD) : Prop where
  g : gd B y = true
  w : y.weight ≤ w
  d : y.depth ≤ k
theorem Vl.up {B w k B2 w2 k2 : Nat} {y : PD} (v : Vl B w k y) (h1 : B ≤ B2) (h2 : w ≤ w2) (h3 : k ≤ k2) : Vl B2 w2 k2 y := ⟨gd_mono h1 _ v.g, Nat.le_trans v.w h2, Nat.le_trans v.d h3⟩
theorem vl_int {B k : Nat} {i : Int} (h : i.natAbs ≤ B) (hB : B < 1024) : Vl B 10 k (.int i) := by
  refine ⟨by simp only [gd]; exact decide_eq_true h, ?_, by simp [PyData.depth]⟩
  simp only [PyData.weight]
  split
  · omega
  · rename_i z
    have z : i.natAbs ≠ 0 := fun q => z (by simpa using q)
    have : i.natAbs.log2 < 10 := (Nat.log2_lt z).mpr (by omega)
    omega
theorem vl_str {B w k : Nat} {z : Str} (o : ascOk z = true) (l : z.length ≤ w) : Vl B w k (.str z) := ⟨by simp only [gd]; exact o, by simp only [PyData.weight]; exact l, by simp [PyData.depth]⟩
theorem vl_bool {B w k : Nat} {b : Bool} : Vl B w k (.bool b) := ⟨by simp [gd], by simp [PyData.weight], by simp [PyData.depth]⟩
theorem vl_none {B w k : Nat} : Vl B w k .none := ⟨by simp [gd], by simp [PyData.weight], by simp [PyData.depth]⟩
theorem vl_d0 {B w k : Nat} (h : 1 ≤ k) : Vl B w k (.dict []) := ⟨by simp [gd, gdk], by simp [PyData.weight, PyData.weightKv], by simp [PyData.depth, PyData.depthKv]; omega⟩
/-- all of a list -/
structure Vls (B w k : Nat) (ds : List PD) : Prop where
  g : gds B ds = true
  w : PyData.weightAll ds ≤ w
  d : PyData.depthAll ds ≤ k
theorem vls_nil {B w k : Nat} : Vls B w k [] := ⟨by simp [gds], by simp [PyData.weightAll], by simp [PyData.depthAll]⟩
theorem Vl.cons {B w w2 w3 k : Nat} {d : PD} {ds : List PD} (a : Vl B w k d) (b : Vls B w2 k ds) (h : w + 1 + w2 ≤ w3) : Vls B w3 k (d :: ds) := by
  have := a.w; have := b.w; have := a.d; have := b.d
  exact ⟨by simp [gds, a.g, b.g], by simp only [PyData.weightAll]; omega, by simp only [PyData.depthAll]; omega⟩
theorem Vls.tup {B w k k2 : Nat} {ds : List PD} (a : Vls B w k ds) (h : k + 1 ≤ k2) : Vl B w k2 (.tuple ds) := by
  have := a.d
  exact ⟨by simp only [gd]; exact a.g, by simp only [PyData.weight]; exact a.w, by simp only [PyData.depth]; omega⟩
theorem Vls.lst {B w k k2 : Nat} {ds : List PD} (a : Vls B w k ds) (h : k + 1 ≤ k2) : Vl B w k2 (.list ds) := by
  have := a.d
  exact ⟨by simp only [gd]; exact a.g, by simp only [PyData.weight]; exact a.w, by simp only [PyData.depth]; omega⟩
theorem Vls.app {B w w2 w3 k : Nat} {xs ys : List PD} (a : Vls B w k xs) (b : Vls B w2 k ys) (h : w + w2 ≤ w3) : Vls B w3 k (xs ++ ys) := by
  have := a.w; have := b.w; have := a.d; have := b.d
  exact ⟨gds_app a.g b.g, by rw [wt_app]; omega, by rw [dp_app]; omega⟩
theorem Vls.cut {B w k : Nat} {xs : List PD} (a : Vls B w k xs) (lo hi : Option Int) : Vls B w k (cut xs lo hi) := ⟨ct_gd a.g lo hi, Nat.le_trans (ct_wt ..) a.w, Nat.le_trans (ct_dp ..) a.d⟩
theorem Vls.rev {B w k : Nat} {xs : List PD} (a : Vls B w k xs) : Vls B w k xs.reverse := ⟨gds_sub a.g fun y m => List.mem_reverse.mp m, by rw [wt_rev]; exact a.w, dp_le fun d m => Nat.le_trans (dp_mem (List.mem_reverse.mp m)) a.d⟩
theorem Vls.mem {B w k : Nat} {xs : List PD} (a : Vls B w k xs) {d : PD} (m : d ∈ xs) : Vl B w k d := ⟨gds_all.mp a.g d m, by have := wt_mem m; have := a.w; omega, Nat.le_trans (dp_mem m) a.d⟩
theorem Vl.tup_inv {B w k : Nat} {ds : List PD} (a : Vl B w k (.tuple ds)) : ∃ k', k = k' + 1 ∧ Vls B w k' ds := by
  have := a.d
  simp only [PyData.depth] at this
  exact ⟨k - 1, by omega, by have := a.g; simpa only [gd] using this, by have := a.w; simpa only [PyData.weight] using this, by omega⟩
theorem Vls.up {B w k B2 w2 k2 : Nat} {y : List PD} (v : Vls B w k y) (h1 : B ≤ B2) (h2 : w ≤ w2) (h3 : k ≤ k2) : Vls B2 w2 k2 y := ⟨gds_mono h1 _ v.g, Nat.le_trans v.w h2, Nat.le_trans v.d h3⟩
theorem shown_len {B : Nat} {d : PD} (g : gd B d = true) (hB : B < 4096) : d.shown.length ≤ 15 * d.weight + 13 := PyData.shown_le 13 (by decide) d (gd_ls (k := 12) (by decide) (by decide) hB d g).1
mutual
theorem asc_gd {B : Nat} : ∀ d : PD, gd B d = true → ascOk d.shown = true
  | .none, _ => by simp only [PyData.shown]; decide +kernel
  | .bool b, _ => by simp only [PyData.shown]; cases b <;> decide +kernel
  | .int i, _ => by simp only [PyData.shown]; exact asc_num i
  | .str z, g => by simp only [PyData.shown]; exact asc_repr (by simpa [gd] using g)
  | .list ds, g => by
    simp only [PyData.shown, listText]
    exact strOk_app (asc_textFrom _ _ _ (asc_gds ds (by simpa [gd] using g)) (by decide +kernel)) (by decide +kernel)
  | .tuple ds, g => by
    simp only [PyData.shown, tupleText]
    refine strOk_app (strOk_app (by decide +kernel) (asc_join (by decide +kernel) _ (asc_gds ds (by simpa [gd] using g)))) ?_
    split <;> decide +kernel
  | .dict kvs, g => by
    simp only [PyData.shown, dictText]
    exact strOk_app (strOk_app (by decide +kernel) (asc_join (by decide +kernel) _ (asc_gdk kvs (by simpa [gd] using g)))) (by decide +kernel)
theorem asc_gds {B : Nat} : ∀ ds : List PD, gds B ds = true → ∀ t ∈ PyData.shownAll ds, ascOk t = true
  | [], _, t, m => by simp [PyData.shownAll] at m
  | d :: ds, g, t, m => by
    simp only [gds, Bool.and_eq_true] at g
    simp only [PyData.shownAll] at m
    rcases List.mem_cons.mp m with rfl | m
    · exact asc_gd d g.1
    · exact asc_gds ds g.2 t m
theorem asc_gdk {B : Nat} : ∀ ds : List (PD × PD), gdk B ds = true → ∀ t ∈ PyData.shownKv ds, ascOk t = true
  | [], _, t, m => by simp [PyData.shownKv] at m
  | (a, d) :: ds, g, t, m => by
    simp only [gdk, Bool.and_eq_true] at g
    simp only [PyData.shownKv] at m
    rcases List.mem_cons.mp m with rfl | m
    · exact strOk_app (strOk_app (asc_gd a g.1.1) (by decide +kernel)) (asc_gd d g.1.2)
    · exact asc_gdk ds g.2 t m
end
theorem Vl.repr {B w k : Nat} {y : PD} (v : Vl B w k y) (hB : B < 4096) (hw : w ≤ 100000) (hk : k ≤ 60) {m : Bool} {h : Hs} : bi1 .repr m (.d y) h = .ok (.d (.str y.shown)) h := repr_g v.g (Nat.lt_trans hB (by decide)) (Nat.le_trans v.w hw) (Nat.le_trans v.d hk)
theorem Vl.text {B w k : Nat} {y : PD} (v : Vl B w k y) (hB : B < 4096) (k2 : Nat) : Vl B (15 * w + 13) k2 (.str y.shown) := vl_str (asc_gd y v.g) (by have := shown_len v.g hB; have := v.w; omega)
end Nv
set_option Elab.async false
set_option linter.all false
set_option maxRecDepth 100000
set_option maxHeartbeats 0
/-! K41a: the program of narrowplay_k41_formulas_among_any_values. -/
namespace K41
open PySem PySem.Spec PyProof.Rows L2 Nv
/-- the i-th statement of the top -/
def top (i : Nat) : Stmt := PySem.Challenge.pw_narrowplay_k41_formulas_among_any_values.main.body.getD i (.Pass ⟨0, 0, 0, 0⟩)
def dOf (x : Str) (i : Nat) : He.DefD := ⟨(x, none), x, x, defArgs (top i), defBody (top i), defScope (top i), [], []⟩
/-! is_integer: 0=thing -/
def p0 : Fp := ⟨dOf "is_integer" 1, ["thing"], ["thing"]⟩
def b0 : Ss := 
  (.c (.ret (.and (.isi (.v 0) .int) (.not (.isi (.v 0) .bool)))) .n)
def f0 : Fn := ⟨1, 1, false, b0⟩
/-! is_from: 0=thing 1=least -/
def p1 : Fp := ⟨dOf "is_from" 2, ["thing", "least"], ["thing", "least"]⟩
def b1 : Ss := 
  (.c (.ret (.and (.cal 0 (.c (.v 0) .n)) (.cmp .ge (.v 0) (.v 1)))) .n)
def f1 : Fn := ⟨2, 2, false, b1⟩
/-! is_tuple: 0=thing 1=many -/
def p2 : Fp := ⟨dOf "is_tuple" 3, ["thing", "many"], ["thing", "many"]⟩
def b2 : Ss := 
  (.c (.ret (.and (.isi (.v 0) .tuple) (.cmp .eq (.bi .len false (.c (.v 0) .n)) (.v 1)))) .n)
def f2 : Fn := ⟨2, 2, false, b2⟩
/-! is_word_of: 0=thing 1=signs 2=sign -/
def p3 : Fp := ⟨dOf "is_word_of" 4, ["thing", "signs", "sign"], ["thing", "signs"]⟩
def b3e0 : E := (.cmp .isin (.v 2) (.v 1))
def b3 : Ss := 
  (.c (.ret (.and (.isi (.v 0) .str) (.bi .all false (.c (.lc false (.v 2) (.sq (.v 0)) .n b3e0) .n)))) .n)
def f3 : Fn := ⟨2, 3, false, b3⟩
/-! is_matrix_value: 0=thing 1=many 2=waiting 3=part -/
def p4 : Fp := ⟨dOf "is_matrix_value" 6, ["thing", "many", "waiting", "part"], ["thing", "many"]⟩
def b4e0 : E := (.cmp .ne (.v 2) (.lst false .n))
def b4l1 : Ss := 
  (.c (.set 3 (.mt .pop (.v 2) .n))
  (.c (.ite (.and (.cal 2 (.c (.v 3) (.c (.k (.int 3)) .n))) (.cmp .isin (.ix (.v 3) (.k (.int 0))) (.tup (.c (.k (.str "and")) (.c (.k (.str "or")) .n))))) 
   (.c (.ex (.mt .extend (.v 2) (.c (.sl false (.v 3) (.s (.k (.int 1))) .n) .n))) .n) 
   (.c (.ite (.and (.cal 2 (.c (.v 3) (.c (.k (.int 2)) .n))) (.cmp .eq (.ix (.v 3) (.k (.int 0))) (.k (.str "not")))) 
    (.c (.ex (.mt .append (.v 2) (.c (.ix (.v 3) (.k (.int 1))) .n))) .n) 
    (.c (.ite (.or (.not (.cal 2 (.c (.v 3) (.c (.k (.int 2)) .n)))) (.or (.cmp .ne (.ix (.v 3) (.k (.int 0))) (.k (.str "v"))) (.or (.not (.cal 1 (.c (.ix (.v 3) (.k (.int 1))) (.c (.k (.int 0)) .n)))) (.cmp .ge (.ix (.v 3) (.k (.int 1))) (.v 1))))) 
     (.c (.ret (.k (.bool false))) .n) .n) .n)) .n)) .n))
def b4 : Ss := 
  (.c (.set 2 (.lst true (.c (.v 0) .n)))
  (.c (.whl b4e0 b4l1)
  (.c (.ret (.k (.bool true))) .n)))
def f4 : Fn := ⟨2, 4, false, b4⟩
/-! is_formula_value: 0=thing -/
def p5 : Fp := ⟨dOf "is_formula_value" 7, ["thing"], ["thing"]⟩
def b5 : Ss := 
  (.c (.ret (.and (.cal 2 (.c (.v 0) (.c (.k (.int 2)) .n))) (.and (.cal 3 (.c (.ix (.v 0) (.k (.int 0))) (.c (.k (.str "ea")) .n))) (.cal 4 (.c (.ix (.v 0) (.k (.int 1))) (.c (.bi .len false (.c (.ix (.v 0) (.k (.int 0))) .n)) .n)))))) .n)
def f5 : Fn := ⟨1, 1, false, b5⟩
/-! is_formula: 0=thing -/
def p6 : Fp := ⟨dOf "is_formula" 9, ["thing"], ["thing"]⟩
def b6 : Ss := 
  (.c (.ret (.cal 5 (.c (.v 0) .n))) .n)
def f6 : Fn := ⟨1, 1, false, b6⟩
/-! _law_deck: 0=_law_script 1=_law_mixed 2=_law_cell -/
def p7 : Fp := ⟨dOf "_law_deck" 11, ["_law_script", "_law_mixed", "_law_cell"], ["_law_script"]⟩
def b7l0 : Ss := 
  (.c (.set 1 (.bin .mod (.bi .int false (.c (.bin .add (.bin .add (.bin .mul (.v 1) (.k (.int 69621))) (.bin .mod (.bi .int false (.c (.v 2) .n)) (.k (.int 2147483629)))) (.k (.int 141))) .n)) (.k (.int 2147483587)))) .n)
def b7 : Ss := 
  (.c (.set 1 (.k (.int 15369234)))
  (.c (.fr (.v 2) (.sq (.sl false (.v 0) .n (.s (.k (.int 63))))) b7l0)
  (.c (.ret (.dct true [.inr "cells", .inr "mixed", .inr "draws"] (.c (.rv true (.bi .list false (.c (.sl false (.v 0) .n (.s (.k (.int 63)))) .n))) (.c (.v 1) (.c (.k (.int 0)) .n))))) .n)))
def f7 : Fn := ⟨1, 3, false, b7⟩
/-! _law_draw: 0=_law_deck_here 1=_law_many 2=_law_number 3=_law_cell -/
def p8 : Fp := ⟨dOf "_law_draw" 12, ["_law_deck_here", "_law_many", "_law_number", "_law_cell"], ["_law_deck_here", "_law_many"]⟩
def b8 : Ss := 
  (.c (.sti (.v 0) (.k (.str "draws")) (.bin .add (.ix (.v 0) (.k (.str "draws"))) (.k (.int 1))))
  (.c (.set 2 (.bin .add (.ix (.v 0) (.k (.str "mixed"))) (.bin .mul (.k (.int 61473)) (.ix (.v 0) (.k (.str "draws"))))))
  (.c (.ite (.cmp .ne (.ix (.v 0) (.k (.str "cells"))) (.lst false .n)) 
   (.c (.set 3 (.mt .pop (.ix (.v 0) (.k (.str "cells"))) .n))
   (.c (.ite (.cmp .ge (.v 3) (.bin .pow (.k (.int 10)) (.k (.int 18)))) 
    (.c (.ex (.mt .append (.ix (.v 0) (.k (.str "cells"))) (.c (.bin .fdiv (.v 3) (.bi .max false (.c (.k (.int 2)) (.c (.v 1) .n)))) .n)))
    (.c (.ret (.bin .mod (.bi .int false (.c (.v 3) .n)) (.v 1))) .n)) .n)
   (.c (.set 2 (.bin .add (.v 2) (.bin .mod (.bi .int false (.c (.v 3) .n)) (.k (.int 2147483629))))) .n))) .n)
  (.c (.set 2 (.bin .mod (.bi .int false (.c (.bin .add (.bin .mul (.v 2) (.k (.int 39373))) (.k (.int 141))) .n)) (.k (.int 2147483647))))
  (.c (.set 2 (.bin .mod (.bi .int false (.c (.bin .add (.bin .add (.bin .mul (.v 2) (.v 2)) (.bin .mul (.k (.int 52713)) (.ix (.v 0) (.k (.str "draws"))))) (.k (.int 283))) .n)) (.k (.int 2147483587))))
  (.c (.set 2 (.bin .mod (.bi .int false (.c (.bin .mul (.v 2) (.k (.int 40692))) .n)) (.k (.int 2147483563))))
  (.c (.ret (.bin .mod (.bi .int false (.c (.bin .fdiv (.v 2) (.k (.int 64))) .n)) (.v 1))) .n)))))))
def f8 : Fn := ⟨2, 4, false, b8⟩
/-! _law_pick: 0=_law_deck_here 1=_law_some -/
def p9 : Fp := ⟨dOf "_law_pick" 13, ["_law_deck_here", "_law_some"], ["_law_deck_here", "_law_some"]⟩
def b9 : Ss := 
  (.c (.ret (.ix (.v 1) (.cal 8 (.c (.v 0) (.c (.bi .len false (.c (.v 1) .n)) .n))))) .n)
def f9 : Fn := ⟨2, 2, false, b9⟩
/-! _law_matrix: 0=_law_deck_here 1=_law_m 2=_law_deep 3=_law_way -/
def p10 : Fp := ⟨dOf "_law_matrix" 14, ["_law_deck_here", "_law_m", "_law_deep", "_law_way"], ["_law_deck_here", "_law_m", "_law_deep"]⟩
def b10 : Ss := 
  (.c (.set 3 (.cal 8 (.c (.v 0) (.c (.k (.int 6)) .n))))
  (.c (.ite (.or (.cmp .eq (.v 2) (.k (.int 0))) (.cmp .eq (.v 3) (.k (.int 0)))) 
   (.c (.ret (.tup (.c (.k (.str "v")) (.c (.cal 8 (.c (.v 0) (.c (.v 1) .n))) .n)))) .n) .n)
  (.c (.ite (.cmp .eq (.v 3) (.k (.int 1))) 
   (.c (.ret (.tup (.c (.k (.str "not")) (.c (.cal 10 (.c (.v 0) (.c (.v 1) (.c (.bin .sub (.v 2) (.k (.int 1))) .n)))) .n)))) .n) .n)
  (.c (.ret (.tup (.c (.cal 9 (.c (.v 0) (.c (.lst false (.c (.k (.str "and")) (.c (.k (.str "or")) .n))) .n))) (.c (.cal 10 (.c (.v 0) (.c (.v 1) (.c (.bin .sub (.v 2) (.k (.int 1))) .n)))) (.c (.cal 10 (.c (.v 0) (.c (.v 1) (.c (.bin .sub (.v 2) (.k (.int 1))) .n)))) .n))))) .n))))
def f10 : Fn := ⟨3, 4, false, b10⟩
/-! _law_formula: 0=_law_deck_here 1=_law_most 2=_law_prefix 3=_law_at -/
def p11 : Fp := ⟨dOf "_law_formula" 15, ["_law_deck_here", "_law_most", "_law_prefix", "_law_at"], ["_law_deck_here", "_law_most"]⟩
def b11e0 : E := (.cal 9 (.c (.v 0) (.c (.k (.str "ea")) .n)))
def b11 : Ss := 
  (.c (.set 2 (.mt .join (.k (.str "")) (.c (.lc false (.v 3) (.rg (.c (.bin .add (.k (.int 1)) (.cal 8 (.c (.v 0) (.c (.v 1) .n)))) .n)) .n b11e0) .n)))
  (.c (.ret (.tup (.c (.v 2) (.c (.cal 10 (.c (.v 0) (.c (.bi .len false (.c (.v 2) .n)) (.c (.cal 9 (.c (.v 0) (.c (.lst false (.c (.k (.int 0)) (.c (.k (.int 2)) (.c (.k (.int 3)) (.c (.k (.int 3)) (.c (.k (.int 4)) .n)))))) .n))) .n)))) .n)))) .n))
def f11 : Fn := ⟨2, 4, false, b11⟩
/-! _law_is_matrix: 0=_law_thing 1=_law_m 2=_law_deep 3=_law_it -/
def p12 : Fp := ⟨dOf "_law_is_matrix" 16, ["_law_thing", "_law_m", "_law_deep", "_law_it"], ["_law_thing", "_law_m", "_law_deep"]⟩
def b12e0 : E := (.not (.cal 12 (.c (.v 3) (.c (.v 1) (.c (.bin .sub (.v 2) (.k (.int 1))) .n)))))
def b12 : Ss := 
  (.c (.ite (.or (.cmp .lt (.v 2) (.k (.int 0))) (.or (.not (.isi (.v 0) .tuple)) (.or (.cmp .lt (.bi .len false (.c (.v 0) .n)) (.k (.int 2))) (.not (.isi (.ix (.v 0) (.k (.int 0))) .str))))) 
   (.c (.ret (.k (.bool false))) .n) .n)
  (.c (.ite (.cmp .eq (.ix (.v 0) (.k (.int 0))) (.k (.str "v"))) 
   (.c (.ret (.and (.cmp .eq (.bi .len false (.c (.v 0) .n)) (.k (.int 2))) (.and (.isi (.ix (.v 0) (.k (.int 1))) .int) (.and (.not (.isi (.ix (.v 0) (.k (.int 1))) .bool)) (.chn .le .lt (.k (.int 0)) (.ix (.v 0) (.k (.int 1))) (.v 1)))))) .n) .n)
  (.c (.ite (.or (.cmp .notin (.ix (.v 0) (.k (.int 0))) (.tup (.c (.k (.str "not")) (.c (.k (.str "and")) (.c (.k (.str "or")) .n))))) (.cmp .ne (.bi .len false (.c (.v 0) .n)) (.ite (.cmp .eq (.ix (.v 0) (.k (.int 0))) (.k (.str "not"))) (.k (.int 2)) (.k (.int 3))))) 
   (.c (.ret (.k (.bool false))) .n) .n)
  (.c (.ret (.cmp .eq (.lc false (.v 3) (.sq (.sl false (.v 0) (.s (.k (.int 1))) .n)) (.s b12e0) (.v 3)) (.lst false .n))) .n))))
def f12 : Fn := ⟨3, 4, false, b12⟩
/-! _law_is_formula: 0=_law_thing 1=_law_it -/
def p13 : Fp := ⟨dOf "_law_is_formula" 17, ["_law_thing", "_law_it"], ["_law_thing"]⟩
def b13e0 : E := (.cmp .notin (.v 1) (.k (.str "ea")))
def b13 : Ss := 
  (.c (.ite (.or (.not (.isi (.v 0) .tuple)) (.or (.cmp .ne (.bi .len false (.c (.v 0) .n)) (.k (.int 2))) (.not (.isi (.ix (.v 0) (.k (.int 0))) .str)))) 
   (.c (.ret (.k (.bool false))) .n) .n)
  (.c (.ret (.and (.cmp .eq (.lc false (.v 1) (.sq (.ix (.v 0) (.k (.int 0)))) (.s b13e0) (.v 1)) (.lst false .n)) (.cal 12 (.c (.ix (.v 0) (.k (.int 1))) (.c (.bi .len false (.c (.ix (.v 0) (.k (.int 0))) .n)) (.c (.k (.int 30)) .n)))))) .n))
def f13 : Fn := ⟨1, 2, false, b13⟩
/-! _law_bent: 0=_law_deck_here 1=_law_thing 2=_law_deep 3=_law_at 4=_law_some -/
def p14 : Fp := ⟨dOf "_law_bent" 18, ["_law_deck_here", "_law_thing", "_law_deep", "_law_at", "_law_some"], ["_law_deck_here", "_law_thing", "_law_deep"]⟩
def b14 : Ss := 
  (.c (.ite (.and (.isi (.v 1) .tuple) (.and (.cmp .ne (.v 1) (.tup .n)) (.and (.cmp .gt (.v 2) (.k (.int 0))) (.cmp .gt (.cal 8 (.c (.v 0) (.c (.k (.int 6)) .n))) (.k (.int 0)))))) 
   (.c (.set 3 (.cal 8 (.c (.v 0) (.c (.bi .len false (.c (.v 1) .n)) .n))))
   (.c (.ret (.bin .add (.bin .add (.sl false (.v 1) .n (.s (.v 3))) (.tup (.c (.cal 14 (.c (.v 0) (.c (.ix (.v 1) (.v 3)) (.c (.bin .sub (.v 2) (.k (.int 1))) .n)))) .n))) (.sl false (.v 1) (.s (.bin .add (.v 3) (.k (.int 1)))) .n))) .n)) .n)
  (.c (.ite (.isi (.v 1) .int) 
   (.c (.ret (.cal 9 (.c (.v 0) (.c (.lst false (.c (.bin .add (.v 1) (.k (.int 1))) (.c (.bin .sub (.v 1) (.k (.int 1))) (.c (.cmp .eq (.v 1) (.k (.int 1))) (.c (.bi .str false (.c (.v 1) .n)) (.c (.tup (.c (.v 1) .n)) (.c (.k .none) (.c (.lst false (.c (.v 1) .n)) (.c (.k (.int 7)) .n))))))))) .n)))) .n) .n)
  (.c (.ite (.isi (.v 1) .str) 
   (.c (.ret (.cal 9 (.c (.v 0) (.c (.lst false (.c (.bin .add (.v 1) (.k (.str "e"))) (.c (.sl false (.v 1) (.s (.k (.int 1))) .n) (.c (.sl false (.v 1) .n (.s (.neg (.k (.int 1))))) (.c (.mt .upper (.v 1) .n) (.c (.k (.str "v")) (.c (.k (.str "not")) (.c (.k (.str "and")) (.c (.k (.str "or")) (.c (.k (.str "")) (.c (.tup (.c (.v 1) .n)) (.c (.lst false (.c (.v 1) .n)) (.c (.k (.int 0)) (.c (.k (.str "x")) (.c (.dct false [] .n) .n))))))))))))))) .n)))) .n) .n)
  (.c (.ite (.and (.isi (.v 1) .tuple) (.cmp .ne (.v 1) (.tup .n))) 
   (.c (.set 4 (.lst false (.c (.bi .list false (.c (.v 1) .n)) (.c (.sl false (.v 1) (.s (.k (.int 1))) .n) (.c (.sl false (.v 1) .n (.s (.neg (.k (.int 1))))) (.c (.bin .add (.v 1) (.sl false (.v 1) (.s (.neg (.k (.int 1)))) .n)) (.c (.rv false (.v 1)) (.c (.tup (.c (.v 1) .n)) (.c (.bin .add (.v 1) (.tup (.c (.k (.int 0)) .n))) (.c (.tup .n) (.c (.ix (.v 1) (.k (.int 0))) (.c (.ix (.v 1) (.neg (.k (.int 1)))) (.c (.k .none) .n)))))))))))))
   (.c (.ret (.cal 9 (.c (.v 0) (.c (.bin .add (.v 4) (.lst false (.c (.tup (.c (.k (.str "not")) (.c (.v 1) .n))) (.c (.tup (.c (.k (.str "and")) (.c (.v 1) .n))) (.c (.tup (.c (.k (.str "or")) (.c (.v 1) (.c (.v 1) .n)))) .n))))) .n)))) .n)) .n)
  (.c (.ret (.cal 9 (.c (.v 0) (.c (.lst false (.c (.k .none) (.c (.k (.bool true)) (.c (.k (.int 0)) (.c (.k (.str "")) (.c (.k (.str "e")) (.c (.tup (.c (.k (.int 0)) .n)) (.c (.lst false .n) (.c (.dct false [] .n) (.c (.tup (.c (.k (.str "e")) (.c (.tup (.c (.k (.str "v")) (.c (.k (.int 0)) .n))) .n))) (.c (.tup (.c (.k (.str "v")) (.c (.k (.int 0)) .n))) (.c (.tup (.c (.k (.str "")) (.c (.tup (.c (.k (.str "v")) (.c (.k (.int 0)) .n))) .n))) .n)))))))))))) .n)))) .n)))))
def f14 : Fn := ⟨3, 5, false, b14⟩
/-! _law_is_beyond: 0=_law_formula_here 1=_law_many 2=_law_deep 3=_law_todo 4=_law_matrix_here 5=_law_at 6=_law_it -/
def p15 : Fp := ⟨dOf "_law_is_beyond" 19, ["_law_formula_here", "_law_many", "_law_deep", "_law_todo", "_law_matrix_here", "_law_at", "_law_it"], ["_law_formula_here"]⟩
def b15e0 : E := (.cmp .ne (.v 3) (.lst false .n))
def b15e1 : E := (.isi (.v 6) .tuple)
def b15e2 : E := (.tup (.c (.v 6) (.c (.bin .add (.v 5) (.k (.int 1))) .n)))
def b15l3 : Ss := 
  (.c (.unp [4, 5] (.mt .pop (.v 3) .n))
  (.c (.par [1, 2] (.c (.bin .add (.v 1) (.k (.int 1))) (.c (.bi .max false (.c (.v 2) (.c (.v 5) .n))) .n)))
  (.c (.ex (.mt .extend (.v 3) (.c (.lc false (.v 6) (.sq (.sl false (.v 4) (.s (.k (.int 1))) .n)) (.s b15e1) b15e2) .n))) .n)))
def b15 : Ss := 
  (.c (.par [1, 2, 3] (.c (.k (.int 0)) (.c (.k (.int 0)) (.c (.lst true (.c (.tup (.c (.ix (.v 0) (.k (.int 1))) (.c (.k (.int 1)) .n))) .n)) .n))))
  (.c (.whl b15e0 b15l3)
  (.c (.ret (.or (.cmp .gt (.bi .len false (.c (.ix (.v 0) (.k (.int 0))) .n)) (.k (.int 8))) (.or (.cmp .gt (.v 1) (.k (.int 40))) (.cmp .gt (.v 2) (.k (.int 10)))))) .n)))
def f15 : Fn := ⟨1, 7, false, b15⟩
/-! law: 0=_law_script 1=_law_deck_here 2=_law_turn 3=_law_formula_here 4=_law_things 5=_law_go 6=_law_thing 7=_law_text 8=_law_due -/
def p16 : Fp := ⟨dOf "law" 20, ["_law_script", "_law_deck_here", "_law_turn", "_law_formula_here", "_law_things", "_law_go", "_law_thing", "_law_text", "_law_due"], ["_law_script"]⟩
def b16l0 : Ss := 
  (.c (.set 6 (.cal 14 (.c (.v 1) (.c (.v 3) (.c (.k (.int 6)) .n)))))
  (.c (.ex (.mt .append (.v 4) (.c (.ite (.cmp .eq (.cal 8 (.c (.v 1) (.c (.k (.int 4)) .n))) (.k (.int 0))) (.cal 14 (.c (.v 1) (.c (.v 6) (.c (.k (.int 6)) .n)))) (.v 6)) .n))) .n))
def b16l1 : Ss := 
  (.c (.par [7, 8] (.c (.bi .repr false (.c (.v 6) .n)) (.c (.cal 13 (.c (.v 6) .n)) .n)))
  (.c (.ite (.and (.v 8) (.cal 15 (.c (.v 6) .n))) 
   (.c .cont .n) .n)
  (.c (.ite (.cmp .ne (.bi .repr false (.c (.tup (.c (.cal 6 (.c (.v 6) .n)) (.c (.calk 6 .n (.c (.v 6) .n) [0]) (.c (.bi .repr false (.c (.v 6) .n)) .n)))) .n)) (.bi .repr false (.c (.tup (.c (.v 8) (.c (.v 8) (.c (.v 7) .n)))) .n))) 
   (.c (.ret (.k (.bool false))) .n) .n) .n)))
def b16l2 : Ss := 
  (.c (.set 3 (.cal 11 (.c (.v 1) (.c (.k (.int 8)) .n))))
  (.c (.set 4 (.lst true (.c (.v 3) (.c (.tup (.c (.k (.str "")) (.c (.ix (.v 3) (.k (.int 1))) .n))) (.c (.rv false (.v 3)) (.c (.cal 14 (.c (.v 1) (.c (.k .none) (.c (.k (.int 1)) .n)))) .n))))))
  (.c (.fr (.v 5) (.rg (.c (.k (.int 6)) .n)) b16l0)
  (.c (.fr (.v 6) (.sq (.v 4)) b16l1) .n))))
def b16 : Ss := 
  (.c (.set 1 (.cal 7 (.c (.v 0) .n)))
  (.c (.fr (.v 2) (.rg (.c (.k (.int 6)) .n)) b16l2)
  (.c (.ret (.k (.bool true))) .n)))
def f16 : Fn := ⟨1, 9, false, b16⟩
def cs : List (Str × PD) := []
def ck : Ck where
  N := []
  sc := ⟨.function, [], false, false, []⟩
  fn := fun _ => false
  fns := "is_integer" :: "is_from" :: "is_tuple" :: "is_word_of" :: "is_matrix_value" :: "is_formula_value" :: "is_formula" :: "_law_deck" :: "_law_draw" :: "_law_pick" :: "_law_matrix" :: "_law_formula" :: "_law_is_matrix" :: "_law_is_formula" :: "_law_bent" :: "_law_is_beyond" :: "law" :: []
  kws := [(6, 0, ["thing"], [0])]
  gls := []
  free := ["isinstance", "int", "bool", "tuple", "len", "str", "all", "list", "max", "range", "repr"]
def fs : List Fn := [f0, f1, f2, f3, f4, f5, f6, f7, f8, f9, f10, f11, f12, f13, f14, f15, f16]
def T : Tab := ⟨fs, fun n => (cs[n]?).map (·.2)⟩
def pr : Prog := ⟨T, ck, [p0, p1, p2, p3, p4, p5, p6, p7, p8, p9, p10, p11, p12, p13, p14, p15, p16]⟩
end K41
set_option Elab.async false
set_option linter.all false
set_option maxRecDepth 100000
set_option maxHeartbeats 0
/-! K41c: it is the text. -/
namespace K41
open PySem PySem.Spec PyProof.Rows L2 Nv
theorem chk0 : fnB ck p0 f0 = true := by decide +kernel
theorem chk1 : fnB ck p1 f1 = true := by decide +kernel
theorem chk2 : fnB ck p2 f2 = true := by decide +kernel
theorem chk3 : fnB ck p3 f3 = true := by decide +kernel
theorem chk4 : fnB ck p4 f4 = true := by decide +kernel
theorem chk5 : fnB ck p5 f5 = true := by decide +kernel
theorem chk6 : fnB ck p6 f6 = true := by decide +kernel
theorem chk7 : fnB ck p7 f7 = true := by decide +kernel
theorem chk8 : fnB ck p8 f8 = true := by decide +kernel
theorem chk9 : fnB ck p9 f9 = true := by decide +kernel
theorem chk10 : fnB ck p10 f10 = true := by decide +kernel
theorem chk11 : fnB ck p11 f11 = true := by decide +kernel
theorem chk12 : fnB ck p12 f12 = true := by decide +kernel
theorem chk13 : fnB ck p13 f13 = true := by decide +kernel
theorem chk14 : fnB ck p14 f14 = true := by decide +kernel
theorem chk15 : fnB ck p15 f15 = true := by decide +kernel
theorem chk16 : fnB ck p16 f16 = true := by decide +kernel
theorem bd0 : BdOk p0 := fun _ _ _ _ _ _ us h => match us, h with | [_], _ => rfl
theorem bd1 : BdOk p1 := fun _ _ _ _ _ _ us h => match us, h with | [_, _], _ => rfl
theorem bd2 : BdOk p2 := fun _ _ _ _ _ _ us h => match us, h with | [_, _], _ => rfl
theorem bd3 : BdOk p3 := fun _ _ _ _ _ _ us h => match us, h with | [_, _], _ => rfl
theorem bd4 : BdOk p4 := fun _ _ _ _ _ _ us h => match us, h with | [_, _], _ => rfl
theorem bd5 : BdOk p5 := fun _ _ _ _ _ _ us h => match us, h with | [_], _ => rfl
theorem bd6 : BdOk p6 := fun _ _ _ _ _ _ us h => match us, h with | [_], _ => rfl
theorem bd7 : BdOk p7 := fun _ _ _ _ _ _ us h => match us, h with | [_], _ => rfl
theorem bd8 : BdOk p8 := fun _ _ _ _ _ _ us h => match us, h with | [_, _], _ => rfl
theorem bd9 : BdOk p9 := fun _ _ _ _ _ _ us h => match us, h with | [_, _], _ => rfl
theorem bd10 : BdOk p10 := fun _ _ _ _ _ _ us h => match us, h with | [_, _, _], _ => rfl
theorem bd11 : BdOk p11 := fun _ _ _ _ _ _ us h => match us, h with | [_, _], _ => rfl
theorem bd12 : BdOk p12 := fun _ _ _ _ _ _ us h => match us, h with | [_, _, _], _ => rfl
theorem bd13 : BdOk p13 := fun _ _ _ _ _ _ us h => match us, h with | [_], _ => rfl
theorem bd14 : BdOk p14 := fun _ _ _ _ _ _ us h => match us, h with | [_, _, _], _ => rfl
theorem bd15 : BdOk p15 := fun _ _ _ _ _ _ us h => match us, h with | [_], _ => rfl
theorem bd16 : BdOk p16 := fun _ _ _ _ _ _ us h => match us, h with | [_], _ => rfl
theorem bk0 : BkOk p6 0 ["thing"] [0] := fun _ _ _ _ _ _ us ws h1 h2 => match us, ws, h1, h2 with | [], [_], _, _ => rfl
theorem ok : PrOk pr where
  chk := .cons chk0 (.cons chk1 (.cons chk2 (.cons chk3 (.cons chk4 (.cons chk5 (.cons chk6 (.cons chk7 (.cons chk8 (.cons chk9 (.cons chk10 (.cons chk11 (.cons chk12 (.cons chk13 (.cons chk14 (.cons chk15 (.cons chk16 .nil))))))))))))))))
  nm := rfl
  bd := fun a m => by
    simp only [pr, List.mem_cons, List.not_mem_nil, or_false] at m
    rcases m with rfl | rfl | rfl | rfl | rfl | rfl | rfl | rfl | rfl | rfl | rfl | rfl | rfl | rfl | rfl | rfl | rfl
    · exact bd0
    · exact bd1
    · exact bd2
    · exact bd3
    · exact bd4
    · exact bd5
    · exact bd6
    · exact bd7
    · exact bd8
    · exact bd9
    · exact bd10
    · exact bd11
    · exact bd12
    · exact bd13
    · exact bd14
    · exact bd15
    · exact bd16
  bk := fun z m a e => by
    simp only [pr, ck, List.mem_cons, List.not_mem_nil, or_false] at m
    rcases m with rfl
    · cases e; exact bk0
theorem plain : ∀ a ∈ pr.fps, PlainD a.d := fun a m => by
  simp only [pr, List.mem_cons, List.not_mem_nil, or_false] at m
  rcases m with rfl | rfl | rfl | rfl | rfl | rfl | rfl | rfl | rfl | rfl | rfl | rfl | rfl | rfl | rfl | rfl | rfl <;> exact ⟨rfl, rfl, rfl⟩
end K41
set_option Elab.async false
set_option linter.all false
set_option maxRecDepth 100000
set_option maxHeartbeats 0
/-! K41r: the head. -/
namespace K41
open PySem PySem.Spec PyProof.Rows L2 Nv
abbrev R : PySem.W.OpenRow := PySem.W.OpenLaw.row PySem.Challenge.rw_narrowplay_k41_formulas_among_any_values
abbrev hk : PySem.W.Hook := hookN ck.tk 4 (faN pr) (pr.fps.map (·.d)) cs
def ob (s : PySem.W.SharedT) : AlN := obsN ck.tk 4 (faN pr) (pr.fps.map (·.d)) cs (HandSHeadRun.getT s)
theorem ob_eq (s : PySem.W.SharedT) : ob s = hk.obs s.abs := obsN_eq (HandSHeadRun.getT_eq s)
def loose0 : List PySem.Str := ["is_integer", "is_from", "is_tuple", "is_word_of", "is_matrix_value", "is_formula_value", "is_formula", "_law_deck", "_law_draw", "_law_pick", "_law_matrix", "_law_formula", "_law_is_matrix", "_law_is_formula", "_law_bent", "_law_is_beyond"]
def loose : List PySem.Str := loose0
theorem run (w : World) : HandSHeadRun.RunEq R (PySem.W.view R.prog [20]) hk ob 4000 loose w := by
  intro os
  kernel_rfl
end K41
set_option Elab.async false
set_option linter.all false
set_option maxRecDepth 100000
set_option exponentiation.threshold 5000
/-! K41p: the looks of k41. -/
namespace K41
open PySem Nv
theorem ft : (false = true) = False := by simp
local macro_rules | `(tactic| trivial) => `(tactic| try simp only [startS, List.map_cons, List.map_nil, List.length_cons, List.length_nil, List.replicate_succ, List.replicate_zero, List.cons_append, List.nil_append, Nat.reduceAdd, Nat.reduceSub, Nat.sub_self, Nat.zero_add,
  y_n, y_c, y_ex, y_set, y_par, y_unp, y_sti, y_aug, y_ret, y_retn, y_pass, y_brk, y_cont, y_ite, pure_ap,
  x_k, x_v, x_g, x_bin, x_neg, x_cmp, x_chn, x_and, x_or, x_not, x_ite, x_tup, x_lst, x_dct, x_ix, x_sl, x_rv, x_cal, x_calk, x_bi, x_mt, x_isi, x_en, x_ec, x_on, x_os,
  List.getElem?_cons_zero, List.getElem?_cons_succ, List.set_cons_zero, List.set_cons_succ, Option.join_some, o_some, bnd_ok, bnd_bad, t_bool, t_int, t_none, pureM,
  b_add, b_sub, c_lt, c_le, c_gt, c_ge, c_eqi, c_nei, c_eqs, c_nes, fin_ret, fin_nx, exit_p, if_true, Bool.not_true, Bool.not_false, v_bi1, v_bi2, mtK, ix_t0, ix_t1, ix_t2, ix_t3, v_isi, v_len_t, v_len_s, v_len_l, st_len, isTy, decide_true, decide_false, if_false, f_c, f_0, o_int, sl_t, slv_s, k_str, setL, asg_t2, asg_t3, asg_t4, in_st, nin_st, lt_st, v_min, v_max, bind_ap, eq_self, c_eqd, c_ned, isS_s, in_flat, nin_flat, ft, c_eqf, sl_t, ct_drop1, List.drop_succ_cons, List.drop_zero, eq_l0, ne_l0])
local macro_rules | `(tactic| simp! [$ls,*]) => `(tactic| try simp only [startS, List.map_cons, List.map_nil, List.length_cons, List.length_nil, List.replicate_succ, List.replicate_zero, List.cons_append, List.nil_append, Nat.reduceAdd, Nat.reduceSub, Nat.sub_self, Nat.zero_add,
  y_n, y_c, y_ex, y_set, y_par, y_unp, y_sti, y_aug, y_ret, y_retn, y_pass, y_brk, y_cont, y_ite, pure_ap,
  x_k, x_v, x_g, x_bin, x_neg, x_cmp, x_chn, x_and, x_or, x_not, x_ite, x_tup, x_lst, x_dct, x_ix, x_sl, x_rv, x_cal, x_calk, x_bi, x_mt, x_isi, x_en, x_ec, x_on, x_os,
  List.getElem?_cons_zero, List.getElem?_cons_succ, List.set_cons_zero, List.set_cons_succ, Option.join_some, o_some, bnd_ok, bnd_bad, t_bool, t_int, t_none, pureM,
  b_add, b_sub, c_lt, c_le, c_gt, c_ge, c_eqi, c_nei, c_eqs, c_nes, fin_ret, fin_nx, exit_p, if_true, Bool.not_true, Bool.not_false, v_bi1, v_bi2, mtK, ix_t0, ix_t1, ix_t2, ix_t3, v_isi, v_len_t, v_len_s, v_len_l, st_len, isTy, decide_true, decide_false, if_false, f_c, f_0, o_int, sl_t, slv_s, k_str, setL, asg_t2, asg_t3, asg_t4, in_st, nin_st, lt_st, v_min, v_max, bind_ap, eq_self, c_eqd, c_ned, isS_s, in_flat, nin_flat, ft, c_eqf, sl_t, ct_drop1, List.drop_succ_cons, List.drop_zero, eq_l0, ne_l0, $ls,*])
local macro_rules | `(tactic| with_unfolding_all $t:tacticSeq) => `(tactic| ((first | with_reducible refine' Eq.trans (fin_cs ?ee) ?rr | with_reducible refine' Eq.trans (y_cs ?ee) ?rr); (case ee => (($t); try rfl)); try with_reducible rfl))
def isInt : PD → Bool
  | .int _ => true
  | _ => false
def from0 : PD → Bool
  | .int i => decide (0 ≤ i)
  | _ => false
def isTup (n : Int) : PD → Bool
  | .tuple ds => decide ((ds.length : Int) = n)
  | _ => false
def wordOf (w : List Nat) : PD → Bool
  | .str z => z.cps.toList.all fun c => decide (c ∈ w)
  | _ => false
theorem is_integer {d : Nat} {x : PD} {h : Hs} : callN pr.T (d + 1) 0 [.d x] h = .ok (.d (.bool (isInt x))) h := by
  rw [call_eq (fn := f0) rfl rfl]
  simp only [f0, b0]
  cases x <;> trivial <;> rfl
theorem is_from0 {d : Nat} {x : PD} {h : Hs} : callN pr.T (d + 2) 1 [.d x, .d (.int 0)] h = .ok (.d (.bool (from0 x))) h := by
  rw [call_eq (fn := f1) rfl rfl]
  simp only [f1, b1]
  simp! [is_integer]
  cases x <;> simp only [isInt] <;> trivial <;> rfl
theorem is_tuple {d : Nat} {x : PD} {n : Int} {h : Hs} : callN pr.T (d + 1) 2 [.d x, .d (.int n)] h = .ok (.d (.bool (isTup n x))) h := by
  rw [call_eq (fn := f2) rfl rfl]
  simp only [f2, b2]
  cases x <;> trivial <;> rfl
theorem is_word {d : Nat} {x : PD} {w : List Nat} {h : Hs} : callN pr.T (d + 1) 3 [.d x, .d (.str (st w))] h = .ok (.d (.bool (wordOf w x))) h := by
  rw [call_eq (fn := f3) rfl rfl]
  simp only [f3, b3]
  cases x <;> trivial <;> try rfl
  rename_i z
  rw [x_lcm (l := z.cps.toList) (g := fun c => .d (.str (st [c]))) (f := fun c => .bool (decide (c ∈ w)))]
  · trivial
    rw [v_allm]
    trivial
    rfl
  · simp only [x_sq]
    trivial
    rfl
  · intro c m
    refine ⟨_, asg_v .., ?_⟩
    simp only [b3e0, List.set_cons_succ, List.set_cons_zero]
    trivial
/-! matrices -/
def vOk (m : Nat) : PD → Bool
  | .int i => decide (0 ≤ i ∧ i < m)
  | _ => false
def mat (m : Nat) : Nat → PD → Bool
  | k + 1, .tuple [a, b] => if isS "not" a = true then mat m k b else if isS "v" a = true then vOk m b else false
  | k + 1, .tuple [a, b, c] => if (isS "and" a || isS "or" a) = true then mat m k b && mat m k c else false
  | _, _ => false
theorem mat_2 {m k : Nat} {a b : PD} : mat m (k + 1) (.tuple [a, b]) = if isS "not" a = true then mat m k b else if isS "v" a = true then vOk m b else false := by rw [mat]
theorem mat_3 {m k : Nat} {a b c : PD} : mat m (k + 1) (.tuple [a, b, c]) = if (isS "and" a || isS "or" a) = true then mat m k b && mat m k c else false := by rw [mat]
theorem mat_n {m k : Nat} {x : PD} (h2 : isTup 2 x = false) (h3 : isTup 3 x = false) : mat m k x = false := by
  cases k with
  | zero => cases x <;> rfl
  | succ k =>
    cases x with
    | tuple ds =>
      match ds with
      | [] => rfl
      | [_] => rfl
      | [_, _] => simp [isTup] at h2
      | [_, _, _] => simp [isTup] at h3
      | _ :: _ :: _ :: _ :: _ => rfl
    | _ => rfl
theorem tup_cases (x : PD) : (∃ a b, x = .tuple [a, b]) ∨ (∃ a b c, x = .tuple [a, b, c]) ∨ (isTup 2 x = false ∧ isTup 3 x = false) := by
  cases x with
  | tuple ds =>
    match ds with
    | [a, b] => exact .inl ⟨a, b, rfl⟩
    | [a, b, c] => exact .inr (.inl ⟨a, b, c, rfl⟩)
    | [] => exact .inr (.inr ⟨rfl, rfl⟩)
    | [_] => exact .inr (.inr ⟨rfl, rfl⟩)
    | _ :: _ :: _ :: _ :: l =>
      refine .inr (.inr ⟨?_, ?_⟩) <;> simp only [isTup, List.length_cons] <;> exact decide_eq_false (by omega)
  | _ => exact .inr (.inr ⟨rfl, rfl⟩)
/-- more room changes nothing -/
theorem mat_up (m : Nat) : ∀ (k : Nat) (x : PD), x.depth ≤ k → ∀ j, mat m (k + 1 + j) x = mat m (k + 1) x
  | k, x, hd, j => by
    rcases tup_cases x with ⟨a, b, rfl⟩ | ⟨a, b, c, rfl⟩ | ⟨h2, h3⟩
    · simp only [PyData.depth, PyData.depthAll] at hd
      obtain ⟨k, rfl⟩ : ∃ k', k = k' + 1 := ⟨k - 1, by omega⟩
      rw [show k + 1 + 1 + j = (k + 1 + j) + 1 by omega, mat_2, mat_2, mat_up m k b (by omega)]
    · simp only [PyData.depth, PyData.depthAll] at hd
      obtain ⟨k, rfl⟩ : ∃ k', k = k' + 1 := ⟨k - 1, by omega⟩
      rw [show k + 1 + 1 + j = (k + 1 + j) + 1 by omega, mat_3, mat_3, mat_up m k b (by omega), mat_up m k c (by omega)]
    · rw [mat_n h2 h3, mat_n h2 h3]
theorem mat_dn {m k : Nat} {x : PD} (hd : x.depth + 1 ≤ k) : mat m (k + 1) x = mat m k x := by
  have a := mat_up m x.depth x (Nat.le_refl _) (k - x.depth - 1)
  have b := mat_up m x.depth x (Nat.le_refl _) (k - x.depth)
  rw [show x.depth + 1 + (k - x.depth - 1) = k by omega] at a
  rw [show x.depth + 1 + (k - x.depth) = k + 1 by omega] at b
  rw [a, b]
theorem fin_r {fz : Bool} {h h1 : Hs} {v : Val} : fin fz h (.ok (.ret v) h1) = exitC fz h v h1 := fin_ret ..
/-- one of two -/
theorem ao (a : PD) : (([PyData.str "and", .str "or"] : List PD).any fun y => y.eqv a) = (isS "and" a || isS "or" a) := by
  have := any_str a ["and", "or"]
  simp only [List.map_cons, List.map_nil] at this
  rw [this]
  simp
theorem nao (a : PD) : (([PyData.str "not", .str "and", .str "or"] : List PD).any fun y => y.eqv a) = (isS "not" a || (isS "and" a || isS "or" a)) := by
  have := any_str a ["not", "and", "or"]
  simp only [List.map_cons, List.map_nil] at this
  rw [this]
  simp
theorem one_s {s t : Str} {a : PD} (h : isS s a = true) (n : s ≠ t) : isS t a = false := by
  rw [isS_iff] at h
  subst h
  simp [isS, n]
theorem x_whl {Γ : Nv.Ctx} (c : E) (s : Sg) (h : Hs) : (do let x ← evE Γ c s; truth x : M Bool) h = (evE Γ c s h).bnd fun x h1 => truth x h1 := rfl
theorem isT2_2 {a b : PD} : isTup 2 (.tuple [a, b]) = true := rfl
theorem isT3_2 {a b : PD} : isTup 3 (.tuple [a, b]) = false := rfl
theorem isT3_3 {a b c : PD} : isTup 3 (.tuple [a, b, c]) = true := rfl
theorem isT2_3 {a b c : PD} : isTup 2 (.tuple [a, b, c]) = false := rfl
theorem ap1 {α : Type} (l : List α) (a : α) (r : List α) : l ++ a :: r = (l ++ [a]) ++ r := by simp
/-- the pile of parts that were not looked at -/
theorem is_matrix {d m : Nat} {x : PD} {h : Hs} (hd : x.depth ≤ 29) (hw : x.weight ≤ 100000) : callN pr.T (d + 3) 4 [.d x, .d (.int m)] h = .ok (.d (.bool (mat m 30 x))) h := by
  have main : (∃ s' h', whlN (fun s1 => do let x ← evE ⟨callN pr.T (d + 2), pr.T.g⟩ b4e0 s1; truth x) (fun s1 => exSs ⟨callN pr.T (d + 2), pr.T.g⟩ b4l1 s1) rounds [some (.d x), some (.d (.int m)), some (.r h.length), none] (h ++ [.lst [.d x]]) = .ok (.nx s') h' ∧ (∃ o, h' = h ++ [o]) ∧ mat m 30 x = true)
      ∨ (∃ v h', whlN (fun s1 => do let x ← evE ⟨callN pr.T (d + 2), pr.T.g⟩ b4e0 s1; truth x) (fun s1 => exSs ⟨callN pr.T (d + 2), pr.T.g⟩ b4l1 s1) rounds [some (.d x), some (.d (.int m)), some (.r h.length), none] (h ++ [.lst [.d x]]) = .ok (.ret v) h' ∧ v = .d (.bool false) ∧ (∃ o, h' = h ++ [o]) ∧ mat m 30 x = false) := by
    refine whl_rnd (I := fun n s h' => ∃ ds part, s = [some (.d x), some (.d (.int m)), some (.r h.length), part] ∧ h' = h ++ [.lst (ds.map .d)] ∧ n = PyData.weightAll ds ∧ n ≤ 100001 ∧ (∀ d ∈ ds, d.depth ≤ 29) ∧ ds.all (mat m 30) = mat m 30 x)
      (B := fun s h' => (∃ o, h' = h ++ [o]) ∧ mat m 30 x = true) (R := fun v h' => v = .d (.bool false) ∧ (∃ o, h' = h ++ [o]) ∧ mat m 30 x = false) ?_ (x.weight + 1) rounds _ _ (rounds_big (by omega)) ⟨[x], none, rfl, rfl, by simp [PyData.weightAll], by omega, by simpa using hd, by simp⟩
    rintro n s h' ⟨ds, part, rfl, rfl, rfl, hn, dp, al⟩
    refine ⟨!ds.isEmpty, h ++ [.lst (ds.map .d)], ?_, ?_⟩
    · rw [x_whl]
      simp only [b4e0]
      simp! [l_nil, ne_lr0 at_end]
    · rcases List.eq_nil_or_concat ds with rfl | ⟨ds, y, rfl⟩
      · exact .inl ⟨rfl, ⟨_, rfl⟩, by rw [← al]; rfl⟩
      · rw [List.concat_eq_append] at dp al hn ⊢
        refine .inr ⟨by simp, ?_⟩
        have dy := dp y (by simp)
        have ll := len_wt (ds ++ [y])
        rw [List.length_append, List.length_singleton] at ll
        have hn0 := hn
        rw [wt_app] at hn
        rw [List.all_append] at al
        simp only [List.all_cons, List.all_nil, Bool.and_true] at al
        have sp : ∀ (a : List PD), (h ++ [AO.lst (((ds ++ [y]).map Val.d))]).set h.length (.lst (a.map .d)) = h ++ [.lst (a.map .d)] := fun a => set_end
        have pp : mtV .pop (.r h.length) [] (h ++ [AO.lst ((ds ++ [y]).map Val.d)]) = .ok (.d y) (h ++ [.lst (ds.map .d)]) := by
          have e := pop_r (h := h ++ [AO.lst ((ds ++ [y]).map Val.d)]) (a := h.length) (xs := ds.map .d) (y := .d y) (by rw [List.map_append]; exact at_end)
          rw [e, sp]
        have pre : ∀ (r : Ss), exSs ⟨callN pr.T (d + 2), pr.T.g⟩ (.c (.set 3 (.mt .pop (.v 2) .n)) r) [some (.d x), some (.d (.int m)), some (.r h.length), part] (h ++ [AO.lst ((ds ++ [y]).map Val.d)]) = exSs ⟨callN pr.T (d + 2), pr.T.g⟩ r [some (.d x), some (.d (.int m)), some (.r h.length), some (.d y)] (h ++ [.lst (ds.map .d)]) := fun r => by
          rw [y_cs (s1 := [some (.d x), some (.d (.int m)), some (.r h.length), some (.d y)]) (h1 := h ++ [.lst (ds.map .d)])]
          simp! [kd_l at_end]
          rw [pp]
          trivial
        simp only [b4l1]
        rw [pre]
        rcases tup_cases y with ⟨a, b, rfl⟩ | ⟨a, b, c, rfl⟩ | ⟨h2, h3⟩
        · rw [mat_2] at al
          rw [dp_2] at dy
          have db : mat m 30 b = mat m 29 b := mat_dn (by omega)
          simp! [is_tuple, isT3_2, isT2_2]
          cases c1 : isS "not" a with
          | true =>
            trivial
            simp! [kd_l at_end]
            rw [app_r at_end (by rw [List.length_map, show lim = 16777216 from by decide]; omega), set_end]
            trivial
            refine ⟨_, _, rfl, rnd_nx ⟨_, ?_, ds ++ [b], _, rfl, by rw [List.map_append]; rfl, rfl, ?_, ?_, ?_⟩⟩
            · rw [wt_app, wt_app]; simp only [PyData.weightAll, PyData.weight]; omega
            · rw [wt_app]; simp only [PyData.weightAll, PyData.weight] at hn ⊢; omega
            · intro z mz
              rcases List.mem_append.mp mz with mz | mz
              · exact dp z (by simp [mz])
              · rw [List.mem_singleton.mp mz]; omega
            · rw [← al, List.all_append, c1, if_pos rfl]; simp [db]
          | false =>
            trivial
            cases c2 : isS "v" a with
            | false =>
              trivial
              exact ⟨_, _, rfl, rnd_ret ⟨rfl, ⟨_, rfl⟩, by rw [← al, c1, c2]; simp⟩⟩
            | true =>
              simp! [is_from0]
              cases b with
              | int i =>
                simp only [from0]
                by_cases c3 : (0 : Int) ≤ i
                · simp! [decide_eq_true c3]
                  by_cases c4 : (m : Int) ≤ i
                  · simp! [decide_eq_true c4]
                    exact ⟨_, _, rfl, rnd_ret ⟨rfl, ⟨_, rfl⟩, by rw [← al, c1, c2]; simp [vOk]; intros; omega⟩⟩
                  · simp! [decide_eq_false c4]
                    refine ⟨_, _, rfl, rnd_nx ⟨_, ?_, ds, _, rfl, rfl, rfl, ?_, fun z mz => dp z (by simp [mz]), ?_⟩⟩
                    · rw [wt_app]; simp only [PyData.weightAll]; omega
                    · omega
                    · rw [← al, c1, c2]; simp [vOk]; intros; omega
                · simp! [decide_eq_false c3]
                  exact ⟨_, _, rfl, rnd_ret ⟨rfl, ⟨_, rfl⟩, by rw [← al, c1, c2]; simp [vOk]; intros; omega⟩⟩
              | _ =>
                simp only [from0]
                trivial
                exact ⟨_, _, rfl, rnd_ret ⟨rfl, ⟨_, rfl⟩, by rw [← al, c1, c2]; simp [vOk]⟩⟩
        · rw [mat_3] at al
          rw [dp_3] at dy
          have db : mat m 30 b = mat m 29 b := mat_dn (by omega)
          have dc : mat m 30 c = mat m 29 c := mat_dn (by omega)
          simp! [is_tuple, isT3_3, isT2_3]
          rw [in_flat rfl, ao]
          cases c1 : (isS "and" a || isS "or" a) with
          | true =>
            simp! [kd_l at_end]
            rw [ext_r at_end (by rw [List.length_map, show lim = 16777216 from by decide]; simp only [List.length_cons, List.length_nil]; omega), set_end]
            trivial
            refine ⟨_, _, rfl, rnd_nx ⟨_, ?_, ds ++ [b, c], _, rfl, by rw [List.map_append]; rfl, rfl, ?_, ?_, ?_⟩⟩
            · rw [wt_app, wt_app]; simp only [PyData.weightAll, PyData.weight]; omega
            · rw [wt_app]; simp only [PyData.weightAll, PyData.weight] at hn ⊢; omega
            · intro z mz
              rcases List.mem_append.mp mz with mz | mz
              · exact dp z (by simp [mz])
              · rcases List.mem_cons.mp mz with rfl | mz
                · omega
                · rw [List.mem_singleton.mp mz]; omega
            · rw [← al, List.all_append, c1, if_pos rfl]; simp [db, dc]
          | false =>
            trivial
            exact ⟨_, _, rfl, rnd_ret ⟨rfl, ⟨_, rfl⟩, by rw [← al, c1]; simp⟩⟩
        · rw [mat_n h2 h3] at al
          simp! [is_tuple, h2, h3]
          exact ⟨_, _, rfl, rnd_ret ⟨rfl, ⟨_, rfl⟩, by rw [← al]; simp⟩⟩
  rw [call_eq (fn := f4) rfl rfl]
  simp only [f4, b4]
  with_unfolding_all simp! [mkL_t]
  rcases main with ⟨s', h', e, ⟨o, rfl⟩, q⟩ | ⟨v, h', e, rfl, ⟨o, rfl⟩, q⟩
  · trivial
    rw [y_whl, e]
    trivial
    rw [exit_a, q]
  · trivial
    rw [y_whl, e]
    trivial
    rw [exit_a, q]
end K41
set_option Elab.async false
set_option linter.all false
set_option maxRecDepth 100000
set_option exponentiation.threshold 5000
/-! K41q: the looks of the law. -/
namespace K41
open PySem Nv
theorem nin3 {a : PD} {h : Hs} : cop .notin (.d a) (.d (.tuple [.str "not", .str "and", .str "or"])) h = .ok (.d (.bool (!(isS "not" a || (isS "and" a || isS "or" a))))) h := by rw [nin_flat rfl, nao]
theorem n1 : decide (("not" : Str) = "not") = true := by decide
theorem n2 : decide (("not" : Str) = "and") = false := by decide
theorem n3 : decide (("not" : Str) = "or") = false := by decide
theorem n4 : decide (("and" : Str) = "and") = true := by decide
theorem n5 : decide (("and" : Str) = "or") = false := by decide
theorem n6 : decide (("or" : Str) = "or") = true := by decide
theorem gc0 : decide (((0 : Nat) : Int) = 2) = false := by decide
theorem gc1 : decide (((1 : Nat) : Int) = 2) = false := by decide
theorem ga : decide (((0 : Nat) : Int) < 2) = true := by decide
theorem gb : decide (((1 : Nat) : Int) < 2) = true := by decide
theorem g1 : decide (((2 : Nat) : Int) < 2) = false := by decide
theorem g2 : decide (((2 : Nat) : Int) = 2) = true := by decide
theorem g3 : decide (((2 : Nat) : Int) = 3) = false := by decide
theorem g4 : decide (((3 : Nat) : Int) < 2) = false := by decide
theorem g5 : decide (((3 : Nat) : Int) = 2) = false := by decide
theorem g6 : decide (((3 : Nat) : Int) = 3) = true := by decide
theorem g7 (n : Nat) : decide (((n + 1 + 1 + 1 + 1 : Nat) : Int) < 2) = false := decide_eq_false (by omega)
theorem g8 (n : Nat) : decide (((n + 1 + 1 + 1 + 1 : Nat) : Int) = 2) = false := decide_eq_false (by omega)
theorem g9 (n : Nat) : decide (((n + 1 + 1 + 1 + 1 : Nat) : Int) = 3) = false := decide_eq_false (by omega)
local macro_rules | `(tactic| trivial) => `(tactic| try simp only [startS, List.map_cons, List.map_nil, List.length_cons, List.length_nil, List.replicate_succ, List.replicate_zero, List.cons_append, List.nil_append, Nat.reduceAdd, Nat.reduceSub, Nat.sub_self, Nat.zero_add,
  y_n, y_c, y_ex, y_set, y_par, y_unp, y_sti, y_aug, y_ret, y_retn, y_pass, y_brk, y_cont, y_ite, pure_ap,
  x_k, x_v, x_g, x_bin, x_neg, x_cmp, x_chn, x_and, x_or, x_not, x_ite, x_tup, x_lst, x_dct, x_ix, x_sl, x_rv, x_cal, x_calk, x_bi, x_mt, x_isi, x_en, x_ec, x_on, x_os,
  List.getElem?_cons_zero, List.getElem?_cons_succ, List.set_cons_zero, List.set_cons_succ, Option.join_some, o_some, bnd_ok, bnd_bad, t_bool, t_int, t_none, pureM,
  b_add, b_sub, c_lt, c_le, c_gt, c_ge, c_eqi, c_nei, c_eqs, c_nes, fin_ret, fin_nx, exit_p, if_true, Bool.not_true, Bool.not_false, v_bi1, v_bi2, mtK, ix_t0, ix_t1, ix_t2, ix_t3, v_isi, v_len_t, v_len_s, v_len_l, st_len, isTy, decide_true, decide_false, if_false, f_c, f_0, o_int, sl_t, slv_s, k_str, setL, asg_t2, asg_t3, asg_t4, in_st, nin_st, lt_st, v_min, v_max, bind_ap, eq_self, c_eqd, c_ned, isS_s, in_flat, nin_flat, ft, c_eqf, sl_t, ct_drop1, List.drop_succ_cons, List.drop_zero, eq_l0, ne_l0, l_nil, bl_ap, ga, gb, gc0, gc1, g1, g2, g3, g4, g5, g6, g7, g8, g9, nin3, isS_s, Bool.true_or, Bool.or_true, Bool.false_or, Bool.or_false, n1, n2, n3, n4, n5, n6])
local macro_rules | `(tactic| simp! [$ls,*]) => `(tactic| try simp only [startS, List.map_cons, List.map_nil, List.length_cons, List.length_nil, List.replicate_succ, List.replicate_zero, List.cons_append, List.nil_append, Nat.reduceAdd, Nat.reduceSub, Nat.sub_self, Nat.zero_add,
  y_n, y_c, y_ex, y_set, y_par, y_unp, y_sti, y_aug, y_ret, y_retn, y_pass, y_brk, y_cont, y_ite, pure_ap,
  x_k, x_v, x_g, x_bin, x_neg, x_cmp, x_chn, x_and, x_or, x_not, x_ite, x_tup, x_lst, x_dct, x_ix, x_sl, x_rv, x_cal, x_calk, x_bi, x_mt, x_isi, x_en, x_ec, x_on, x_os,
  List.getElem?_cons_zero, List.getElem?_cons_succ, List.set_cons_zero, List.set_cons_succ, Option.join_some, o_some, bnd_ok, bnd_bad, t_bool, t_int, t_none, pureM,
  b_add, b_sub, c_lt, c_le, c_gt, c_ge, c_eqi, c_nei, c_eqs, c_nes, fin_ret, fin_nx, exit_p, if_true, Bool.not_true, Bool.not_false, v_bi1, v_bi2, mtK, ix_t0, ix_t1, ix_t2, ix_t3, v_isi, v_len_t, v_len_s, v_len_l, st_len, isTy, decide_true, decide_false, if_false, f_c, f_0, o_int, sl_t, slv_s, k_str, setL, asg_t2, asg_t3, asg_t4, in_st, nin_st, lt_st, v_min, v_max, bind_ap, eq_self, c_eqd, c_ned, isS_s, in_flat, nin_flat, ft, c_eqf, sl_t, ct_drop1, List.drop_succ_cons, List.drop_zero, eq_l0, ne_l0, l_nil, bl_ap, ga, gb, gc0, gc1, g1, g2, g3, g4, g5, g6, g7, g8, g9, nin3, isS_s, Bool.true_or, Bool.or_true, Bool.false_or, Bool.or_false, n1, n2, n3, n4, n5, n6, $ls,*])
local macro_rules | `(tactic| with_unfolding_all $t:tacticSeq) => `(tactic| ((first | with_reducible refine' Eq.trans (fin_cs ?ee) ?rr | with_reducible refine' Eq.trans (y_cs ?ee) ?rr); (case ee => (($t); try rfl)); try with_reducible rfl))
theorem not_v {a : PD} (h : isS "not" a = true) : isS "v" a = false := one_s h (by decide)
theorem and_v {a : PD} (h : (isS "and" a || isS "or" a) = true) : isS "v" a = false ∧ isS "not" a = false := by
  rcases Bool.or_eq_true _ _ ▸ h with h | h
  · exact ⟨one_s h (by decide), one_s h (by decide)⟩
  · exact ⟨one_s h (by decide), one_s h (by decide)⟩
theorem v_not {a : PD} (h : isS "v" a = true) : isS "not" a = false := one_s h (by decide)
theorem not_str {s : Str} {a : PD} (h : isTy .str a = false) : isS s a = false := by cases a <;> first | rfl | simp [isTy] at h
theorem mat_nt {m k : Nat} {x : PD} (h : isTy .tuple x = false) : mat m k x = false := mat_n (by cases x <;> first | rfl | simp [isTy] at h) (by cases x <;> first | rfl | simp [isTy] at h)
/-- the parts of a matrix, one by one -/
theorem parts {d m k : Nat} {h : Hs} (ih : ∀ x, callN pr.T d 12 [.d x, .d (.int m), .d (.int ((k : Int) - 1))] h = .ok (.d (.bool (mat m k x))) h) (x : PD) (ds : List PD) :
    ∃ L : List PD, evE ⟨callN pr.T d, pr.T.g⟩ (.lc false (.v 3) (.sq (.sl false (.v 0) (.s (.k (.int 1))) .n)) (.s b12e0) (.v 3)) [some (.d (.tuple (x :: ds))), some (.d (.int m)), some (.d (.int k)), none] h = .ok (.d (.list L)) h ∧ L.isEmpty = ds.all (mat m k) := by
  rw [x_lcf (l := ds) (g := fun y => .d y) (f := id) (P := fun y => !mat m k y)]
  · refine ⟨_, rfl, ?_⟩
    rw [List.map_id]
    induction ds with
    | nil => rfl
    | cons y ds i2 =>
      rw [List.filter_cons, List.all_cons, ← i2]
      cases mat m k y <;> simp
  · simp only [x_sq]
    trivial
    rfl
  · intro y my
    refine ⟨_, asg_v .., ?_, fun _ => ?_⟩
    · simp only [b12e0, List.set_cons_succ, List.set_cons_zero]
      simp! [ih]
    · simp only [List.set_cons_succ, List.set_cons_zero]
      trivial
      rfl
theorem mat_4 {m k : Nat} {a b c e : PD} {l : List PD} : mat m k (.tuple (a :: b :: c :: e :: l)) = false := mat_n (by simp only [isTup, List.length_cons]; exact decide_eq_false (by omega)) (by simp only [isTup, List.length_cons]; exact decide_eq_false (by omega))
theorem str_or (a : PD) : (∃ z, a = .str z) ∨ (isTy .str a = false ∧ ∀ s, isS s a = false) := by
  cases a <;> first | exact .inl ⟨_, rfl⟩ | exact .inr ⟨rfl, fun _ => rfl⟩
theorem int_or (a : PD) : (∃ z, a = .int z) ∨ (∃ b, a = .bool b) ∨ isTy .int a = false := by
  cases a <;> first | exact .inl ⟨_, rfl⟩ | exact .inr (.inl ⟨_, rfl⟩) | exact .inr (.inr rfl)
theorem law_is_matrix {m : Nat} {h : Hs} : ∀ (k d : Nat) (x : PD), callN pr.T (d + k + 1) 12 [.d x, .d (.int m), .d (.int ((k : Int) - 1))] h = .ok (.d (.bool (mat m k x))) h
  | 0, d, x => by
    rw [call_eq (fn := f12) rfl rfl]
    simp only [f12, b12]
    simp! [decide_eq_true (show ((0 : Nat) : Int) - 1 < 0 by decide)]
    cases x <;> rfl
  | k + 1, d, x => by
    have ih : ∀ y, callN pr.T (d + (k + 1)) 12 [.d y, .d (.int m), .d (.int ((k : Int) - 1))] h = .ok (.d (.bool (mat m k y))) h := fun y => law_is_matrix k d y
    rw [call_eq (fn := f12) rfl rfl]
    simp only [f12, b12]
    rw [show ((k + 1 : Nat) : Int) - 1 = (k : Int) by omega]
    have nk := decide_eq_false (show ¬ (k : Int) < 0 by omega)
    cases x with
    | tuple ds =>
      match ds with
      | [] => simp! [nk]; try rfl
      | [_] => simp! [nk]; try rfl
      | [a, b] =>
        obtain ⟨L, eL, aL⟩ := parts ih a [b]
        rcases str_or a with ⟨z, rfl⟩ | ⟨h1, h2⟩
        · rw [mat_2, isS_s, isS_s]
          by_cases c1 : z = "v"
          · subst c1
            simp! [nk]
            rw [show decide (("v" : Str) = "not") = false from by decide]
            rcases int_or b with ⟨i, rfl⟩ | ⟨q, rfl⟩ | h3
            · trivial
              simp only [vOk]
              by_cases c3 : (0 : Int) ≤ i
              · by_cases c4 : i < m
                · simp! [decide_eq_true c3, decide_eq_true c4]
                  rw [decide_eq_true ⟨c3, c4⟩]
                · simp! [decide_eq_true c3, decide_eq_false c4]
                  rw [decide_eq_false fun z => c4 z.2]
              · simp! [decide_eq_false c3]
                rw [decide_eq_false fun z => c3 z.1]
            · simp! []
              try rfl
            · cases b <;> first | (simp! []; (try rfl); done) | (simp [isTy] at h3)
          · by_cases c2 : z = "not"
            · subst c2
              simp! [nk, decide_eq_false c1, show decide (("not" : Str) = "not") = true from by decide]
              simp! [eL, aL]
              try simp
            · simp! [nk, decide_eq_false c1, decide_eq_false c2]
              by_cases c3 : z = "and"
              · subst c3
                simp! [show decide (("and" : Str) = "and") = true from by decide, Bool.true_or, Bool.or_true]
                try rfl
              · by_cases c4 : z = "or"
                · subst c4
                  simp! [show decide (("or" : Str) = "or") = true from by decide, decide_eq_false c3, Bool.or_true]
                  try rfl
                · simp! [decide_eq_false c3, decide_eq_false c4, Bool.or_false]
                  try rfl
        · rw [mat_2, h2, h2]
          cases a <;> first | (simp! [nk]; (try rfl); done) | (simp [isTy] at h1)
      | [a, b, c] =>
        obtain ⟨L, eL, aL⟩ := parts ih a [b, c]
        rcases str_or a with ⟨z, rfl⟩ | ⟨h1, h2⟩
        · rw [mat_3, isS_s, isS_s]
          by_cases c1 : z = "v"
          · subst c1
            simp! [nk]
            try rfl
          · by_cases c2 : z = "not"
            · subst c2
              simp! [nk, decide_eq_false c1, show decide (("not" : Str) = "not") = true from by decide]
              try rfl
            · simp! [nk, decide_eq_false c1, decide_eq_false c2]
              by_cases c3 : z = "and"
              · subst c3
                simp! [show decide (("and" : Str) = "and") = true from by decide, Bool.true_or, Bool.or_true]
                simp! [eL, aL]
                try simp
              · by_cases c4 : z = "or"
                · subst c4
                  simp! [show decide (("or" : Str) = "or") = true from by decide, decide_eq_false c3, Bool.or_true]
                  simp! [eL, aL]
                  try simp
                · simp! [decide_eq_false c3, decide_eq_false c4, Bool.or_false]
                  try rfl
        · rw [mat_3, h2, h2]
          cases a <;> first | (simp! [nk]; (try rfl); done) | (simp [isTy] at h1)
      | a :: b :: c :: e :: l =>
        rw [mat_4]
        rcases str_or a with ⟨z, rfl⟩ | ⟨h1, h2⟩
        · by_cases c1 : z = "v"
          · subst c1
            simp! [nk]
          · by_cases c2 : z = "not"
            · subst c2
              simp! [nk, decide_eq_false c1, show decide (("not" : Str) = "not") = true from by decide]
            · simp! [nk, decide_eq_false c1, decide_eq_false c2]
              by_cases c3 : z = "and"
              · subst c3
                simp! [show decide (("and" : Str) = "and") = true from by decide, Bool.true_or, Bool.or_true]
              · by_cases c4 : z = "or"
                · subst c4
                  simp! [show decide (("or" : Str) = "or") = true from by decide, decide_eq_false c3, Bool.or_true]
                · simp! [decide_eq_false c3, decide_eq_false c4, Bool.or_false]
        · cases a <;> first | (simp! [nk]; done) | (simp [isTy] at h1)
    | _ => simp! [nk]; try rfl
/-! formulas -/
def frm : PD → Bool
  | .tuple [.str z, b] => (z.cps.toList.all fun c => decide (c ∈ [101, 97])) && mat z.length 30 b
  | _ => false
theorem frm_2 (z : Str) (b : PD) : frm (.tuple [.str z, b]) = ((z.cps.toList.all fun c => decide (c ∈ [101, 97])) && mat z.length 30 b) := by rw [frm]
theorem ea : ("ea" : Str) = st [101, 97] := by decide
theorem is_formula_value {d : Nat} {x : PD} {h : Hs} (hd : x.depth ≤ 30) (hw : x.weight ≤ 100000) : callN pr.T (d + 4) 5 [.d x] h = .ok (.d (.bool (frm x))) h := by
  rw [call_eq (fn := f5) rfl rfl]
  simp only [f5, b5]
  rcases tup_cases x with ⟨a, b, rfl⟩ | ⟨a, b, c, rfl⟩ | ⟨h2, h3⟩
  · rw [dp_2] at hd
    rw [wt_2] at hw
    have e : ∀ (m : Nat), callN pr.T (d + 3) 4 [.d b, .d (.int m)] h = .ok (.d (.bool (mat m 30 b))) h := fun m => is_matrix (d := d) (by omega) (by omega)
    simp! [is_tuple, isT2_2, ea, is_word]
    rcases str_or a with ⟨z, rfl⟩ | ⟨h1, h2⟩
    · rw [show wordOf [101, 97] (.str z) = (z.cps.toList.all fun c => decide (c ∈ [101, 97])) from rfl]
      cases q : (z.cps.toList.all fun c => decide (c ∈ [101, 97])) with
      | false =>
        trivial
        rw [frm_2, q]
        try rfl
      | true =>
        simp! [e]
        rw [frm_2, q, Bool.true_and]
        try rfl
    · cases a <;> first | (simp [isTy] at h1; done) | (simp only [wordOf]; simp! []; simp [frm]; done)
  · simp! [is_tuple, isT2_3]
    simp [frm]
  · simp! [is_tuple, h2]
    cases x <;> first | rfl | skip
    rename_i ds
    match ds with
    | [] => rfl
    | [_] => simp [frm]
    | [_, _] => simp [isTup] at h2
    | _ :: _ :: _ :: _ => simp [frm]
theorem is_formula {d : Nat} {x : PD} {h : Hs} (hd : x.depth ≤ 30) (hw : x.weight ≤ 100000) : callN pr.T (d + 5) 6 [.d x] h = .ok (.d (.bool (frm x))) h := by
  have e : callN pr.T (d + 4) 5 [.d x] h = _ := is_formula_value hd hw
  rw [call_eq (fn := f6) rfl rfl]
  simp only [f6, b6]
  simp! [e]
theorem law_is_formula {d : Nat} {x : PD} {h : Hs} (hd : x.depth ≤ 29) : callN pr.T (d + 33) 13 [.d x] h = .ok (.d (.bool (frm x))) h := by
  rw [call_eq (fn := f13) rfl rfl]
  simp only [f13, b13]
  rcases tup_cases x with ⟨a, b, rfl⟩ | ⟨a, b, c, rfl⟩ | ⟨h2, h3⟩
  · rw [dp_2] at hd
    have e : ∀ (m : Nat), callN pr.T (d + 32) 12 [.d b, .d (.int m), .d (.int 30)] h = .ok (.d (.bool (mat m 30 b))) h := fun m => by
      have := law_is_matrix (m := m) (h := h) 31 d b
      rw [mat_dn (by omega)] at this
      exact this
    rcases str_or a with ⟨z, rfl⟩ | ⟨h1, h2⟩
    · simp! [e]
      rw [x_lcf (l := z.cps.toList) (g := fun c => .d (.str (st [c]))) (f := fun c => .str (st [c])) (P := fun c => !decide (c ∈ [101, 97]))]
      · trivial
        have q : (((z.cps.toList.filter fun c => !decide (c ∈ [101, 97])).map fun c => PyData.str (st [c])).isEmpty) = z.cps.toList.all fun c => decide (c ∈ [101, 97]) := by
          induction z.cps.toList with
          | nil => rfl
          | cons y ds i2 =>
            rw [List.filter_cons, List.all_cons, ← i2]
            cases decide (y ∈ [101, 97]) <;> simp
        rw [q]
        cases q2 : (z.cps.toList.all fun c => decide (c ∈ [101, 97])) with
        | false =>
          trivial
          rw [frm_2, q2]
          try rfl
        | true =>
          simp! [e]
          rw [frm_2, q2, Bool.true_and]
          try rfl
      · simp only [x_sq]
        trivial
        rfl
      · intro c mc
        refine ⟨_, asg_v .., ?_, fun _ => ?_⟩
        · simp only [b13e0, List.set_cons_succ, List.set_cons_zero]
          simp! [ea]
        · simp only [List.set_cons_succ, List.set_cons_zero]
          trivial
    · cases a <;> first | (simp [isTy] at h1; done) | (simp! []; simp [frm]; done)
  · simp! []
    simp [frm]
  · cases x with
    | tuple ds =>
      match ds with
      | [] =>
        simp! []
        simp [frm]
      | [_] =>
        simp! []
        simp [frm]
      | [_, _] => simp [isTup] at h2
      | _ :: _ :: _ :: l =>
        simp! [decide_eq_false (show ¬ ((l.length + 1 + 1 + 1 : Nat) : Int) = 2 by omega)]
        simp [frm]
    | _ => simp! []; simp [frm]
end K41
set_option Elab.async false
set_option linter.all false
set_option maxRecDepth 100000
set_option exponentiation.threshold 5000
/-! K41s: matrices that are too large. -/
namespace K41
open PySem Nv
local macro_rules | `(tactic| trivial) => `(tactic| try simp only [startS, List.map_cons, List.map_nil, List.length_cons, List.length_nil, List.replicate_succ, List.replicate_zero, List.cons_append, List.nil_append, Nat.reduceAdd, Nat.reduceSub, Nat.sub_self, Nat.zero_add,
  y_n, y_c, y_ex, y_set, y_par, y_unp, y_sti, y_aug, y_ret, y_retn, y_pass, y_brk, y_cont, y_ite, pure_ap,
  x_k, x_v, x_g, x_bin, x_neg, x_cmp, x_chn, x_and, x_or, x_not, x_ite, x_tup, x_lst, x_dct, x_ix, x_sl, x_rv, x_cal, x_calk, x_bi, x_mt, x_isi, x_en, x_ec, x_on, x_os,
  List.getElem?_cons_zero, List.getElem?_cons_succ, List.set_cons_zero, List.set_cons_succ, Option.join_some, o_some, bnd_ok, bnd_bad, t_bool, t_int, t_none, pureM,
  b_add, b_sub, c_lt, c_le, c_gt, c_ge, c_eqi, c_nei, c_eqs, c_nes, fin_ret, fin_nx, exit_p, if_true, Bool.not_true, Bool.not_false, v_bi1, v_bi2, mtK, ix_t0, ix_t1, ix_t2, ix_t3, v_isi, v_len_t, v_len_s, v_len_l, st_len, isTy, decide_true, decide_false, if_false, f_c, f_0, o_int, sl_t, slv_s, k_str, setL, asg_t2, asg_t3, asg_t4, in_st, nin_st, lt_st, v_min, v_max, bind_ap, eq_self, c_eqd, c_ned, isS_s, ft, sl_t, ct_drop1, List.drop_succ_cons, List.drop_zero, bl_ap])
local macro_rules | `(tactic| simp! [$ls,*]) => `(tactic| try simp only [startS, List.map_cons, List.map_nil, List.length_cons, List.length_nil, List.replicate_succ, List.replicate_zero, List.cons_append, List.nil_append, Nat.reduceAdd, Nat.reduceSub, Nat.sub_self, Nat.zero_add,
  y_n, y_c, y_ex, y_set, y_par, y_unp, y_sti, y_aug, y_ret, y_retn, y_pass, y_brk, y_cont, y_ite, pure_ap,
  x_k, x_v, x_g, x_bin, x_neg, x_cmp, x_chn, x_and, x_or, x_not, x_ite, x_tup, x_lst, x_dct, x_ix, x_sl, x_rv, x_cal, x_calk, x_bi, x_mt, x_isi, x_en, x_ec, x_on, x_os,
  List.getElem?_cons_zero, List.getElem?_cons_succ, List.set_cons_zero, List.set_cons_succ, Option.join_some, o_some, bnd_ok, bnd_bad, t_bool, t_int, t_none, pureM,
  b_add, b_sub, c_lt, c_le, c_gt, c_ge, c_eqi, c_nei, c_eqs, c_nes, fin_ret, fin_nx, exit_p, if_true, Bool.not_true, Bool.not_false, v_bi1, v_bi2, mtK, ix_t0, ix_t1, ix_t2, ix_t3, v_isi, v_len_t, v_len_s, v_len_l, st_len, isTy, decide_true, decide_false, if_false, f_c, f_0, o_int, sl_t, slv_s, k_str, setL, asg_t2, asg_t3, asg_t4, in_st, nin_st, lt_st, v_min, v_max, bind_ap, eq_self, c_eqd, c_ned, isS_s, ft, sl_t, ct_drop1, List.drop_succ_cons, List.drop_zero, bl_ap, $ls,*])
local macro_rules | `(tactic| with_unfolding_all $t:tacticSeq) => `(tactic| ((first | with_reducible refine' Eq.trans (fin_cs ?ee) ?rr | with_reducible refine' Eq.trans (y_cs ?ee) ?rr); (case ee => (($t); try rfl)); try with_reducible rfl))
def isT : PD → Bool
  | .tuple _ => true
  | _ => false
def tups (i : Int) : List PD → List (List PD × Int)
  | [] => []
  | .tuple ws :: l => (ws, i) :: tups i l
  | _ :: l => tups i l
def tw (q : List (List PD × Int)) : Nat := (q.map fun p => PyData.weightAll p.1 + 1).sum
def tp (p : List PD × Int) : PD := .tuple [.tuple p.1, .int p.2]
theorem tups_eq (i : Int) : ∀ l : List PD, (l.filter fun d => isT d).map (fun d => PyData.tuple [d, .int i]) = (tups i l).map tp
  | [] => rfl
  | x :: l => by
    have ih := tups_eq i l
    rw [List.filter_cons]
    cases x <;> first | exact ih | exact congrArg (_ :: ·) ih
theorem tups_wt (i : Int) : ∀ l : List PD, tw (tups i l) ≤ PyData.weightAll l
  | [] => by simp [tw, tups]
  | x :: l => by
    have ih := tups_wt i l
    unfold tw at *
    cases x <;> simp only [tups, PyData.weightAll, List.map_cons, List.sum_cons, PyData.weight] <;> omega
theorem tw_len : ∀ q : List (List PD × Int), q.length ≤ tw q
  | [] => by simp
  | p :: q => by
    have ih := tw_len q
    unfold tw at *
    simp only [List.length_cons, List.map_cons, List.sum_cons]; omega
theorem tw_app (p q : List (List PD × Int)) : tw (p ++ q) = tw p + tw q := by unfold tw; rw [List.map_append, List.sum_append]
theorem tw_1 (y : List PD) (i : Int) : tw [(y, i)] = PyData.weightAll y + 1 := by simp [tw]
/-- any formula with a tuple for its matrix is found to be beyond or not -/
theorem is_beyond {d : Nat} {z : Str} {ds : List PD} {h : Hs} (hw : PyData.weightAll ds ≤ 100000) : ∃ b, callN pr.T (d + 1) 15 [.d (.tuple [.str z, .tuple ds])] h = .ok (.d (.bool b)) h := by
  have main : ∃ s' h', whlN (fun s1 => do let x ← evE ⟨callN pr.T d, pr.T.g⟩ b15e0 s1; truth x) (fun s1 => exSs ⟨callN pr.T d, pr.T.g⟩ b15l3 s1) rounds [some (.d (.tuple [.str z, .tuple ds])), some (.d (.int 0)), some (.d (.int 0)), some (.r h.length), none, none, none] (h ++ [.lst [.d (.tuple [.tuple ds, .int 1])]]) = .ok (.nx s') h'
      ∧ ∃ a b v3 v4 v5 v6 o, s' = [some (.d (.tuple [.str z, .tuple ds])), some (.d (.int a)), some (.d (.int b)), v3, v4, v5, v6] ∧ h' = h ++ [o] := by
    refine whl_to (I := fun n s h' => ∃ (q : List (List PD × Int)) (a b : Int) (v4 v5 v6 : Option Val), s = [some (.d (.tuple [.str z, .tuple ds])), some (.d (.int a)), some (.d (.int b)), some (.r h.length), v4, v5, v6] ∧ h' = h ++ [.lst (q.map fun p => .d (tp p))] ∧ n = tw q ∧ n ≤ 100001)
      ?_ (rounds_big (n := PyData.weightAll ds + 1) (by omega)) ⟨[(ds, 1)], 0, 0, none, none, none, rfl, rfl, (tw_1 ..).symm, by omega⟩
    rintro n s h' ⟨q, a, b, v4, v5, v6, rfl, rfl, rfl, hn⟩
    refine ⟨!q.isEmpty, h ++ [.lst (q.map fun p => .d (tp p))], ?_, ?_⟩
    · rw [x_whl]
      simp only [b15e0]
      have e := ne_lr0 (h := h ++ [.lst (q.map fun p => .d (tp p))]) (a := h.length) (ds := q.map tp) (by rw [List.map_map]; exact at_end)
      simp! [l_nil, e]
      rw [List.isEmpty_map]
    · rcases List.eq_nil_or_concat q with rfl | ⟨q, ⟨y, i⟩, rfl⟩
      · exact .inl ⟨rfl, a, b, _, _, _, _, _, rfl, rfl⟩
      · rw [List.concat_eq_append] at hn ⊢
        refine .inr ⟨by simp, ?_⟩
        rw [tw_app, tw_1] at hn ⊢
        rw [List.map_append]
        simp only [List.map_cons, List.map_nil]
        have pp : mtV .pop (.r h.length) [] (h ++ [AO.lst ((q.map fun p => Val.d (tp p)) ++ [.d (tp (y, i))])]) = .ok (.d (tp (y, i))) (h ++ [.lst (q.map fun p => .d (tp p))]) := by
          rw [pop_r at_end, set_end]
        simp only [b15l3]
        have ql := tw_len q
        have wd := wt_drop y 1
        have wy := tups_wt (i + 1) (y.drop 1)
        have lr := tw_len (tups (i + 1) (y.drop 1))
        refine ⟨_, _, ?_, tw (q ++ tups (i + 1) (y.drop 1)), ?_, q ++ tups (i + 1) (y.drop 1), a + 1, (if b < i then i else b), some (.d (.tuple y)), some (.d (.int i)), v6, rfl, rfl, rfl, ?_⟩
        · rw [y_cs (s1 := [some (.d (.tuple [.str z, .tuple ds])), some (.d (.int a)), some (.d (.int b)), some (.r h.length), some (.d (.tuple y)), some (.d (.int i)), v6]) (h1 := h ++ [.lst (q.map fun p => .d (tp p))])]
          · rw [y_cs (s1 := [some (.d (.tuple [.str z, .tuple ds])), some (.d (.int (a + 1))), some (.d (.int (if b < i then i else b))), some (.r h.length), some (.d (.tuple y)), some (.d (.int i)), v6]) (h1 := h ++ [.lst (q.map fun p => .d (tp p))])]
            · simp! [kd_l at_end]
              rw [x_lcf (l := y.drop 1) (g := fun d => .d d) (f := fun d => .tuple [d, .int (i + 1)]) (P := fun d => isT d)]
              · trivial
                rw [tups_eq, ext_l at_end, set_end]
                · trivial
                  rw [List.map_append, List.map_map]
                  rfl
                · rw [List.length_map, List.length_map, show lim = 16777216 from by decide]
                  omega
              · simp only [x_sq]
                trivial
                rfl
              · intro x mx
                refine ⟨_, asg_v .., ?_, fun _ => ?_⟩
                · simp only [b15e1, List.set_cons_succ, List.set_cons_zero]
                  cases x <;> rfl
                · simp only [b15e2, List.set_cons_succ, List.set_cons_zero]
                  trivial
            · trivial
          · simp! [kd_l at_end, pp]
            rw [show tp (y, i) = .tuple [.tuple y, .int i] from rfl]
            trivial
        · rw [tw_app]; omega
        · rw [tw_app]; omega
  obtain ⟨s', h', e, a, b, v3, v4, v5, v6, o, rfl, rfl⟩ := main
  refine ⟨decide ((8 : Int) < z.length) || (decide ((40 : Int) < a) || decide ((10 : Int) < b)), ?_⟩
  rw [call_eq (fn := f15) rfl rfl]
  simp only [f15, b15]
  with_unfolding_all simp! [mkL_t]
  rw [y_c, y_whl, e]
  trivial
  cases decide ((8 : Int) < z.length) with
  | true =>
    trivial
    rw [exit_a]
    rfl
  | false =>
    cases decide ((40 : Int) < a) with
    | true =>
      trivial
      rw [exit_a]
      rfl
    | false =>
      trivial
      rw [exit_a]
      rfl
end K41
set_option Elab.async false
set_option linter.all false
set_option maxRecDepth 100000
set_option exponentiation.threshold 5000
/-! K41t: values bent. -/
namespace K41
open PySem Nv
theorem dck : Deck pr.T 8 9 "cells" := ⟨by decide, by decide, ⟨⟨61473, 2147483629, 39373, 141, 2147483647, 52713, 283, 2147483587, 40692, 2147483563, 64⟩, by decide, rfl⟩, rfl⟩
abbrev K (F : Hs) (b : Nat) (h : Hs) : Prop := DK "cells" F b h
def r14 : Ss := match b14 with
  | .c _ r => r
  | .n => .n
def i14 : S := match b14 with
  | .c a _ => a
  | .n => .pass
local macro_rules | `(tactic| trivial) => `(tactic| try simp only [startS, List.map_cons, List.map_nil, List.length_cons, List.length_nil, List.replicate_succ, List.replicate_zero, List.cons_append, List.nil_append, Nat.reduceAdd, Nat.reduceSub, Nat.sub_self, Nat.zero_add,
  y_n, y_c, y_ex, y_set, y_par, y_unp, y_sti, y_aug, y_ret, y_retn, y_pass, y_brk, y_cont, y_ite, pure_ap,
  x_k, x_v, x_g, x_bin, x_neg, x_cmp, x_chn, x_and, x_or, x_not, x_ite, x_tup, x_lst, x_dct, x_ix, x_sl, x_rv, x_cal, x_calk, x_bi, x_mt, x_isi, x_en, x_ec, x_on, x_os,
  List.getElem?_cons_zero, List.getElem?_cons_succ, List.set_cons_zero, List.set_cons_succ, Option.join_some, o_some, bnd_ok, bnd_bad, t_bool, t_int, t_none, pureM,
  b_add, b_sub, c_lt, c_le, c_gt, c_ge, c_eqi, c_nei, c_eqs, c_nes, fin_ret, fin_nx, exit_p, if_true, Bool.not_true, Bool.not_false, v_bi1, v_bi2, mtK, ix_t0, ix_t1, ix_t2, ix_t3, v_isi, v_len_t, v_len_s, v_len_l, st_len, isTy, decide_true, decide_false, if_false, f_c, f_0, o_int, sl_t, slv_s, k_str, setL, asg_t2, asg_t3, asg_t4, in_st, nin_st, lt_st, v_min, v_max, bind_ap, eq_self, sl_s, int_ap, mkl1, mkl2, mkl3, mkl8, mkl11, mkl12, mkl14, mkd0, v_listT, rv_t, ft, bl_ap, b_bi, b_bs, v_strB, l_nil, x_dct])
local macro_rules | `(tactic| simp! [$ls,*]) => `(tactic| try simp only [startS, List.map_cons, List.map_nil, List.length_cons, List.length_nil, List.replicate_succ, List.replicate_zero, List.cons_append, List.nil_append, Nat.reduceAdd, Nat.reduceSub, Nat.sub_self, Nat.zero_add,
  y_n, y_c, y_ex, y_set, y_par, y_unp, y_sti, y_aug, y_ret, y_retn, y_pass, y_brk, y_cont, y_ite, pure_ap,
  x_k, x_v, x_g, x_bin, x_neg, x_cmp, x_chn, x_and, x_or, x_not, x_ite, x_tup, x_lst, x_dct, x_ix, x_sl, x_rv, x_cal, x_calk, x_bi, x_mt, x_isi, x_en, x_ec, x_on, x_os,
  List.getElem?_cons_zero, List.getElem?_cons_succ, List.set_cons_zero, List.set_cons_succ, Option.join_some, o_some, bnd_ok, bnd_bad, t_bool, t_int, t_none, pureM,
  b_add, b_sub, c_lt, c_le, c_gt, c_ge, c_eqi, c_nei, c_eqs, c_nes, fin_ret, fin_nx, exit_p, if_true, Bool.not_true, Bool.not_false, v_bi1, v_bi2, mtK, ix_t0, ix_t1, ix_t2, ix_t3, v_isi, v_len_t, v_len_s, v_len_l, st_len, isTy, decide_true, decide_false, if_false, f_c, f_0, o_int, sl_t, slv_s, k_str, setL, asg_t2, asg_t3, asg_t4, in_st, nin_st, lt_st, v_min, v_max, bind_ap, eq_self, sl_s, int_ap, mkl1, mkl2, mkl3, mkl8, mkl11, mkl12, mkl14, mkd0, v_listT, rv_t, ft, bl_ap, b_bi, b_bs, v_strB, l_nil, x_dct, $ls,*])
local macro_rules | `(tactic| with_unfolding_all $t:tacticSeq) => `(tactic| ((first | with_reducible refine' Eq.trans (fin_cs ?ee) ?rr | with_reducible refine' Eq.trans (y_cs ?ee) ?rr); (case ee => (($t); try rfl)); try with_reducible rfl))
theorem v_int_t {i : Int} {h : Hs} : isV .int (.d (.int i)) h = .ok (.d (.bool true)) h := rfl
theorem leaf_int {F : Hs} (hF : Fok F) {d b B p : Nat} {i : Int} (hi : i.natAbs ≤ B) (hB : B < 1000) (h7 : 7 ≤ B) {h : Hs} (k : K F b h) (hb : b < 1000000000) :
    ∃ y h', Vl (B + 1) 22 1 y ∧ K F (b + 1) h' ∧ exSs ⟨callN pr.T (d + 2), pr.T.g⟩ r14 [some (.r 1), some (.d (.int i)), some (.d (.int p)), none, none] h = .ok (.ret (.d y)) h' := by
  obtain ⟨y, h', my, k', e⟩ := dck.pick hF (d := d) (ds := [.int (i + 1), .int (i - 1), .bool (decide (i = 1)), .str (toString i), .tuple [.int i], .none, .list [.int i], .int 7]) k (by omega) (by simp) (by simp)
  refine ⟨y, h', ?_, k', ?_⟩
  · have vi : Vl (B + 1) 10 0 (.int i) := vl_int (by omega) (by omega)
    have one : Vls (B + 1) 11 0 [.int i] := vi.cons (w2 := 0) vls_nil (by omega)
    simp only [List.mem_cons, List.not_mem_nil, or_false] at my
    rcases my with rfl | rfl | rfl | rfl | rfl | rfl | rfl | rfl
    · exact (vl_int (B := B + 1) (k := 0) (by omega) (by omega)).up (by omega) (by omega) (by omega)
    · exact (vl_int (B := B + 1) (k := 0) (by omega) (by omega)).up (by omega) (by omega) (by omega)
    · exact vl_bool
    · exact vl_str (asc_num i) (Nat.le_trans (shown_int (k := 10) (by decide +kernel) (by omega)) (by decide +kernel))
    · exact (one.tup (k2 := 1) (by omega)).up (by omega) (by omega) (by omega)
    · exact vl_none
    · exact (one.lst (k2 := 1) (by omega)).up (by omega) (by omega) (by omega)
    · exact (vl_int (B := 7) (k := 0) (by decide +kernel) (by decide +kernel)).up (by omega) (by omega) (by omega)
  · simp only [r14, b14]
    have : i.natAbs.log2 < 1920 := by
      by_cases z : i.natAbs = 0
      · rw [z]; decide
      · exact Nat.lt_trans ((Nat.log2_lt z).mpr (Nat.lt_trans (show i.natAbs < 2 ^ 10 by omega) (by decide +kernel : 2 ^ 10 < 2 ^ 20))) (by decide +kernel)
    simp! [v_strI this, e]
theorem leaf_bool {F : Hs} (hF : Fok F) {d b B p : Nat} {q : Bool} (h7 : 7 ≤ B) {h : Hs} (k : K F b h) (hb : b < 1000000000) :
    ∃ y h', Vl (B + 1) 22 1 y ∧ K F (b + 1) h' ∧ exSs ⟨callN pr.T (d + 2), pr.T.g⟩ r14 [some (.r 1), some (.d (.bool q)), some (.d (.int p)), none, none] h = .ok (.ret (.d y)) h' := by
  obtain ⟨y, h', my, k', e⟩ := dck.pick hF (d := d) (ds := [.int (bi q + 1), .int (bi q - 1), .bool ((PyData.bool q).eqv (.int 1)), .str (if q then "True" else "False"), .tuple [.bool q], .none, .list [.bool q], .int 7]) k (by omega) (by simp) (by simp)
  refine ⟨y, h', ?_, k', ?_⟩
  · have vi : Vl (B + 1) 10 0 (.bool q) := vl_bool
    have one : Vls (B + 1) 11 0 [.bool q] := vi.cons (w2 := 0) vls_nil (by omega)
    simp only [List.mem_cons, List.not_mem_nil, or_false] at my
    rcases my with rfl | rfl | rfl | rfl | rfl | rfl | rfl | rfl
    · exact (vl_int (B := 7) (k := 0) (by cases q <;> decide +kernel) (by omega)).up (by omega) (by omega) (by omega)
    · exact (vl_int (B := 7) (k := 0) (by cases q <;> decide +kernel) (by omega)).up (by omega) (by omega) (by omega)
    · exact vl_bool
    · exact vl_str (by cases q <;> decide +kernel) (by cases q <;> decide +kernel)
    · exact (one.tup (k2 := 1) (by omega)).up (by omega) (by omega) (by omega)
    · exact vl_none
    · exact (one.lst (k2 := 1) (by omega)).up (by omega) (by omega) (by omega)
    · exact (vl_int (B := 7) (k := 0) (by decide +kernel) (by decide +kernel)).up (by omega) (by omega) (by omega)
  · simp only [r14, b14]
    simp! [c_eqf (y := .int 1) rfl, e]
theorem asc_lit {z : Str} (h : ascOk z = true := by decide +kernel) : ascOk z = true := h
theorem leaf_str {F : Hs} (hF : Fok F) {d b B w p : Nat} {z : Str} (hz : ascOk z = true) (hw : z.length ≤ w) (hw2 : w ≤ 900) {h : Hs} (k : K F b h) (hb : b < 1000000000) :
    ∃ y h', Vl B (w + 5) 1 y ∧ K F (b + 1) h' ∧ exSs ⟨callN pr.T (d + 2), pr.T.g⟩ r14 [some (.r 1), some (.d (.str z)), some (.d (.int p)), none, none] h = .ok (.ret (.d y)) h' := by
  obtain ⟨y, h', my, k', e⟩ := dck.pick hF (d := d) (ds := [.str (z ++ "e"), .str (L2.cutS z (some 1) none), .str (L2.cutS z none (some (-1))), .str (Txt.upper z), .str "v", .str "not", .str "and", .str "or", .str "", .tuple [.str z], .list [.str z], .int 0, .str "x", .dict []]) k (by omega) (by simp) (by simp)
  have l1 : (z ++ ("e" : Str)).length = z.length + 1 := by rw [len_app]; rfl
  refine ⟨y, h', ?_, k', ?_⟩
  · have vi : Vl B w 0 (.str z) := vl_str hz hw
    have one : Vls B (w + 1) 0 [.str z] := vi.cons (w2 := 0) vls_nil (by omega)
    simp only [List.mem_cons, List.not_mem_nil, or_false] at my
    rcases my with rfl | rfl | rfl | rfl | rfl | rfl | rfl | rfl | rfl | rfl | rfl | rfl | rfl | rfl
    · exact vl_str (strOk_app hz (by decide +kernel)) (by omega)
    · exact vl_str (asc_cut hz _ _) (by have := cutS_len z (some 1) none; omega)
    · exact vl_str (asc_cut hz _ _) (by have := cutS_len z none (some (-1)); omega)
    · exact vl_str (asc_up hz) (by rw [up_len hz]; omega)
    · exact vl_str (by decide +kernel) (Nat.le_trans (by decide +kernel : _ ≤ 5) (by omega))
    · exact vl_str (by decide +kernel) (Nat.le_trans (by decide +kernel : _ ≤ 5) (by omega))
    · exact vl_str (by decide +kernel) (Nat.le_trans (by decide +kernel : _ ≤ 5) (by omega))
    · exact vl_str (by decide +kernel) (Nat.le_trans (by decide +kernel : _ ≤ 5) (by omega))
    · exact vl_str (by decide +kernel) (Nat.le_trans (by decide +kernel : _ ≤ 5) (by omega))
    · exact (one.tup (k2 := 1) (by omega)).up (by omega) (by omega) (by omega)
    · exact (one.lst (k2 := 1) (by omega)).up (by omega) (by omega) (by omega)
    · exact ⟨by simp [gd], by simp [PyData.weight], by simp [PyData.depth]⟩
    · exact vl_str (by decide +kernel) (Nat.le_trans (by decide +kernel : _ ≤ 5) (by omega))
    · exact vl_d0 (by omega)
  · simp only [r14, b14]
    have e1 : ∀ {h : Hs}, bopL false .add (.d (.str z)) (.d (.str "e")) h = .ok (.d (.str (z ++ "e"))) h := fun {h} => by
      rw [b_str, if_pos (by rw [show ("e" : Str).length = 1 from rfl, show lim = 16777216 from by decide]; omega)]
    have e2 : ∀ {h : Hs}, mtV .upper (.d (.str z)) [] h = .ok (.d (.str (Txt.upper z))) h := v_up (by omega)
    simp! [e1, e2, List.zip_nil_left]
    simp! [e]
theorem leaf_tup {F : Hs} (hF : Fok F) {d b B w k p : Nat} {ds : List PD} (v : Vls B w k ds) (hn : ds ≠ []) (hw : w ≤ 5000) {h : Hs} (kk : K F b h) (hb : b < 1000000000) :
    ∃ y h', Vl B (2 * w + 5) (k + 2) y ∧ K F (b + 1) h' ∧ exSs ⟨callN pr.T (d + 2), pr.T.g⟩ r14 [some (.r 1), some (.d (.tuple ds)), some (.d (.int p)), none, none] h = .ok (.ret (.d y)) h' := by
  have hl := List.length_pos_iff.mpr hn
  obtain ⟨x0, e0⟩ : ∃ x, ds[0]? = some x := ⟨_, List.getElem?_eq_getElem hl⟩
  obtain ⟨x9, e9⟩ : ∃ x, ds[ds.length - 1]? = some x := ⟨_, List.getElem?_eq_getElem (by omega)⟩
  obtain ⟨y, h', my, k', e⟩ := dck.pick hF (d := d) (ds := [.list ds, .tuple (cut ds (some 1) none), .tuple (cut ds none (some (-1))), .tuple (ds ++ cut ds (some (-1)) none), .tuple ds.reverse, .tuple [.tuple ds], .tuple (ds ++ [.int 0]), .tuple [], x0, x9, .none] ++ [.tuple [.str "not", .tuple ds], .tuple [.str "and", .tuple ds], .tuple [.str "or", .tuple ds, .tuple ds]]) kk (by omega) (by simp) (by simp)
  have lw := len_wt ds
  have vw := v.w
  have vt : Vl B w (k + 1) (.tuple ds) := v.tup (Nat.le_refl _)
  refine ⟨y, h', ?_, k', ?_⟩
  · have vs : ∀ s : Str, ascOk s = true → s.length ≤ 3 → Vl B 3 (k + 1) (.str s) := fun s a l => vl_str a l
    have one : Vls B (w + 1) (k + 1) [.tuple ds] := vt.cons (w2 := 0) vls_nil (by omega)
    simp only [List.cons_append, List.nil_append, List.mem_cons, List.not_mem_nil, or_false] at my
    rcases my with rfl | rfl | rfl | rfl | rfl | rfl | rfl | rfl | rfl | rfl | rfl | rfl | rfl | rfl
    · exact (v.lst (Nat.le_refl _)).up (by omega) (by omega) (by omega)
    · exact ((v.cut _ _).tup (Nat.le_refl _)).up (by omega) (by omega) (by omega)
    · exact ((v.cut _ _).tup (Nat.le_refl _)).up (by omega) (by omega) (by omega)
    · exact ((v.app (w3 := 2 * w) (v.cut _ _) (by omega)).tup (Nat.le_refl _)).up (by omega) (by omega) (by omega)
    · exact (v.rev.tup (Nat.le_refl _)).up (by omega) (by omega) (by omega)
    · exact (one.tup (k2 := k + 2) (by omega)).up (by omega) (by omega) (by omega)
    · exact ((v.app (w3 := w + 1) (ys := [.int 0]) (w2 := 1) ⟨by simp [gds, gd], by simp [PyData.weightAll, PyData.weight], by simp [PyData.depthAll, PyData.depth]⟩ (by omega)).tup (Nat.le_refl _)).up (by omega) (by omega) (by omega)
    · exact (Vls.tup (vls_nil (B := B) (w := 0) (k := 0)) (Nat.le_refl _)).up (by omega) (by omega) (by omega)
    · exact (v.mem (List.mem_of_getElem? e0)).up (by omega) (by omega) (by omega)
    · exact (v.mem (List.mem_of_getElem? e9)).up (by omega) (by omega) (by omega)
    · exact vl_none
    · exact (((vs "not" (by decide +kernel) (by decide +kernel)).cons (w3 := w + 5) one (by omega)).tup (k2 := k + 2) (by omega)).up (by omega) (by omega) (by omega)
    · exact (((vs "and" (by decide +kernel) (by decide +kernel)).cons (w3 := w + 5) one (by omega)).tup (k2 := k + 2) (by omega)).up (by omega) (by omega) (by omega)
    · exact (((show Vl B 2 (k + 1) (.str "or") from vl_str (by decide +kernel) (by decide +kernel)).cons (w3 := 2 * w + 5) (vt.cons (w3 := 2 * w + 2) one (by omega)) (by omega)).tup (k2 := k + 2) (by omega)).up (by omega) (by omega) (by omega)
  · simp only [r14, b14]
    have hlim : lim = 16777216 := by decide
    have cl : (cut ds (some (-1)) none).length ≤ ds.length := cut_len ds _ _
    have e1 : ∀ {h : Hs}, bopL false .add (.d (.tuple ds)) (.d (.tuple (cut ds (some (-1)) none))) h = .ok (.d (.tuple (ds ++ cut ds (some (-1)) none))) h := b_tup (by omega)
    have e2 : ∀ {h : Hs}, bopL false .add (.d (.tuple ds)) (.d (.tuple [.int 0])) h = .ok (.d (.tuple (ds ++ [.int 0]))) h := b_tup (by simp only [List.length_cons, List.length_nil]; omega)
    have e3 : ∀ {h : Hs} {xs ys : List PD}, xs.length = 11 → ys.length = 3 → bopL false .add (.d (.list xs)) (.d (.list ys)) h = .ok (.d (.list (xs ++ ys))) h := fun {h xs ys} a b => b_lst (by omega)
    have e4 : ∀ {h : Hs}, ixV (.d (.tuple ds)) (.d (.int 0)) h = .ok (.d x0) h := ix_t (i := 0) e0
    have e5 : ∀ {h : Hs}, ixV (.d (.tuple ds)) (.d (.int (-1))) h = .ok (.d x9) h := ix_tl e9
    have e6 : ds.isEmpty = false := by cases ds <;> simp at hn ⊢
    simp! [ne_t0, e6, e1, e2, e4, e5]
    rw [e3 rfl rfl]
    simp only [List.cons_append, List.nil_append] at e
    trivial
    rw [e]
    trivial
theorem leaf_base {F : Hs} (hF : Fok F) {d b B p : Nat} {x : PD} (hx : isTy .int x = false ∧ isTy .str x = false ∧ (isTy .tuple x = true → x = .tuple [])) {h : Hs} (k : K F b h) (hb : b < 1000000000) :
    ∃ y h', Vl B 8 2 y ∧ K F (b + 1) h' ∧ exSs ⟨callN pr.T (d + 2), pr.T.g⟩ r14 [some (.r 1), some (.d x), some (.d (.int p)), none, none] h = .ok (.ret (.d y)) h' := by
  obtain ⟨y, h', my, k', e⟩ := dck.pick hF (d := d) (ds := [.none, .bool true, .int 0, .str "", .str "e", .tuple [.int 0], .list [], .dict [], .tuple [.str "e", .tuple [.str "v", .int 0]], .tuple [.str "v", .int 0], .tuple [.str "", .tuple [.str "v", .int 0]]]) k (by omega) (by simp) (by simp)
  refine ⟨y, h', ?_, k', ?_⟩
  · have : Vl 0 8 2 y := by
      simp only [List.mem_cons, List.not_mem_nil, or_false] at my
      rcases my with rfl | rfl | rfl | rfl | rfl | rfl | rfl | rfl | rfl | rfl | rfl <;> exact ⟨by decide +kernel, by decide +kernel, by decide +kernel⟩
    exact this.up (by omega) (by omega) (by omega)
  · simp only [r14, b14]
    cases x with
    | int => exact nomatch hx.1
    | bool => exact nomatch hx.1
    | str => exact nomatch hx.2.1
    | tuple ds =>
      cases hx.2.2 rfl
      simp! [ne_t0, List.isEmpty_nil, List.zip_nil_left]
      simp! [e]
    | _ =>
      simp! [List.zip_nil_left]
      simp! [e]
theorem leaf {F : Hs} (hF : Fok F) {B : Nat} (h7 : 7 ≤ B) (hB : B < 900) {d b w k p : Nat} {x : PD} {h : Hs} (v : Vl B w k x) (hw : w ≤ 880) (kk : K F b h) (hb : b < 1000000000) :
    ∃ y h', Vl (B + 1) (2 * w + 22) (k + 2) y ∧ K F (b + 1) h' ∧ exSs ⟨callN pr.T (d + 2), pr.T.g⟩ r14 [some (.r 1), some (.d x), some (.d (.int p)), none, none] h = .ok (.ret (.d y)) h' := by
  have base : (isTy .int x = false ∧ isTy .str x = false ∧ (isTy .tuple x = true → x = .tuple [])) → ∃ y h', Vl (B + 1) (2 * w + 22) (k + 2) y ∧ K F (b + 1) h' ∧ exSs ⟨callN pr.T (d + 2), pr.T.g⟩ r14 [some (.r 1), some (.d x), some (.d (.int p)), none, none] h = .ok (.ret (.d y)) h' := fun hx => by
    obtain ⟨y, h', a, b, c⟩ := leaf_base hF (d := d) (B := B + 1) (p := p) hx kk hb
    exact ⟨y, h', a.up (by omega) (by omega) (by omega), b, c⟩
  cases x with
  | int i =>
    have : i.natAbs ≤ B := by have := v.g; simpa [gd] using this
    obtain ⟨y, h', a, b, c⟩ := leaf_int hF (d := d) (p := p) this (by omega) h7 kk hb
    exact ⟨y, h', a.up (by omega) (by omega) (by omega), b, c⟩
  | bool q =>
    obtain ⟨y, h', a, b, c⟩ := leaf_bool hF (d := d) (p := p) (q := q) h7 kk hb
    exact ⟨y, h', a.up (by omega) (by omega) (by omega), b, c⟩
  | str z =>
    have g : ascOk z = true := by have := v.g; simpa [gd] using this
    have l : z.length ≤ w := by have := v.w; simp only [PyData.weight] at this; exact this
    obtain ⟨y, h', a, b, c⟩ := leaf_str hF (d := d) (p := p) (B := B + 1) g l (by omega) kk hb
    exact ⟨y, h', a.up (by omega) (by omega) (by omega), b, c⟩
  | tuple ds =>
    by_cases hn : ds = []
    · subst hn
      exact base ⟨rfl, rfl, fun _ => rfl⟩
    · obtain ⟨k', rfl, vs⟩ := v.tup_inv
      obtain ⟨y, h', a, b, c⟩ := leaf_tup hF (d := d) (p := p) vs hn (by omega) kk hb
      exact ⟨y, h', a.up (by omega) (by omega) (by omega), b, c⟩
  | none => exact base ⟨rfl, rfl, fun q => nomatch q⟩
  | list => exact base ⟨rfl, rfl, fun q => nomatch q⟩
  | dict => exact base ⟨rfl, rfl, fun q => nomatch q⟩
theorem fin_k {F : Hs} (hF : Fok F) {b b' : Nat} {h h' : Hs} {y : PD} (k : K F b h) (k' : K F b' h') : fin false h (.ok (.ret (.d y)) h') = .ok (.d y) h' := by
  rw [fin_ret]
  exact k.exit0 k' rfl hF
theorem split_at {ds : List PD} {i : Nat} {x : PD} (e : ds[i]? = some x) : ds = ds.take i ++ x :: ds.drop (i + 1) := by
  obtain ⟨hi, rfl⟩ := List.getElem?_eq_some_iff.mp e
  rw [← List.drop_eq_getElem_cons hi, List.take_append_drop]
/-- a value bent at a place -/
theorem bent {F : Hs} (hF : Fok F) {B : Nat} (h7 : 7 ≤ B) (hB : B < 900) : ∀ (p d b w k : Nat) (x : PD) (h : Hs), Vl B w k x → w ≤ 880 → K F b h → b + 2 * p < 900000000 →
    ∃ y h', Vl (B + 1) (2 * w + 22) (k + 2) y ∧ K F (b + 2 * p + 1) h' ∧ callN pr.T (d + p + 3) 14 [.r 1, .d x, .d (.int p)] h = .ok (.d y) h' := by
  intro p
  induction p with
  | zero =>
    intro d b w k x h v hw kk hb
    obtain ⟨y, h', a, k', e⟩ := leaf hF h7 hB (d := d) (p := 0) v hw kk (by omega)
    refine ⟨y, h', a, k', ?_⟩
    rw [call_eq (fn := f14) rfl rfl]
    simp only [f14]
    rw [show b14 = .c i14 r14 from rfl, y_cs (s1 := [some (.r 1), some (.d x), some (.d (.int ((0 : Nat) : Int))), none, none]) (h1 := h)]
    · rw [show d + 0 + 2 = d + 2 from rfl, e, fin_k hF kk k']
    · simp only [i14, b14]
      have z : decide ((0 : Int) < ((0 : Nat) : Int)) = false := by decide
      cases x with
      | tuple ds => cases ds <;> simp! [ne_t0, List.isEmpty_nil, List.isEmpty_cons, z]
      | _ => simp! []
  | succ p ih =>
    intro d b w k x h v hw kk hb
    have nt : (isTy .tuple x = true → x = .tuple []) → ∃ y h', Vl (B + 1) (2 * w + 22) (k + 2) y ∧ K F (b + 2 * (p + 1) + 1) h' ∧ callN pr.T (d + (p + 1) + 3) 14 [.r 1, .d x, .d (.int ((p + 1 : Nat) : Int))] h = .ok (.d y) h' := fun hx => by
      obtain ⟨y, h', a, k', e⟩ := leaf hF h7 hB (d := d + (p + 1)) (p := p + 1) v hw kk (by omega)
      refine ⟨y, h', a, k'.mono (by omega), ?_⟩
      rw [call_eq (fn := f14) rfl rfl]
      simp only [f14]
      rw [show b14 = .c i14 r14 from rfl, y_cs (s1 := [some (.r 1), some (.d x), some (.d (.int ((p + 1 : Nat) : Int))), none, none]) (h1 := h)]
      · rw [e, fin_k hF kk k']
      · simp only [i14, b14]
        cases x with
        | tuple ds =>
          cases hx rfl
          simp! [ne_t0, List.isEmpty_nil]
        | _ => simp! []
    cases x with
    | tuple ds =>
      by_cases hn : ds = []
      · exact nt fun _ => by rw [hn]
      · have hl := List.length_pos_iff.mpr hn
        have lw := len_wt ds
        have dw : PyData.weightAll ds ≤ w := by have := v.w; simpa only [PyData.weight] using this
        have e6 : ds.isEmpty = false := by cases ds <;> simp at hn ⊢
        obtain ⟨c, h1, hc, k1, e1⟩ := dck.draw hF (d := d + (p + 1) + 1) (m := 6) kk (by omega) (by omega) (by omega)
        have z : decide ((0 : Int) < ((p + 1 : Nat) : Int)) = true := decide_eq_true (by omega)
        by_cases c0 : c = 0
        · subst c0
          obtain ⟨y, h', a, k', e⟩ := leaf hF h7 hB (d := d + (p + 1)) (p := p + 1) v hw k1 (by omega)
          refine ⟨y, h', a, k'.mono (by omega), ?_⟩
          rw [call_eq (fn := f14) rfl rfl]
          simp only [f14]
          rw [show b14 = .c i14 r14 from rfl, y_cs (s1 := [some (.r 1), some (.d (.tuple ds)), some (.d (.int ((p + 1 : Nat) : Int))), none, none]) (h1 := h1)]
          · rw [e, fin_k hF kk k']
          · simp only [i14, b14]
            have e1 : callN pr.T (d + (p + 1) + 2) 8 [.r 1, .d (.int 6)] h = _ := e1
            simp! [ne_t0, e6, z, e1, show decide ((0 : Int) < ((0 : Nat) : Int)) = false from by decide]
        · obtain ⟨i, h2, hi, k2, e2⟩ := dck.draw hF (d := d + (p + 1) + 1) (m := ds.length) k1 (by omega) hl (by omega)
          obtain ⟨x, ex⟩ : ∃ x, ds[i]? = some x := ⟨_, List.getElem?_eq_getElem hi⟩
          obtain ⟨k', rfl, vs⟩ := v.tup_inv
          have sp := split_at ex
          have wx : Vl B x.weight k' x := ⟨(vs.mem (List.mem_of_getElem? ex)).g, Nat.le_refl _, (vs.mem (List.mem_of_getElem? ex)).d⟩
          have ww : PyData.weightAll ds = PyData.weightAll (ds.take i) + (x.weight + 1 + PyData.weightAll (ds.drop (i + 1))) := by
            conv => lhs; rw [sp]
            rw [wt_app]
            simp only [PyData.weightAll]
          obtain ⟨y, h', a, k3, e3⟩ := ih d (b + 1 + 1) x.weight k' x h2 wx (by omega) k2 (by omega)
          have a1 : Vls (B + 1) (PyData.weightAll (ds.take i)) (k' + 2) (ds.take i) := ⟨gds_mono (by omega) _ (gds_sub vs.g fun y m => List.mem_of_mem_take m), Nat.le_refl _, dp_le fun d m => Nat.le_trans (dp_mem (List.mem_of_mem_take m)) (Nat.le_trans vs.d (by omega))⟩
          have a2 : Vls (B + 1) (PyData.weightAll (ds.drop (i + 1))) (k' + 2) (ds.drop (i + 1)) := ⟨gds_mono (by omega) _ (gds_sub vs.g fun y m => List.mem_of_mem_drop m), Nat.le_refl _, dp_le fun d m => Nat.le_trans (dp_mem (List.mem_of_mem_drop m)) (Nat.le_trans vs.d (by omega))⟩
          have ay : Vls (B + 1) (2 * x.weight + 23) (k' + 2) [y] := a.cons (w2 := 0) vls_nil (by omega)
          refine ⟨.tuple (ds.take i ++ [y] ++ ds.drop (i + 1)), h', ?_, k3.mono (by omega), ?_⟩
          · have t1 := len_wt (ds.take i)
            exact ((a1.app (w3 := PyData.weightAll (ds.take i) + (2 * x.weight + 23)) ay (Nat.le_refl _)).app (w3 := 2 * w + 22) a2 (by omega)).tup (by omega)
          · rw [call_eq (fn := f14) rfl rfl]
            simp only [f14]
            rw [show b14 = .c i14 r14 from rfl]
            have e1 : callN pr.T (d + (p + 1) + 2) 8 [.r 1, .d (.int 6)] h = _ := e1
            have e2 : callN pr.T (d + (p + 1) + 2) 8 [.r 1, .d (.int ds.length)] h1 = _ := e2
            have e3 : callN pr.T (d + (p + 1) + 2) 14 [.r 1, .d x, .d (.int p)] h2 = .ok (.d y) h' := by rw [show d + (p + 1) + 2 = d + p + 3 by omega]; exact e3
            have e4 : ∀ {h : Hs}, ixV (.d (.tuple ds)) (.d (.int i)) h = .ok (.d x) h := ix_t ex
            have hlim : lim = 16777216 := by decide
            have e5 : ∀ {h : Hs}, bopL false .add (.d (.tuple (ds.take i))) (.d (.tuple [y])) h = .ok (.d (.tuple (ds.take i ++ [y]))) h := b_tup (by rw [List.length_take]; simp only [List.length_cons, List.length_nil]; omega)
            have e7 : ∀ {h : Hs}, bopL false .add (.d (.tuple (ds.take i ++ [y]))) (.d (.tuple (ds.drop (i + 1)))) h = .ok (.d (.tuple (ds.take i ++ [y] ++ ds.drop (i + 1)))) h := b_tup (by rw [List.length_append, List.length_take, List.length_drop]; simp only [List.length_cons, List.length_nil]; omega)
            have e8 : exSs ⟨callN pr.T (d + (p + 1) + 2), pr.T.g⟩ (.c i14 r14) [some (.r 1), some (.d (.tuple ds)), some (.d (.int ((p + 1 : Nat) : Int))), none, none] h = .ok (.ret (.d (.tuple (ds.take i ++ [y] ++ ds.drop (i + 1))))) h' := by
              simp only [i14, b14]
              simp! [ne_t0, e6, z, e1, show decide ((0 : Int) < (c : Int)) = true from decide_eq_true (by omega), e2, ct_take, e4]
              rw [show (((p + 1 : Nat) : Int) - 1) = (p : Int) by omega, e3]
              trivial
              rw [e5]
              trivial
              rw [show (i : Int) + 1 = ((i + 1 : Nat) : Int) by omega, ct_drop, e7]
              trivial
            exact (congrArg (fin false h) e8).trans (fin_k hF kk k3)
    | _ => exact nt fun q => nomatch q
end K41
set_option Elab.async false
set_option linter.all false
set_option maxRecDepth 100000
set_option exponentiation.threshold 5000
/-! K41u: drawn formulas. -/
namespace K41
open PySem Nv
local macro_rules | `(tactic| trivial) => `(tactic| try simp only [startS, List.map_cons, List.map_nil, List.length_cons, List.length_nil, List.replicate_succ, List.replicate_zero, List.cons_append, List.nil_append, Nat.reduceAdd, Nat.reduceSub, Nat.sub_self, Nat.zero_add,
  y_n, y_c, y_ex, y_set, y_par, y_unp, y_sti, y_aug, y_ret, y_retn, y_pass, y_brk, y_cont, y_ite, pure_ap,
  x_k, x_v, x_g, x_bin, x_neg, x_cmp, x_chn, x_and, x_or, x_not, x_ite, x_tup, x_lst, x_dct, x_ix, x_sl, x_rv, x_cal, x_calk, x_bi, x_mt, x_isi, x_en, x_ec, x_on, x_os,
  List.getElem?_cons_zero, List.getElem?_cons_succ, List.set_cons_zero, List.set_cons_succ, Option.join_some, o_some, bnd_ok, bnd_bad, t_bool, t_int, t_none, pureM,
  b_add, b_sub, c_lt, c_le, c_gt, c_ge, c_eqi, c_nei, c_eqs, c_nes, fin_ret, fin_nx, exit_p, if_true, Bool.not_true, Bool.not_false, v_bi1, v_bi2, mtK, ix_t0, ix_t1, ix_t2, ix_t3, v_isi, v_len_t, v_len_s, v_len_l, st_len, isTy, decide_true, decide_false, if_false, f_c, f_0, o_int, sl_t, slv_s, k_str, setL, asg_t2, asg_t3, asg_t4, in_st, nin_st, lt_st, v_min, v_max, bind_ap, eq_self, int_ap, mkl1, mkl2, mkl3, mkl5, ft, bl_ap, l_nil])
local macro_rules | `(tactic| simp! [$ls,*]) => `(tactic| try simp only [startS, List.map_cons, List.map_nil, List.length_cons, List.length_nil, List.replicate_succ, List.replicate_zero, List.cons_append, List.nil_append, Nat.reduceAdd, Nat.reduceSub, Nat.sub_self, Nat.zero_add,
  y_n, y_c, y_ex, y_set, y_par, y_unp, y_sti, y_aug, y_ret, y_retn, y_pass, y_brk, y_cont, y_ite, pure_ap,
  x_k, x_v, x_g, x_bin, x_neg, x_cmp, x_chn, x_and, x_or, x_not, x_ite, x_tup, x_lst, x_dct, x_ix, x_sl, x_rv, x_cal, x_calk, x_bi, x_mt, x_isi, x_en, x_ec, x_on, x_os,
  List.getElem?_cons_zero, List.getElem?_cons_succ, List.set_cons_zero, List.set_cons_succ, Option.join_some, o_some, bnd_ok, bnd_bad, t_bool, t_int, t_none, pureM,
  b_add, b_sub, c_lt, c_le, c_gt, c_ge, c_eqi, c_nei, c_eqs, c_nes, fin_ret, fin_nx, exit_p, if_true, Bool.not_true, Bool.not_false, v_bi1, v_bi2, mtK, ix_t0, ix_t1, ix_t2, ix_t3, v_isi, v_len_t, v_len_s, v_len_l, st_len, isTy, decide_true, decide_false, if_false, f_c, f_0, o_int, sl_t, slv_s, k_str, setL, asg_t2, asg_t3, asg_t4, in_st, nin_st, lt_st, v_min, v_max, bind_ap, eq_self, int_ap, mkl1, mkl2, mkl3, mkl5, ft, bl_ap, l_nil, $ls,*])
local macro_rules | `(tactic| with_unfolding_all $t:tacticSeq) => `(tactic| ((first | with_reducible refine' Eq.trans (fin_cs ?ee) ?rr | with_reducible refine' Eq.trans (y_cs ?ee) ?rr); (case ee => (($t); try rfl)); try with_reducible rfl))
theorem x_draw {F : Hs} (hF : Fok F) {d b m : Nat} {h : Hs} (k : K F b h) (hb : b < 1000000000) (h0 : 0 < m) (h1 : m < 1000) :
    ∃ (v : Nat) (h' : Hs), v < m ∧ K F (b + 1) h' ∧ callN pr.T (d + 1) 8 [.r 1, .d (.int m)] h = .ok (.d (.int v)) h' := dck.draw hF k (by omega) h0 (by omega)
/-- a drawn matrix -/
theorem matrix {F : Hs} (hF : Fok F) {m : Nat} (hm : 0 < m) (hm2 : m ≤ 8) : ∀ (p d b : Nat) (h : Hs), K F b h → b + (4 * 2 ^ p - 2) < 1000000000 →
    ∃ ds h', Vls 8 (24 * 2 ^ p - 6) p ds ∧ K F (b + (4 * 2 ^ p - 2)) h' ∧ callN pr.T (d + p + 3) 10 [.r 1, .d (.int m), .d (.int p)] h = .ok (.d (.tuple ds)) h' := by
  intro p
  have vs : ∀ (s : Str), ascOk s = true → s.length ≤ 3 → ∀ k, Vl 8 3 k (.str s) := fun s a l k => vl_str a l
  have leafv : ∀ (d b p : Nat) (h h1 : Hs) (w : Nat) (tb : Bool), K F b h → K F (b + 1) h1 → b + 2 < 1000000000 → (tb = true → True) →
      ∃ ds h', Vls 8 18 0 ds ∧ K F (b + 1 + 1) h' ∧ callN pr.T (d + 2) 8 [.r 1, .d (.int m)] h1 = .ok (.d (.int (match ds with | [_, .int i] => i | _ => 0))) h' ∧ ∃ i, ds = [.str "v", .int i] := by
    intro d b p h h1 w tb k k1 hb _
    obtain ⟨v, h2, hv, k2, e2⟩ := x_draw hF (d := d + 1) k1 (by omega) hm (by omega)
    refine ⟨[.str "v", .int v], h2, ?_, k2, e2, _, rfl⟩
    have a1 : Vls 8 11 0 [.int (v : Int)] := (vl_int (B := 8) (k := 0) (i := v) (by omega) (by omega)).cons (w2 := 0) vls_nil (by omega)
    exact (vs "v" (by decide +kernel) (by decide +kernel) 0).cons a1 (by omega)
  induction p with
  | zero =>
    intro d b h k hb
    obtain ⟨c, h1, hc, k1, e1⟩ := x_draw hF (d := d + 1) (m := 6) k (by omega) (by omega) (by omega)
    obtain ⟨ds, h2, vd, k2, e2, i, rfl⟩ := leafv d b 0 h h1 0 true k k1 (by omega) (fun _ => trivial)
    refine ⟨_, h2, vd.up (by omega) (by omega) (by omega), k2.mono (by omega), ?_⟩
    have e1 : callN pr.T (d + 0 + 2) 8 [.r 1, .d (.int 6)] h = _ := e1
    have e2 : callN pr.T (d + 0 + 2) 8 [.r 1, .d (.int m)] h1 = _ := e2
    rw [call_eq (fn := f10) rfl rfl]
    refine Eq.trans (congrArg (fin false h) (?_ : _ = .ok (.ret (.d (.tuple [.str "v", .int i]))) h2)) (fin_k hF k k2)
    simp only [f10, b10]
    simp! [e1, e2, show decide (((0 : Nat) : Int) = 0) = true from by decide]
  | succ p ih =>
    intro d b h k hb
    have h2p : 2 ^ (p + 1) = 2 * 2 ^ p := Nat.pow_succ' ..
    have hp : 0 < 2 ^ p := Nat.two_pow_pos p
    rw [h2p] at hb ⊢
    generalize 2 ^ p = P at *
    obtain ⟨c, h1, hc, k1, e1⟩ := x_draw hF (d := d + (p + 1) + 1) (m := 6) k (by omega) (by omega) (by omega)
    have e1 : callN pr.T (d + (p + 1) + 2) 8 [.r 1, .d (.int 6)] h = _ := e1
    have z : decide (((p + 1 : Nat) : Int) = 0) = false := decide_eq_false (by omega)
    have dn : ((p + 1 : Nat) : Int) - 1 = (p : Int) := by omega
    by_cases c0 : c = 0
    · subst c0
      obtain ⟨ds, h2, vd, k2, e2, i, rfl⟩ := leafv (d + (p + 1)) b 0 h h1 0 true k k1 (by omega) (fun _ => trivial)
      refine ⟨_, h2, vd.up (by omega) (by omega) (by omega), k2.mono (by omega), ?_⟩
      rw [call_eq (fn := f10) rfl rfl]
      refine Eq.trans (congrArg (fin false h) (?_ : _ = .ok (.ret (.d (.tuple [.str "v", .int i]))) h2)) (fin_k hF k k2)
      simp only [f10, b10]
      simp! [e1, e2, z, show decide (((0 : Nat) : Int) = 0) = true from by decide]
    · by_cases c1 : c = 1
      · subst c1
        obtain ⟨ds, h2, vd, k2, e2⟩ := ih d (b + 1) h1 k1 (by omega)
        have e2 : callN pr.T (d + (p + 1) + 2) 10 [.r 1, .d (.int m), .d (.int p)] h1 = .ok (.d (.tuple ds)) h2 := by rw [show d + (p + 1) + 2 = d + p + 3 by omega]; exact e2
        refine ⟨[.str "not", .tuple ds], h2, ?_, k2.mono (by omega), ?_⟩
        · have a1 : Vls 8 (24 * P - 6 + 1) (p + 1) [.tuple ds] := (vd.tup (Nat.le_refl _)).cons (w2 := 0) vls_nil (by omega)
          exact (vs "not" (by decide +kernel) (by decide +kernel) _).cons a1 (by omega)
        · rw [call_eq (fn := f10) rfl rfl]
          refine Eq.trans (congrArg (fin false h) (?_ : _ = .ok (.ret (.d (.tuple [.str "not", .tuple ds]))) h2)) (fin_k hF k k2)
          simp only [f10, b10]
          simp! [e1, z, show decide (((1 : Nat) : Int) = 0) = false from by decide, show decide (((1 : Nat) : Int) = 1) = true from by decide]
          rw [dn, e2]
          trivial
      · obtain ⟨s, h2, ms, k2, e2⟩ := dck.pick hF (d := d + (p + 1)) (ds := [.str "and", .str "or"]) k1 (by omega) (by simp) (by simp)
        obtain ⟨ds, h3, vd, k3, e3⟩ := ih d (b + 1 + 1) h2 k2 (by omega)
        obtain ⟨es, h4, ve, k4, e4⟩ := ih d (b + 1 + 1 + (4 * P - 2)) h3 k3 (by omega)
        have e3 : callN pr.T (d + (p + 1) + 2) 10 [.r 1, .d (.int m), .d (.int p)] h2 = .ok (.d (.tuple ds)) h3 := by rw [show d + (p + 1) + 2 = d + p + 3 by omega]; exact e3
        have e4 : callN pr.T (d + (p + 1) + 2) 10 [.r 1, .d (.int m), .d (.int p)] h3 = .ok (.d (.tuple es)) h4 := by rw [show d + (p + 1) + 2 = d + p + 3 by omega]; exact e4
        have sv : Vl 8 3 (p + 1) s := by
          simp only [List.mem_cons, List.not_mem_nil, or_false] at ms
          rcases ms with rfl | rfl <;> exact vl_str (by decide +kernel) (by decide +kernel)
        refine ⟨[s, .tuple ds, .tuple es], h4, ?_, k4.mono (by omega), ?_⟩
        · have a1 : Vls 8 (24 * P - 6 + 1) (p + 1) [.tuple es] := (ve.tup (Nat.le_refl _)).cons (w2 := 0) vls_nil (by omega)
          have a2 : Vls 8 (48 * P - 12 + 2) (p + 1) [.tuple ds, .tuple es] := (vd.tup (Nat.le_refl _)).cons a1 (by omega)
          exact sv.cons a2 (by omega)
        · rw [call_eq (fn := f10) rfl rfl]
          refine Eq.trans (congrArg (fin false h) (?_ : _ = .ok (.ret (.d (.tuple [s, .tuple ds, .tuple es]))) h4)) (fin_k hF k k4)
          simp only [f10, b10]
          simp! [e1, z, show decide ((c : Int) = 0) = false from decide_eq_false (by omega), show decide ((c : Int) = 1) = false from decide_eq_false (by omega), e2]
          rw [dn, e3]
          trivial
          rw [e4]
          trivial
theorem pw (p : Nat) (h : p ≤ 4) : 2 ^ p ≤ 16 := by
  match p, h with
  | 0, _ | 1, _ | 2, _ | 3, _ | 4, _ => decide
/-- a drawn formula -/
theorem formula {F : Hs} (hF : Fok F) {d b : Nat} {h : Hs} (k : K F b h) (hb : b < 100000000) :
    ∃ (l : List Nat) (ds : List PD) (h' : Hs), (l.length ≤ 8 ∧ ∀ c ∈ l, c < 128) ∧ Vls 8 400 4 ds ∧ K F (b + 100) h' ∧ callN pr.T (d + 8) 11 [.r 1, .d (.int 8)] h = .ok (.d (.tuple [.str (st l), .tuple ds])) h' := by
  obtain ⟨n, h1, hn, k1, e1⟩ := x_draw hF (d := d + 6) (m := 8) k (by omega) (by omega) (by omega)
  obtain ⟨q, h2, e2, k2, ml, ql⟩ := lc_inv (β := Nat) (f := fun c => .d (.str (st [c]))) (t := .v 3) (c := fun s1 => evC ⟨callN pr.T (d + 7), pr.T.g⟩ .n s1) (e := fun s1 => evE ⟨callN pr.T (d + 7), pr.T.g⟩ b11e0 s1) (s := [some (.r 1), some (.d (.int 8)), none, none])
    (I := fun its q h => K F (b + 1 + (n + 1 - its.length)) h ∧ (∀ c ∈ q, c < 128) ∧ q.length + its.length = n + 1)
    (fun x r q h ⟨k, mq, lq⟩ => by
      simp only [List.length_cons] at k lq
      obtain ⟨c, h', mc, k', e⟩ := dck.pickS hF (d := d + 5) (l := [101, 97]) k (by omega) (by simp) (by simp)
      refine ⟨_, h, c, h', asg_v .., x_cn, ?_, k'.mono (by omega), ?_, by rw [List.length_append]; simp only [List.length_cons, List.length_nil]; omega⟩
      · simp only [b11e0, List.set_cons_succ, List.set_cons_zero]
        have e : callN pr.T (d + 7) 9 [.r 1, .d (.str (st [101, 97]))] h = _ := e
        simp! [ea, e]
      · intro y my
        rcases List.mem_append.mp my with my | my
        · exact mq y my
        · rw [List.mem_singleton.mp my]
          simp only [List.mem_cons, List.not_mem_nil, or_false] at mc
          rcases mc with rfl | rfl <;> decide) (rangeI 0 (n + 1) 1) [] h1 ⟨k1.mono (by omega), (fun _ m => nomatch m), by unfold rangeI; simp⟩
  rw [List.nil_append] at ml ql
  simp only [List.length_nil, Nat.add_zero, Nat.sub_zero] at k2 ql
  obtain ⟨c, h3, mc, k3, e3⟩ := dck.pickM hF (d := d + 5) (l := [0, 2, 3, 3, 4]) (f := fun i : Nat => PyData.int i) k2 (by omega) (by simp) (by simp)
  have hc : c ≤ 4 := by
    simp only [List.mem_cons, List.not_mem_nil, or_false] at mc
    omega
  have hp := pw c hc
  obtain ⟨ds, h4, vd, k4, e4⟩ := matrix hF (m := q.length) (by omega) (by omega) c (d + 4 - c) (b + 1 + (n + 1) + 1) h3 k3 (by omega)
  refine ⟨q, ds, h4, ⟨by omega, ml⟩, vd.up (by omega) (by omega) (by omega), k4.mono (by omega), ?_⟩
  have e1 : callN pr.T (d + 7) 8 [.r 1, .d (.int 8)] h = _ := e1
  have e3 : callN pr.T (d + 7) 9 [.r 1, .d (.list [.int 0, .int 2, .int 3, .int 3, .int 4])] h2 = .ok (.d (.int c)) h3 := e3
  have e4 : callN pr.T (d + 7) 10 [.r 1, .d (.int q.length), .d (.int c)] h3 = .ok (.d (.tuple ds)) h4 := by rw [show d + 7 = d + 4 - c + c + 3 by omega]; exact e4
  rw [call_eq (fn := f11) rfl rfl]
  refine Eq.trans (congrArg (fin false h) (?_ : _ = .ok (.ret (.d (.tuple [.str (st q), .tuple ds]))) h4)) (fin_k hF k k4)
  simp only [f11, b11]
  simp! [k_str, x_lc, x_rg, e1]
  rw [show (1 : Int) + (n : Int) = ((n + 1 : Nat) : Int) by omega, rg_1 (n + 1) (by rw [show lim = 16777216 from by decide]; omega)]
  simp only [bnd_ok, items_src, live_src]
  rw [e2]
  trivial
  rw [show (q.map fun c => Val.d (.str (st [c]))) = (sg q).map .d by unfold sg; rw [List.map_map]; rfl, mkL_d]
  trivial
  rw [join_sg (by rw [show lim = 16777216 from by decide]; omega)]
  trivial
  simp! [e3, e4]
end K41
set_option Elab.async false
set_option linter.all false
set_option maxRecDepth 100000
set_option exponentiation.threshold 5000
/-! K41v: the law. -/
namespace K41
open PySem Nv
local macro_rules | `(tactic| trivial) => `(tactic| try simp only [startS, List.map_cons, List.map_nil, List.length_cons, List.length_nil, List.replicate_succ, List.replicate_zero, List.cons_append, List.nil_append, Nat.reduceAdd, Nat.reduceSub, Nat.sub_self, Nat.zero_add,
  y_n, y_c, y_ex, y_set, y_par, y_unp, y_sti, y_aug, y_ret, y_retn, y_pass, y_brk, y_cont, y_ite, pure_ap,
  x_k, x_v, x_g, x_bin, x_neg, x_cmp, x_chn, x_and, x_or, x_not, x_ite, x_tup, x_lst, x_dct, x_ix, x_sl, x_rv, x_cal, x_calk, x_bi, x_mt, x_isi, x_en, x_ec, x_on, x_os,
  List.getElem?_cons_zero, List.getElem?_cons_succ, List.set_cons_zero, List.set_cons_succ, Option.join_some, o_some, bnd_ok, bnd_bad, t_bool, t_int, t_none, pureM,
  b_add, b_sub, c_lt, c_le, c_gt, c_ge, c_eqi, c_nei, c_eqs, c_nes, fin_ret, fin_nx, exit_p, if_true, Bool.not_true, Bool.not_false, v_bi1, v_bi2, mtK, ix_t0, ix_t1, ix_t2, ix_t3, v_isi, v_len_t, v_len_s, v_len_l, st_len, isTy, decide_true, decide_false, if_false, f_c, f_0, o_int, sl_t, slv_s, k_str, setL, asg_t2, asg_t3, asg_t4, in_st, nin_st, lt_st, v_min, v_max, bind_ap, eq_self, int_ap, mkl1, mkl2, mkl3, mkl5, ft, bl_ap, l_nil, rv_t])
local macro_rules | `(tactic| simp! [$ls,*]) => `(tactic| try simp only [startS, List.map_cons, List.map_nil, List.length_cons, List.length_nil, List.replicate_succ, List.replicate_zero, List.cons_append, List.nil_append, Nat.reduceAdd, Nat.reduceSub, Nat.sub_self, Nat.zero_add,
  y_n, y_c, y_ex, y_set, y_par, y_unp, y_sti, y_aug, y_ret, y_retn, y_pass, y_brk, y_cont, y_ite, pure_ap,
  x_k, x_v, x_g, x_bin, x_neg, x_cmp, x_chn, x_and, x_or, x_not, x_ite, x_tup, x_lst, x_dct, x_ix, x_sl, x_rv, x_cal, x_calk, x_bi, x_mt, x_isi, x_en, x_ec, x_on, x_os,
  List.getElem?_cons_zero, List.getElem?_cons_succ, List.set_cons_zero, List.set_cons_succ, Option.join_some, o_some, bnd_ok, bnd_bad, t_bool, t_int, t_none, pureM,
  b_add, b_sub, c_lt, c_le, c_gt, c_ge, c_eqi, c_nei, c_eqs, c_nes, fin_ret, fin_nx, exit_p, if_true, Bool.not_true, Bool.not_false, v_bi1, v_bi2, mtK, ix_t0, ix_t1, ix_t2, ix_t3, v_isi, v_len_t, v_len_s, v_len_l, st_len, isTy, decide_true, decide_false, if_false, f_c, f_0, o_int, sl_t, slv_s, k_str, setL, asg_t2, asg_t3, asg_t4, in_st, nin_st, lt_st, v_min, v_max, bind_ap, eq_self, int_ap, mkl1, mkl2, mkl3, mkl5, ft, bl_ap, l_nil, rv_t, $ls,*])
local macro_rules | `(tactic| with_unfolding_all $t:tacticSeq) => `(tactic| ((first | with_reducible refine' Eq.trans (fin_cs ?ee) ?rr | with_reducible refine' Eq.trans (y_cs ?ee) ?rr); (case ee => (($t); try rfl)); try with_reducible rfl))
theorem frm_n {x : PD} (h2 : isTup 2 x = false) : frm x = false := by
  cases x with
  | tuple ds =>
    match ds with
    | [] => rfl
    | [_] => simp [frm]
    | [_, _] => simp [isTup] at h2
    | _ :: _ :: _ :: _ => simp [frm]
  | _ => rfl
theorem frm_inv {x : PD} (q : frm x = true) : ∃ z b, x = .tuple [.str z, b] := by
  rcases tup_cases x with ⟨a, b, rfl⟩ | ⟨a, b, c, rfl⟩ | ⟨h2, h3⟩
  · rcases str_or a with ⟨z, rfl⟩ | ⟨h1, _⟩
    · exact ⟨z, b, rfl⟩
    · have : frm (.tuple [a, b]) = false := by cases a <;> first | (simp [isTy] at h1; done) | simp [frm]
      rw [this] at q
      cases q
  · rw [frm_n rfl] at q
    cases q
  · rw [frm_n h2] at q
    cases q
/-- what is right of each value -/
theorem round {d : Nat} {x : PD} (v : Vl 10 1706 10 x) {v0 v1 v2 v3 v4 v5 v7 v8 : Option Val} {h : Hs} :
    ∃ v7' v8' f, (f = .nx [v0, v1, v2, v3, v4, v5, some (.d x), v7', v8'] ∨ f = .ct [v0, v1, v2, v3, v4, v5, some (.d x), v7', v8']) ∧ exSs ⟨callN pr.T (d + 39), pr.T.g⟩ b16l1 [v0, v1, v2, v3, v4, v5, some (.d x), v7, v8] h = .ok f h := by
  have e1 : ∀ {h : Hs}, bi1 .repr false (.d x) h = .ok (.d (.str x.shown)) h := v.repr (by decide) (by decide) (by decide)
  have e2 : ∀ {h : Hs}, callN pr.T (d + 39) 13 [.d x] h = .ok (.d (.bool (frm x))) h := fun {h} => law_is_formula (d := d + 6) (Nat.le_trans v.d (by decide))
  have e3 : ∀ {h : Hs}, callN pr.T (d + 39) 6 [.d x] h = .ok (.d (.bool (frm x))) h := fun {h} => is_formula (d := d + 34) (Nat.le_trans v.d (by decide)) (Nat.le_trans v.w (by decide))
  have vt := v.text (by decide) 0
  have v2 : ∀ q : Bool, Vl 10 (15 * 1706 + 13 + 3) 1 (.tuple [.bool q, .bool q, .str x.shown]) := fun q =>
    ((vl_bool (w := 0)).cons (w3 := 15 * 1706 + 13 + 3) ((vl_bool (w := 0)).cons (w3 := 15 * 1706 + 13 + 2) (vt.cons (w2 := 0) (w3 := 15 * 1706 + 13 + 1) vls_nil (by omega)) (by omega)) (by omega)).tup (by omega)
  have e4 : ∀ {q : Bool} {h : Hs}, bi1 .repr false (.d (.tuple [.bool q, .bool q, .str x.shown])) h = .ok (.d (.str (PyData.tuple [.bool q, .bool q, .str x.shown]).shown)) h := fun {q h} => (v2 q).repr (by decide) (by decide) (by decide)
  have fm : ([0].filterMap fun j => ([Val.d x] : List Val)[j]?) = [Val.d x] := rfl
  simp only [b16l1]
  cases q : frm x with
  | false =>
    rw [q] at e2 e3
    refine ⟨some (.d (.str x.shown)), some (.d (.bool false)), _, .inl rfl, ?_⟩
    simp! [e1, e2]
    simp! [e3, fm, e1]
    simp! [e4]
  | true =>
    rw [q] at e2 e3
    obtain ⟨z, b, rfl⟩ := frm_inv q
    have hb : ∃ ds, b = .tuple ds := by
      rw [frm_2, Bool.and_eq_true] at q
      cases b <;> first | exact ⟨_, rfl⟩ | (have := q.2; rw [mat_nt rfl] at this; cases this)
    obtain ⟨ds, rfl⟩ := hb
    obtain ⟨y, ey⟩ := is_beyond (d := d + 38) (z := z) (ds := ds) (h := h) (by have := v.w; rw [wt_2] at this; simp only [PyData.weight] at this; omega)
    have ey : callN pr.T (d + 39) 15 [.d (.tuple [.str z, .tuple ds])] h = _ := ey
    cases y with
    | true =>
      refine ⟨some (.d (.str (PyData.tuple [.str z, .tuple ds]).shown)), some (.d (.bool true)), _, .inr rfl, ?_⟩
      simp! [e1, e2, ey]
    | false =>
      refine ⟨some (.d (.str (PyData.tuple [.str z, .tuple ds]).shown)), some (.d (.bool true)), _, .inl rfl, ?_⟩
      simp! [e1, e2, ey]
      simp! [e3, fm, e1]
      simp! [e4]
def gF (L : List (List PD)) : Hs := L.map fun ds => .lst (ds.map Val.d)
theorem gF_ok (L : List (List PD)) : Fok (gF L) := fun o m => by
  obtain ⟨ds, _, rfl⟩ := List.mem_map.mp m
  exact objOk_d
theorem gF_app (L : List (List PD)) (ds : List PD) : gF L ++ [.lst (ds.map .d)] = gF (L ++ [ds]) := by simp [gF]
theorem gF_len (L : List (List PD)) : (gF L).length = L.length := List.length_map ..
theorem gF_set (L : List (List PD)) (ds es : List PD) : (gF (L ++ [ds])).set L.length (.lst (es.map .d)) = gF (L ++ [es]) := by
  rw [← gF_app, ← gF_app, ← gF_len L, set_end]
theorem K_at {L : List (List PD)} {ds : List PD} {b : Nat} {h : Hs} (k : K (gF (L ++ [ds])) b h) : h[L.length + 2]? = some (.lst (ds.map .d)) := by
  rw [k.at_, ← gF_app, ← gF_len L, at_end]
theorem things {d b : Nat} {L : List (List PD)} {x : PD} (v : Vl 8 410 6 x) {v0 v2 v5 v6 v7 v8 : Option Val} {ds : List PD} (vd : ∀ y ∈ ds, Vl 10 1706 10 y) (hl : ds.length ≤ 100) {h : Hs} (k : K (gF (L ++ [ds])) b h) (hb : b < 100000000) :
    ∃ es h' w5 w6, (∀ y ∈ es, Vl 10 1706 10 y) ∧ es.length ≤ 200 ∧ K (gF (L ++ [es])) (b + 1000) h' ∧ exS ⟨callN pr.T (d + 39), pr.T.g⟩ (.fr (.v 5) (.rg (.c (.k (.int 6)) .n)) b16l0) [v0, some (.r 1), v2, some (.d x), some (.r (L.length + 2)), v5, v6, v7, v8] h = .ok (.nx [v0, some (.r 1), v2, some (.d x), some (.r (L.length + 2)), w5, w6, v7, v8]) h' := by
  obtain ⟨s', h', e, es, b', w5, w6, rfl, k', ve, le, lb⟩ := fr_inv (t := .v 5) (b := fun s1 => exSs ⟨callN pr.T (d + 39), pr.T.g⟩ b16l0 s1)
    (I := fun its s h => ∃ es b' w5 w6, s = [v0, some (.r 1), v2, some (.d x), some (.r (L.length + 2)), w5, w6, v7, v8] ∧ K (gF (L ++ [es])) b' h ∧ (∀ y ∈ es, Vl 10 1706 10 y) ∧ es.length + its.length ≤ ds.length + 6 ∧ b' + 100 * its.length ≤ b + 600)
    (fun i r s h ⟨es, b', w5, w6, es_, k, ve, le, lb⟩ => by
      subst es_
      simp only [List.length_cons] at le lb
      obtain ⟨y, h1, vy, k1, e1⟩ := bent (gF_ok _) (B := 8) (by decide) (by decide) 6 (d + 30) b' 410 6 x h v (by decide) k (by omega)
      have e1 : callN pr.T (d + 39) 14 [.r 1, .d x, .d (.int 6)] h = _ := e1
      obtain ⟨c, h2, hc, k2, e2⟩ := x_draw (gF_ok _) (d := d + 38) (m := 4) k1 (by omega) (by omega) (by omega)
      have e2 : callN pr.T (d + 39) 8 [.r 1, .d (.int 4)] h1 = _ := e2
      have main : ∃ z h3, Vl 10 1706 10 z ∧ K (gF (L ++ [es])) (b' + 50) h3 ∧ evE ⟨callN pr.T (d + 39), pr.T.g⟩ (.ite (.cmp .eq (.cal 8 (.c (.v 1) (.c (.k (.int 4)) .n))) (.k (.int 0))) (.cal 14 (.c (.v 1) (.c (.v 6) (.c (.k (.int 6)) .n)))) (.v 6)) [v0, some (.r 1), v2, some (.d x), some (.r (L.length + 2)), some i, some (.d y), v7, v8] h1 = .ok (.d z) h3 := by
        by_cases c0 : c = 0
        · subst c0
          obtain ⟨z, h3, vz, k3, e3⟩ := bent (gF_ok _) (B := 9) (by decide) (by decide) 6 (d + 30) (b' + 2 * 6 + 1 + 1) (2 * 410 + 22) 8 y h2 vy (by decide) k2 (by omega)
          have e3 : callN pr.T (d + 39) 14 [.r 1, .d y, .d (.int 6)] h2 = _ := e3
          refine ⟨z, h3, vz, k3.mono (by omega), ?_⟩
          simp! [e2, show decide (((0 : Nat) : Int) = 0) = true from by decide, e3]
        · refine ⟨y, h2, vy.up (by decide) (by decide) (by decide), k2.mono (by omega), ?_⟩
          simp! [e2, show decide ((c : Int) = 0) = false from decide_eq_false (by omega)]
      obtain ⟨z, h3, vz, k3, e3⟩ := main
      refine ⟨_, [v0, some (.r 1), v2, some (.d x), some (.r (L.length + 2)), some i, some (.d y), v7, v8], h3.set (L.length + 2) (.lst ((es ++ [z]).map .d)), asg_v .., ?_, es ++ [z], b' + 50, _, _, rfl, ?_, ?_, ?_, by omega⟩
      · simp only [b16l0, List.set_cons_succ, List.set_cons_zero]
        have k1' := kd_l (K_at k1)
        have e4 := app_r (y := .d z) (K_at k3) (by rw [List.length_map, show lim = 16777216 from by decide]; omega)
        rw [y_cs (s1 := [v0, some (.r 1), v2, some (.d x), some (.r (L.length + 2)), some i, some (.d y), v7, v8]) (h1 := h1)]
        · rw [y_cs (s1 := [v0, some (.r 1), v2, some (.d x), some (.r (L.length + 2)), some i, some (.d y), v7, v8]) (h1 := h3.set (L.length + 2) (.lst ((es ++ [z]).map .d)))]
          · trivial
          · rw [y_ex, x_mt]
            simp only [x_v, List.getElem?_cons_zero, List.getElem?_cons_succ, Option.join_some, o_some, bnd_ok, mtK, k1', x_ec, x_en]
            rw [e3]
            simp only [bnd_ok]
            rw [e4, List.map_append]
            rfl
        · simp! [e1]
      · have := k3.set L.length (.lst ((es ++ [z]).map .d))
        rw [gF_set] at this
        exact this
      · intro q mq
        rcases List.mem_append.mp mq with mq | mq
        · exact ve q mq
        · rw [List.mem_singleton.mp mq]; exact vz
      · rw [List.length_append]; simp only [List.length_cons, List.length_nil]; omega)
    (rangeI 0 6 1) [v0, some (.r 1), v2, some (.d x), some (.r (L.length + 2)), v5, v6, v7, v8] h ⟨ds, b, v5, v6, rfl, k, vd, by unfold rangeI; simp, by unfold rangeI; simp⟩
  refine ⟨es, h', w5, w6, ve, by simp only [List.length_nil] at le; omega, k'.mono (by simp only [List.length_nil] at lb; omega), ?_⟩
  rw [y_fr]
  simp only [x_rg]
  trivial
  rw [show rgV [.d (.int 6)] h = .ok (src (rangeI 0 6 1)) h from rg_1 6 (by decide)]
  simp only [bnd_ok, items_src, live_src]
  exact e
/-- one turn -/
theorem turn {d b : Nat} {L : List (List PD)} {v0 v2 v3 v4 v5 v6 v7 v8 : Option Val} {h : Hs} (k : K (gF L) b h) (hb : b < 10000000) :
    ∃ es h' w3 w4 w5 w6 w7 w8, K (gF (L ++ [es])) (b + 2000) h' ∧ exSs ⟨callN pr.T (d + 39), pr.T.g⟩ b16l2 [v0, some (.r 1), v2, v3, v4, v5, v6, v7, v8] h = .ok (.nx [v0, some (.r 1), v2, w3, w4, w5, w6, w7, w8]) h' := by
  obtain ⟨l, ds, h1, ⟨l1, l2⟩, vd, k1, e1⟩ := formula (gF_ok _) (d := d + 31) k (by omega)
  have e1 : callN pr.T (d + 39) 11 [.r 1, .d (.int 8)] h = _ := e1
  have vt : Vl 8 400 5 (.tuple ds) := vd.tup (by decide)
  have a1 : Vls 8 401 5 [.tuple ds] := vt.cons (w2 := 0) vls_nil (by omega)
  have vstr : Vl 8 8 5 (.str (st l)) := vl_str (ascOk_iff.mpr (by rw [cp_st]; exact l2)) (by rw [st_len]; exact l1)
  have vx : Vl 8 410 6 (.tuple [.str (st l), .tuple ds]) := (vstr.cons (w3 := 410) a1 (by omega)).tup (by decide)
  have vy : Vl 8 410 6 (.tuple [.str "", .tuple ds]) := ((show Vl 8 8 5 (.str "") from vl_str (by decide +kernel) (by decide +kernel)).cons (w3 := 410) a1 (by omega)).tup (by decide)
  have vz : Vl 8 410 6 (.tuple [.tuple ds, .str (st l)]) := (vt.cons (w3 := 410) (vstr.cons (w2 := 0) vls_nil (Nat.le_refl 9)) (by omega)).tup (by decide)
  obtain ⟨y, h2, vb, k2, e2⟩ := bent (gF_ok _) (B := 8) (by decide) (by decide) 1 (d + 35) (b + 100) 0 0 .none h1 vl_none (by decide) k1 (by omega)
  have e2 : callN pr.T (d + 39) 14 [.r 1, .d .none, .d (.int 1)] h1 = _ := e2
  have k3 : K (gF (L ++ [[.tuple [.str (st l), .tuple ds], .tuple [.str "", .tuple ds], .tuple [.tuple ds, .str (st l)], y]])) (b + 200) (h2 ++ [.lst [.d (.tuple [.str (st l), .tuple ds]), .d (.tuple [.str "", .tuple ds]), .d (.tuple [.tuple ds, .str (st l)]), .d y]]) := by
    rw [← gF_app]
    exact (k2.push _).mono (by omega)
  have h2l : h2.length = L.length + 2 := by rw [k2.len, gF_len]
  obtain ⟨es, h3, w5, w6, ve, _, k4, e4⟩ := things (d := d) (L := L) vx (v0 := v0) (v2 := v2) (v5 := v5) (v6 := v6) (v7 := v7) (v8 := v8) (fun q mq => by
    simp only [List.mem_cons, List.not_mem_nil, or_false] at mq
    rcases mq with rfl | rfl | rfl | rfl
    · exact vx.up (by decide) (by decide) (by decide)
    · exact vy.up (by decide) (by decide) (by decide)
    · exact vz.up (by decide) (by decide) (by decide)
    · exact vb.up (by decide) (by decide) (by decide)) (by simp) k3 (by omega)
  have at3 := K_at k4
  obtain ⟨s', h', e, w6', w7, w8, rfl, rfl, _⟩ := fr_livN (l := some (L.length + 2, .lst (es.map .d))) (t := .v 6) (b := fun s1 => exSs ⟨callN pr.T (d + 39), pr.T.g⟩ b16l1 s1)
    (I := fun its s h' => ∃ w6 w7 w8, s = [v0, some (.r 1), v2, some (.d (.tuple [.str (st l), .tuple ds])), some (.r (L.length + 2)), w5, w6, w7, w8] ∧ h' = h3 ∧ ∀ v ∈ its, ∃ x, v = .d x ∧ Vl 10 1706 10 x)
    (fun xs s h ⟨_, _, _, _, eh, _⟩ => by rw [eh]; exact stays_s at3)
    (fun x r s h ⟨w6, w7, w8, es_, eh, vi⟩ => by
      subst es_ eh
      obtain ⟨x, rfl, vx⟩ := vi _ (.head _)
      obtain ⟨v7', v8', f, hf, e⟩ := round (d := d) vx (v0 := v0) (v1 := some (.r 1)) (v2 := v2) (v3 := some (.d (.tuple [.str (st l), .tuple ds]))) (v4 := some (.r (L.length + 2))) (v5 := w5) (v7 := w7) (v8 := w8) (h := h)
      refine ⟨_, [v0, some (.r 1), v2, some (.d (.tuple [.str (st l), .tuple ds])), some (.r (L.length + 2)), w5, some (.d x), v7', v8'], h, asg_v .., ?_, _, _, _, rfl, rfl, fun q mq => vi q (.tail _ mq)⟩
      rcases hf with rfl | rfl
      · exact .inl e
      · exact .inr e)
    (xs := es.map .d) (s := [v0, some (.r 1), v2, some (.d (.tuple [.str (st l), .tuple ds])), some (.r (L.length + 2)), w5, w6, v7, v8]) (h := h3) ⟨_, _, _, rfl, rfl, fun q mq => by
      obtain ⟨x, mx, rfl⟩ := List.mem_map.mp mq
      exact ⟨x, rfl, ve x mx⟩⟩
  refine ⟨es, h', some (.d (.tuple [.str (st l), .tuple ds])), some (.r (L.length + 2)), w5, w6', w7, w8, k4.mono (by omega), ?_⟩
  · simp only [b16l2]
    with_unfolding_all simp! [e1]
    with_unfolding_all
      simp! [e2]
      rw [mkL_t, h2l]
      rw [show [PyData.str (st l), PyData.tuple ds].reverse = [.tuple ds, .str (st l)] from rfl]
      trivial
    rw [y_cs e4]
    with_unfolding_all
      rw [y_fr]
      simp only [x_sq]
      trivial
      rw [src_r at3]
      simp only [bnd_ok]
      exact e
    trivial
theorem law (ns : List Int) (hl : ns.length ≤ 63) : ∃ h', callN pr.T 40 16 [.d (.list (ns.map .int))] [] = .ok (.d (.bool true)) h' := by
  obtain ⟨h0, k0, e0⟩ := deck_new (T := pr.T) (d := 38) (i := 7) (fn := f7) (key := "cells") (z := ⟨15369234, 69621, 2147483629, 141, 2147483587, 63⟩) (by decide) rfl rfl ns hl
  obtain ⟨s', h', e, L, b, w2, w3, w4, w5, w6, w7, w8, rfl, k, _⟩ := fr_inv (t := .v 2) (b := fun s1 => exSs ⟨callN pr.T 39, pr.T.g⟩ b16l2 s1)
    (I := fun its s h => ∃ L b w2 w3 w4 w5 w6 w7 w8, s = [some (.d (.list (ns.map .int))), some (.r 1), w2, w3, w4, w5, w6, w7, w8] ∧ K (gF L) b h ∧ b + 2000 * its.length ≤ 12000)
    (fun x r s h ⟨L, b, w2, w3, w4, w5, w6, w7, w8, es, k, lb⟩ => by
      subst es
      simp only [List.length_cons] at lb
      obtain ⟨es, h', w3', w4', w5', w6', w7', w8', k', e⟩ := turn (d := 0) (v0 := some (.d (.list (ns.map .int)))) (v2 := some x) (v3 := w3) (v4 := w4) (v5 := w5) (v6 := w6) (v7 := w7) (v8 := w8) k (by omega)
      exact ⟨_, _, h', asg_v .., e, _, _, _, _, _, _, _, _, _, rfl, k', by omega⟩)
    (rangeI 0 6 1) [some (.d (.list (ns.map .int))), some (.r 1), none, none, none, none, none, none, none] h0 ⟨[], 0, none, none, none, none, none, none, none, rfl, k0, by unfold rangeI; simp⟩
  refine ⟨h'.take 0, ?_⟩
  rw [call_eq (fn := f16) rfl rfl]
  simp only [f16, b16]
  have e0 : callN pr.T 39 7 [.d (.list (ns.map .int))] [] = _ := e0
  with_unfolding_all simp! [e0]
  with_unfolding_all
    rw [y_fr]
    simp only [x_rg]
    trivial
    rw [show rgV [.d (.int 6)] h0 = .ok (src (rangeI 0 6 1)) h0 from rg_1 6 (by decide)]
    simp only [bnd_ok, items_src, live_src]
    exact e
  trivial
  exact exit_d (.inl rfl)
end K41
set_option Elab.async false
set_option linter.all false
set_option maxRecDepth 100000
set_option maxHeartbeats 0
open PySem PySem.W PySem.Calls PyProof.Rows
theorem PySem.Challenge.cw_narrowplay_k41_formulas_among_any_values_holds : PySem.Challenge.rw_narrowplay_k41_formulas_among_any_values.Holds := by
  w_on; o_law
  refine HandSHeadRun.head_any (r := OpenLaw.row PySem.Challenge.rw_narrowplay_k41_formulas_among_any_values) (q := view (OpenLaw.row PySem.Challenge.rw_narrowplay_k41_formulas_among_any_values).prog [20]) (H := K41.hk) (ob := K41.ob) (M := 4000) (loose := K41.loose) (d := HandSHeadRun.topDef (OpenLaw.row PySem.Challenge.rw_narrowplay_k41_formulas_among_any_values).prog 20) (kwd := []) K41.ob_eq
    (by kernel_rfl) (fun s => by kernel_rfl) K41.run (by kernel_rfl) (by kernel_rfl) (by kernel_rfl) (by rfl) (by first | assumption | decide +kernel) (by decide +kernel) ⟨rfl, rfl, rfl, rfl, rfl, by decide +kernel⟩ ?hw ?hc
  case hw => w_witness2
  case hc =>
    exact Nv.walkN (l := PySem.Challenge.rw_narrowplay_k41_formulas_among_any_values) (n := 63) (k := 40) (n0 := 16) (p := K41.pr) (xs := K41.cs) (a0 := K41.p16) (x := "_law_script") rfl (by decide) (by kernel_rfl) ⟨⟨rfl, by decide, by decide⟩, rfl⟩ K41.ok K41.plain rfl (fun n => rfl) rfl (by kernel_rfl) rfl K41.law
