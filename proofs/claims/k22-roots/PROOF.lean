import PyProof.Rows.All
import PySem.Str
import PySem.PyData
import Wide.All
import OpenK.AllK
import Wide.FinOn
import HandS.ForMost
import HandS.TupMul
import HandS.TupAny
import HandS.Conv
import HandS.Style
import HandS.IsInst
import HandS.Zip
import HandS.Small
import PyProof.ReprRoads
import PyProof.StrLawsRepr
import PyProof.CallFns
import HandS.Codes
import Wide.Loose
import KE.GoesZip
import KE.GoesMore
import KE.GoesEnum
import HandS.TupLe
import KE.DataMinMax
import HandS.NoneIn
import HandS.SortInts
import HandS.More
import HandS.Exc
import HandS.ExcOwn
import HandS.TryOnly
import PyProof.InstEq
import PySem.Challenge.RW_trailkeep_k22_whole_roots_told_and_newer
set_option Elab.async false
set_option linter.all false
set_option maxRecDepth 100000
set_option maxHeartbeats 4200000
/-! PyM: a mirror of the Python that the program uses: values, a store of mutable objects by handles, and one total
function for each construct (none: not covered, or an error). No machine in sight. -/
namespace Mi
open PySem

inductive Dv where
  | non | bl (b : Bool) | int (i : Int) | str (x : String) | tup (xs : List Dv) | fls (xs : List Dv) | scr (ns : List Int) | ref (h : Nat)
abbrev Key := Sum Int String
inductive MO where
  | lst (xs : List Dv) | dct (kvs : List (Key × Dv)) | ins (c : Nat) (fs : List (String × Dv))
abbrev Sto := List MO
abbrev Sl := List (Option Dv)
abbrev Rs (α : Type) := Option (α × Sto)
/-- one after the other -/
def bnd {α β : Type} (r : Rs α) (f : α → Sto → Option β) : Option β := match r with
  | none => none
  | some (a, g) => f a g
theorem bnd_some {α β : Type} (a : α) (g : Sto) (f : α → Sto → Option β) : bnd (some (a, g)) f = f a g := rfl
theorem bnd_none {α β : Type} (f : α → Sto → Option β) : bnd (none : Rs α) f = none := rfl
theorem bnd_eq {α β : Type} {r : Rs α} {f : α → Sto → Option β} {b : β} (h : bnd r f = some b) : ∃ a g, r = some (a, g) ∧ f a g = some b := by
  cases r with
  | none => cases h
  | some p => exact ⟨p.1, p.2, rfl, h⟩
abbrev ME := Sl → Sto → Rs Dv
abbrev MT := Sl → Sto → Rs Bool
abbrev MA := Sl → Sto → Rs (List Dv)
inductive Fl where
  | nx | rt (d : Dv) | bk | ct
abbrev MS := Sl → Sto → Option (Fl × Sl × Sto)
abbrev MF := List Dv → Sto → Rs Dv

/-! ### names, constants -/
def mVar (i : Nat) : ME := fun δ G => match δ[i]? with
  | some (some d) => some (d, G)
  | _ => none
def mC (d : Dv) : ME := fun _ G => some (d, G)

/-! ### sequences -/
def big : Nat := 16777216
/-- a new list: frozen, or with a handle -/
def mkL (m : Bool) (xs : List Dv) (G : Sto) : Dv × Sto := if m then (.ref G.length, G ++ [.lst xs]) else (.fls xs, G)
/-- a list's items -/
def lstOf (G : Sto) : Dv → Option (List Dv)
  | .fls xs => some xs
  | .scr ns => some (ns.map .int)
  | .ref h => match G[h]? with
    | some (.lst xs) => some xs
    | _ => none
  | _ => none
def seqOf (G : Sto) : Dv → Option (List Dv)
  | .tup xs => some xs
  | d => lstOf G d
def ixN (n : Nat) (j : Int) : Option Nat := if 0 ≤ j then (if j < n then some j.toNat else none) else if -(n : Int) ≤ j then some (j + n).toNat else none
def atI {α : Type} (xs : List α) (k : Int) : Option α := (ixN xs.length k).bind fun j => xs[j]?
def sIx (n dflt : Nat) : Option Int → Nat
  | none => dflt
  | some j => if j < 0 then (j + (n : Int)).toNat else min j.toNat n
def cut {α : Type} (xs : List α) (lo hi : Option Int) : List α := (xs.drop (sIx xs.length 0 lo)).take (sIx xs.length xs.length hi - sIx xs.length 0 lo)

/-! ### operators by values -/
def okMul (i j : Int) : Bool := (decide (-(2 ^ 64) < i) && decide (i < 2 ^ 64)) || (decide (-(2 ^ 64) < j) && decide (j < 2 ^ 64))
abbrev B2 := Dv → Dv → Sto → Rs Dv
def bAdd (m : Bool) : B2
  | .int i, .int j, G => some (.int (i + j), G)
  | .tup a, .tup b, G => if a.length + b.length ≤ big then some (.tup (a ++ b), G) else none
  | .fls a, .fls b, G => if a.length + b.length ≤ big then some (mkL m (a ++ b) G) else none
  | .ref h, .fls b, G => match G[h]? with
    | some (.lst a) => if a.length + b.length ≤ big then some (mkL m (a ++ b) G) else none
    | _ => none
  | _, _, _ => none
def bSub : B2
  | .int i, .int j, G => some (.int (i - j), G)
  | _, _, _ => none
def bMul (m : Bool) : B2
  | .int i, .int j, G => if okMul i j then some (.int (i * j), G) else none
  | .tup a, .int k, G => if a ≠ [] ∧ 2 ≤ k ∧ k ≤ 1000 ∧ a.length ≤ 1000 then some (.tup (List.replicate k.toNat a).flatten, G) else none
  | .fls a, .int k, G => if -(2 ^ 63) ≤ k ∧ k < 2 ^ 63 ∧ a.length * k.toNat ≤ big then some (mkL m (List.replicate k.toNat a).flatten G) else none
  | _, _, _ => none
def bDiv : B2
  | .int i, .int j, G => if 0 < j ∧ j < 1073741824 then some (.int (i / j), G) else none
  | _, _, _ => none
def bMod : B2
  | .int i, .int j, G => if 0 < j then some (.int (i % j), G) else none
  | _, _, _ => none
def bPow : B2
  | .int i, .int j, G => if 0 ≤ j ∧ j ≤ 1000000 ∧ i.natAbs < 2 ^ 64 then some (.int (i ^ j.toNat), G) else none
  | _, _, _ => none
def m2 (f : B2) (a b : ME) : ME := fun δ G => bnd (a δ G) fun x G1 => bnd (b δ G1) fun y G2 => f x y G2
def m1 (f : Dv → Sto → Rs Dv) (a : ME) : ME := fun δ G => bnd (a δ G) fun x G1 => f x G1
def uNeg : Dv → Sto → Rs Dv
  | .int i, G => some (.int (-i), G)
  | _, _ => none

/-! ### data, for == and repr -/
mutual
/-- pure data, lists by their handles -/
def py (G : Sto) : Dv → Option PyData
  | .non => some .none
  | .bl b => some (.bool b)
  | .int i => some (.int i)
  | .str x => some (.str (Str.ofString x))
  | .tup xs => (pys G xs).map .tuple
  | .fls xs => (pys G xs).map .list
  | .scr ns => some (.list (ns.map .int))
  | .ref _ => none
def pys (G : Sto) : List Dv → Option (List PyData)
  | [] => some []
  | x :: xs => match py G x, pys G xs with
    | some c, some cs => some (c :: cs)
    | _, _ => none
end
/-- at the top a list may stand by its handle -/
def pyT (G : Sto) : Dv → Option PyData
  | .ref h => match G[h]? with
    | some (.lst xs) => (pys G xs).map .list
    | _ => none
  | d => py G d
mutual
/-- a bound of the written text, small numbers alone -/
def wt : PyData → Option Nat
  | .none => some 5
  | .bool _ => some 5
  | .int i => if i.natAbs < 10 ^ 18 then some 20 else none
  | .str s => if s.cps.toList.all (fun c => decide (c < 4294967296)) then some (10 * s.cps.size + 2) else none
  | .list xs => (wts xs).map (· + 3)
  | .tuple xs => (wts xs).map (· + 3)
  | .dict _ => none
def wts : List PyData → Option Nat
  | [] => some 0
  | x :: xs => match wt x, wts xs with
    | some a, some b => some (a + b + 2)
    | _, _ => none
end
mutual
def dep : PyData → Nat
  | .list xs => deps xs + 1
  | .tuple xs => deps xs + 1
  | _ => 0
def deps : List PyData → Nat
  | [] => 0
  | x :: xs => max (dep x) (deps xs)
end
def okR (d : PyData) : Prop := ∃ n, wt d = some n ∧ n ≤ 16000000 ∧ dep d ≤ 40
open Classical in
/-- repr(a) == repr(b): known where both are the same data -/
noncomputable def mReprEq (neg : Bool) (a b : ME) : ME := fun δ G => bnd (a δ G) fun x G1 => bnd (b δ G1) fun y G2 =>
  if ∃ d, pyT G1 x = some d ∧ pyT G2 y = some d ∧ okR d then some (.bl (!neg), G2) else none
/-- scalars alone -/
def sEq : Dv → Dv → Option Bool
  | .int i, .int j => some (decide (i = j))
  | .str x, .str y => some (decide (x = y))
  | .non, .non => some true
  | .non, .int _ => some false
  | .int _, .non => some false
  | .non, .str _ => some false
  | .str _, .non => some false
  | .int _, .str _ => some false
  | .str _, .int _ => some false
  | .bl a, .bl b => some (a == b)
  | _, _ => none
/-- the ints of such a list -/
def intsOf : List Dv → Option (List Int)
  | [] => some []
  | .int i :: r => (intsOf r).map (i :: ·)
  | _ => none
/-- lists, tuples of whole numbers -/
def qEq (G : Sto) : Dv → Dv → Option Bool
  | .tup a, .tup b => match intsOf a, intsOf b with
    | some x, some y => some (decide (x = y))
    | _, _ => none
  | x, y => match lstOf G x, lstOf G y with
    | some a, some b => match intsOf a, intsOf b with
      | some x, some y => some (decide (x = y))
      | _, _ => none
    | _, _ => none
def bEq (neg : Bool) : B2 := fun x y G => match sEq x y with
  | some r => some (.bl (r != neg), G)
  | none => match qEq G x y with
    | some r => some (.bl (r != neg), G)
    | none => none
def bCmp (p : Int → Int → Bool) : B2
  | .int i, .int j, G => some (.bl (p i j), G)
  | _, _, _ => none
def bLt : B2 := bCmp fun i j => decide (i < j)
def bLe : B2 := bCmp fun i j => decide (i ≤ j)
def bGt : B2 := bCmp fun i j => decide (j < i)
def bGe : B2 := bCmp fun i j => decide (j ≤ i)
def isNon : Dv → Bool
  | .non => true
  | _ => false
def mIsN (neg : Bool) (a : ME) : ME := m1 (fun x G => some (.bl (isNon x != neg), G)) a
/-- a op b op' c -/
def mChain (f g : B2) (a b c : ME) : ME := fun δ G => bnd (a δ G) fun x G1 => bnd (b δ G1) fun y G2 => bnd (f x y G2) fun z G3 => match z with
  | .bl true => bnd (c δ G3) fun w G4 => g y w G4
  | .bl false => some (.bl false, G3)
  | _ => none
/-- and, or, not of truth values -/
def mAnd (a b : ME) : ME := fun δ G => bnd (a δ G) fun x G1 => match x with
  | .bl true => b δ G1
  | .bl false => some (.bl false, G1)
  | _ => none
def mOr (a b : ME) : ME := fun δ G => bnd (a δ G) fun x G1 => match x with
  | .bl true => some (.bl true, G1)
  | .bl false => b δ G1
  | _ => none
def mNot (a : ME) : ME := m1 (fun x G => match x with
  | .bl b => some (.bl (!b), G)
  | _ => none) a

/-! ### tests -/
/-- truth -/
def tru (G : Sto) : Dv → Option Bool
  | .non => some false
  | .bl b => some b
  | .int i => some (i != 0)
  | .tup xs => some !xs.isEmpty
  | .fls xs => some !xs.isEmpty
  | .ref h => match G[h]? with
    | some (.lst xs) => some !xs.isEmpty
    | some (.dct kvs) => some !kvs.isEmpty
    | _ => none
  | _ => none
def mTru (a : ME) : MT := fun δ G => bnd (a δ G) fun x G1 => (tru G1 x).map fun b => (b, G1)
/-- a truth value as a test -/
def mTb (a : ME) : MT := fun δ G => bnd (a δ G) fun x G1 => match x with
  | .bl b => some (b, G1)
  | _ => none
def mTand (a b : MT) : MT := fun δ G => bnd (a δ G) fun c G1 => if c then b δ G1 else some (false, G1)
def mTor (a b : MT) : MT := fun δ G => bnd (a δ G) fun c G1 => if c then some (true, G1) else b δ G1
def mTnot (a : MT) : MT := fun δ G => bnd (a δ G) fun c G1 => some (!c, G1)
def mIf (t : MT) (a b : ME) : ME := fun δ G => bnd (t δ G) fun c G1 => if c then a δ G1 else b δ G1

/-! ### arguments, displays -/
def mNil : MA := fun _ G => some ([], G)
def mCons (a : ME) (r : MA) : MA := fun δ G => bnd (a δ G) fun x G1 => bnd (r δ G1) fun xs G2 => some (x :: xs, G2)
def mTup (a : MA) : ME := fun δ G => bnd (a δ G) fun xs G1 => if xs.length ≤ big then some (.tup xs, G1) else none
def mLst (m : Bool) (a : MA) : ME := fun δ G => bnd (a δ G) fun xs G1 => if xs.length ≤ big then some (mkL m xs G1) else none
/-- a built-in of values -/
def mB (f : List Dv → Sto → Rs Dv) (a : MA) : ME := fun δ G => bnd (a δ G) f

/-! ### subscripts, slices -/
def kOf : Dv → Option Key
  | .int i => some (.inl i)
  | .str x => some (.inr x)
  | _ => none
def look {κ : Type} [DecidableEq κ] (kvs : List (κ × Dv)) (k : κ) : Option Dv := (kvs.find? fun kv => decide (kv.1 = k)).map (·.2)
def put {κ : Type} [DecidableEq κ] (kvs : List (κ × Dv)) (k : κ) (v : Dv) : List (κ × Dv) :=
  if (kvs.any fun kv => decide (kv.1 = k)) = true then kvs.map fun kv => if kv.1 = k then (kv.1, v) else kv else kvs ++ [(k, v)]
def drp {κ : Type} [DecidableEq κ] (kvs : List (κ × Dv)) (k : κ) : List (κ × Dv) := kvs.filter fun kv => decide (kv.1 ≠ k)
/-- xs[i] of a list or a tuple -/
def bIx : B2 := fun x y G => match seqOf G x, y with
  | some xs, .int i => (atI xs i).map fun d => (d, G)
  | _, _ => none
/-- d[k] of a dict -/
def bGet : B2 := fun x y G => match x with
  | .ref h => match G[h]? with
    | some (.dct kvs) => match kOf y with
      | some k => (look kvs k).map fun d => (d, G)
      | none => none
    | _ => none
  | _ => none
/-- x[i] of any of these -/
def bSubs : B2 := fun x y G => match bGet x y G with
  | some r => some r
  | none => bIx x y G
def mO (a : Option ME) : Sl → Sto → Rs (Option Int) := fun δ G => match a with
  | none => some (none, G)
  | some e => bnd (e δ G) fun x G1 => match x with
    | .int i => some (some i, G1)
    | _ => none
def mSlice (m : Bool) (a : ME) (lo hi : Option ME) : ME := fun δ G => bnd (a δ G) fun x G1 => bnd (mO lo δ G1) fun l G2 => bnd (mO hi δ G2) fun h G3 => match x with
  | .tup xs => some (.tup (cut xs l h), G3)
  | _ => match lstOf G3 x with
    | some xs => some (mkL m (cut xs l h) G3)
    | none => none
def mRev (m : Bool) (a : ME) : ME := m1 (fun x G => match lstOf G x with
  | some xs => some (mkL m xs.reverse G)
  | none => none) a

/-! ### objects -/
def flook (fs : List (String × Dv)) (f : String) : Option Dv := fs.lookup f
def putF (f : String) (v : Dv) : List (String × Dv) → List (String × Dv)
  | [] => [(f, v)]
  | (g, y) :: r => if g = f then (g, v) :: r else (g, y) :: putF f v r
/-- e.f, fo: the classes that have no attribute of this name -/
def mFld (cs : List Nat) (a : ME) (f : String) : ME := m1 (fun x G => match x with
  | .ref h => match G[h]? with
    | some (.ins c fs) => if c ∈ cs then (fs.lookup f).map fun d => (d, G) else none
    | _ => none
  | _ => none) a

/-! ### calls -/
def mCall (f : MF) (a : MA) : ME := fun δ G => bnd (a δ G) f
/-- f(.., k = v ..): ix puts the values in the parameters' order -/
def mCallK (f : MF) (ix : List Nat) (a kw : MA) : ME := fun δ G => bnd (a δ G) fun xs G1 => bnd (kw δ G1) fun ys G2 => f (ix.map fun i => (xs ++ ys).getD i .non) G2
/-- o.m(..): of the class c -/
def mMeth (c : Nat) (m : String) (f : MF) (o : ME) (a : MA) : ME := fun δ G => bnd (o δ G) fun x G1 => match x with
  | .ref h => match G1[h]? with
    | some (.ins c' fs) => if c' = c ∧ fs.lookup m = none then bnd (a δ G1) fun xs G2 => f (x :: xs) G2 else none
    | _ => none
  | _ => none
def mMethK (c : Nat) (m : String) (f : MF) (ix : List Nat) (o : ME) (a kw : MA) : ME := fun δ G => bnd (o δ G) fun x G1 => match x with
  | .ref h => match G1[h]? with
    | some (.ins c' fs) => if c' = c ∧ fs.lookup m = none then bnd (a δ G1) fun xs G2 => bnd (kw δ G2) fun ys G3 => f (ix.map fun i => (x :: xs ++ ys).getD i .non) G3 else none
    | _ => none
  | _ => none
/-- C(..) -/
def mMake (c : Nat) (f : MF) (a : MA) : ME := fun δ G => bnd (a δ G) fun xs G1 => bnd (f (.ref G1.length :: xs) (G1 ++ [.ins c []])) fun r G2 => match r with
  | .non => some (.ref G1.length, G2)
  | _ => none
/-- a def by its body: n parameters, l locals beside -/
def mDef (n l : Nat) (b : MS) : MF := fun xs G => if xs.length = n then match b (xs.map some ++ List.replicate l none) G with
  | some (.nx, _, G') => some (.non, G')
  | some (.rt d, _, G') => some (d, G')
  | _ => none else none

/-! ### built-ins -/
def fLen : List Dv → Sto → Rs Dv
  | [.tup xs], G => some (.int xs.length, G)
  | [x], G => match lstOf G x with
    | some xs => some (.int xs.length, G)
    | none => none
  | _, _ => none
def fInt : List Dv → Sto → Rs Dv
  | [.int i], G => some (.int i, G)
  | _, _ => none
def fMax : List Dv → Sto → Rs Dv
  | [.int i, .int j], G => some (.int (if j > i then j else i), G)
  | _, _ => none
def fMin : List Dv → Sto → Rs Dv
  | [.int i, .int j], G => some (.int (if j < i then j else i), G)
  | _, _ => none
def fTuple : List Dv → Sto → Rs Dv
  | [.tup xs], G => some (.tup xs, G)
  | [x], G => (lstOf G x).map fun xs => (.tup xs, G)
  | _, _ => none
def fList (m : Bool) : List Dv → Sto → Rs Dv
  | [x], G => (seqOf G x).map fun xs => mkL m xs G
  | _, _ => none
/-- list(range(a, b)) -/
def rng (a b : Int) : List Dv := (List.range (b - a).toNat).map fun i => .int (a + (i : Nat))
def bListR (m : Bool) : B2
  | .int a, .int b, G => if -(2 ^ 62) ≤ a ∧ a < 2 ^ 62 ∧ -(2 ^ 62) ≤ b ∧ b < 2 ^ 62 ∧ (b - a).toNat ≤ 2 ^ 24 then some (mkL m (rng a b) G) else none
  | _, _, _ => none
def uListR (m : Bool) : Dv → Sto → Rs Dv
  | .int b, G => if -(2 ^ 62) ≤ b ∧ b < 2 ^ 62 ∧ b.toNat ≤ 2 ^ 24 then some (mkL m (rng 0 b) G) else none
  | _, _ => none
/-- all, any of a list of truth values -/
def bools : List Dv → Option (List Bool)
  | [] => some []
  | .bl b :: r => (bools r).map (b :: ·)
  | _ => none
def fAll : List Dv → Sto → Rs Dv
  | [x], G => match lstOf G x with
    | some xs => (bools xs).map fun bs => (.bl (bs.all id), G)
    | none => none
  | _, _ => none
def fAny : List Dv → Sto → Rs Dv
  | [x], G => match lstOf G x with
    | some xs => (bools xs).map fun bs => (.bl (bs.any id), G)
    | none => none
  | _, _ => none
/-- isinstance(x, T) for int, bool, tuple, str, list; an own class by its number -/
inductive Ty where
  | int | bool | tuple | str | list | cls (c : Nat)
  deriving DecidableEq
def isI (t : Ty) (G : Sto) : Dv → Option Bool
  | .non => some false
  | .bl _ => some (t == .int || t == .bool)
  | .int _ => some (t == .int)
  | .str _ => some (t == .str)
  | .tup _ => some (t == .tuple)
  | .fls _ => some (t == .list)
  | .scr _ => none
  | .ref h => match G[h]? with
    | some (.lst _) => some (t == .list)
    | some (.ins c _) => match t with
      | .cls c' => if c' = c then some true else none
      | _ => none
    | _ => none
def mIsI (t : Ty) (a : ME) : ME := m1 (fun x G => (isI t G x).map fun b => (.bl b, G)) a
def mAppend (o a : ME) : ME := fun δ G => bnd (o δ G) fun x G1 => bnd (a δ G1) fun y G2 => match x with
  | .ref h => match G1[h]?, G2[h]? with
    | some (.lst _), some (.lst xs) => if xs.length < big then some (.non, G2.set h (.lst (xs ++ [y]))) else none
    | _, _ => none
  | _ => none
/-- xs.pop() -/
def mPop (o : ME) : ME := m1 (fun x G => match x with
  | .ref h => match G[h]? with
    | some (.lst xs) => match xs.getLast? with
      | some d => some (d, G.set h (.lst xs.dropLast))
      | none => none
    | _ => none
  | _ => none) o
/-- d.get(k, x) -/
def mGet2 (o k x : ME) : ME := fun δ G => bnd (o δ G) fun d G1 => bnd (k δ G1) fun y G2 => bnd (x δ G2) fun z G3 => match d with
  | .ref h => match G1[h]?, G3[h]?, kOf y with
    | some (.dct _), some (.dct kvs), some k => some ((look kvs k).getD z, G3)
    | _, _, _ => none
  | _ => none
def mGet1 (o k : ME) : ME := fun δ G => bnd (o δ G) fun d G1 => bnd (k δ G1) fun y G2 => match d with
  | .ref h => match G1[h]?, G2[h]?, kOf y with
    | some (.dct _), some (.dct kvs), some k => some ((look kvs k).getD .non, G2)
    | _, _, _ => none
  | _ => none
/-- {k: v, ..}: the dict is made first -/
def mPairs : List (ME × ME) → Sl → Sto → Rs (List (Key × Dv))
  | [], _, G => some ([], G)
  | (k, e) :: r, δ, G => bnd (k δ G) fun y G1 => bnd (e δ G1) fun x G2 => bnd (mPairs r δ G2) fun ps G3 => match kOf y with
    | some k => some ((k, x) :: ps, G3)
    | none => none
def mDisp (ps : List (ME × ME)) : ME := fun δ G => bnd (mPairs ps δ (G ++ [.dct []])) fun kvs G1 => match G1[G.length]? with
  | some (.dct []) => if kvs.length ≤ 15 then some (.ref G.length, G1.set G.length (.dct (kvs.foldl (fun acc kv => put acc kv.1 kv.2) []))) else none
  | _ => none

/-! ### targets -/
abbrev MG := Dv → Sl → Sto → Option (Sl × Sto)
def gNm (i : Nat) : MG := fun d δ G => some (δ.set i (some d), G)
abbrev MGs := List Dv → Sl → Sto → Option (Sl × Sto)
def gNil : MGs := fun ds δ G => match ds with
  | [] => some (δ, G)
  | _ => none
def gCons (g : MG) (r : MGs) : MGs := fun ds δ G => match ds with
  | d :: ds' => match g d δ G with
    | some (δ1, G1) => r ds' δ1 G1
    | none => none
  | [] => none
def gTup (n : Nat) (g : MGs) : MG := fun d δ G => match d with
  | .tup xs => if xs.length = n then g xs δ G else none
  | _ => none

/-! ### statements -/
def mSeq (a b : MS) : MS := fun δ G => match a δ G with
  | some (.nx, δ', G') => b δ' G'
  | r => r
def mSkip : MS := fun δ G => some (.nx, δ, G)
def mBrk : MS := fun δ G => some (.bk, δ, G)
def mCont : MS := fun δ G => some (.ct, δ, G)
def mFail : MS := fun _ _ => none
def mAsg (e : ME) (g : MG) : MS := fun δ G => match e δ G with
  | some (d, G1) => match g d δ G1 with
    | some (δ', G') => some (.nx, δ', G')
    | none => none
  | none => none
/-- a, b = x, y -/
def mPar (i j : Nat) (a : MA) : MS := fun δ G => match a δ G with
  | some ([x, y], G1) => some (.nx, (δ.set i (some x)).set j (some y), G1)
  | _ => none
def mExpr (e : ME) : MS := fun δ G => match e δ G with
  | some (_, G1) => some (.nx, δ, G1)
  | none => none
def mRet (e : ME) : MS := fun δ G => match e δ G with
  | some (d, G1) => some (.rt d, δ, G1)
  | none => none
def mRetN : MS := fun δ G => some (.rt .non, δ, G)
def mIfS (t : MT) (a b : MS) : MS := fun δ G => match t δ G with
  | some (true, G1) => a δ G1
  | some (false, G1) => b δ G1
  | none => none
def mAug (i : Nat) (f : B2) (e : ME) : MS := fun δ G => match δ[i]? with
  | some (some x) => match e δ G with
    | some (y, G1) => match f x y G1 with
      | some (z, G2) => some (.nx, δ.set i (some z), G2)
      | none => none
    | none => none
  | _ => none
/-- o.f = e -/
def mSetF (cs : List Nat) (o : ME) (f : String) (e : ME) : MS := fun δ G => match e δ G with
  | some (y, G1) => match o δ G1 with
    | some (.ref h, G2) => match G2[h]? with
      | some (.ins c fs) => if c ∈ cs ∧ fs.length < 1000 then some (.nx, δ, G2.set h (.ins c (putF f y fs))) else none
      | _ => none
    | _ => none
  | none => none
/-- o.f op= e -/
def mAugF (cs : List Nat) (o : ME) (f : String) (op : B2) (e : ME) : MS := fun δ G => match o δ G with
  | some (.ref h, G1) => match G1[h]? with
    | some (.ins c fs) => if c ∈ cs then match fs.lookup f with
        | some x => match e δ G1 with
          | some (y, G2) => match op x y G2 with
            | some (z, G3) => match G3[h]? with
              | some (.ins c' fs') => if c' = c ∧ fs'.length < 1000 then some (.nx, δ, G3.set h (.ins c (putF f z fs'))) else none
              | _ => none
            | none => none
          | none => none
        | none => none
      else none
    | _ => none
  | _ => none
/-- o[i] = e of a list -/
def mSetI (o i e : ME) : MS := fun δ G => match e δ G with
  | some (v, G1) => match o δ G1 with
    | some (.ref h, G2) => match i δ G2 with
      | some (.int k, G3) => match G3[h]? with
        | some (.lst xs) => match ixN xs.length k with
          | some j => some (.nx, δ, G3.set h (.lst (xs.set j v)))
          | none => none
        | _ => none
      | _ => none
    | _ => none
  | none => none
/-- d[k] = e of a dict -/
def mSetK (o i e : ME) : MS := fun δ G => match e δ G with
  | some (v, G1) => match o δ G1 with
    | some (.ref h, G2) => match i δ G2 with
      | some (y, G3) => match G3[h]?, kOf y with
        | some (.dct kvs), some k => if kvs.length < big then some (.nx, δ, G3.set h (.dct (put kvs k v))) else none
        | _, _ => none
      | none => none
    | _ => none
  | none => none

/-! ### loops -/
open Classical in
/-- over the items ds, as long as st holds of the store -/
noncomputable def mLoop (g : MG) (b : MS) (st : Sto → Prop) : List Dv → MS
  | [], δ, G => if st G then some (.nx, δ, G) else none
  | d :: ds, δ, G => if st G then match g d δ G with
      | some (δ1, G1) => match b δ1 G1 with
        | some (.nx, δ2, G2) => mLoop g b st ds δ2 G2
        | some (.ct, δ2, G2) => mLoop g b st ds δ2 G2
        | some (.bk, δ2, G2) => some (.nx, δ2, G2)
        | r => r
      | none => none
    else none
/-- what is walked: the items, and what must stay of the store meanwhile -/
abbrev MI := Sl → Sto → Rs (List Dv × (Sto → Prop))
noncomputable def mFor (it : MI) (g : MG) (b : MS) : MS := fun δ G => bnd (it δ G) fun p G1 => mLoop g b p.2 p.1 δ G1
/-- a list or a tuple -/
def iSeq (a : ME) : MI := fun δ G => bnd (a δ G) fun x G1 => (seqOf G1 x).map fun xs => ((xs, fun G' => seqOf G' x = some xs), G1)
/-- range(n), range(a, b) -/
def iRange1 (a : ME) : MI := fun δ G => bnd (a δ G) fun x G1 => match x with
  | .int b => if -(2 ^ 62) ≤ b ∧ b < 2 ^ 62 then some ((rng 0 b, fun _ => True), G1) else none
  | _ => none
def iRange2 (a b : ME) : MI := fun δ G => bnd (a δ G) fun x G1 => bnd (b δ G1) fun y G2 => match x, y with
  | .int i, .int j => if -(2 ^ 62) ≤ i ∧ i < 2 ^ 62 ∧ -(2 ^ 62) ≤ j ∧ j < 2 ^ 62 then some ((rng i j, fun _ => True), G2) else none
  | _, _ => none
/-- zip(a, b), a list and a list or tuple -/
def iZip (a b : ME) : MI := fun δ G => bnd (a δ G) fun x G1 => bnd (b δ G1) fun y G2 => match seqOf G2 x, seqOf G2 y with
  | some xs, some ys => some ((List.zipWith (fun p q => .tup [p, q]) xs ys, fun G' => seqOf G' x = some xs ∧ seqOf G' y = some ys), G2)
  | _, _ => none
def enumD : Nat → List Dv → List Dv
  | _, [] => []
  | i, x :: xs => .tup [.int (i : Nat), x] :: enumD (i + 1) xs
def iEnum (a : ME) : MI := fun δ G => bnd (a δ G) fun x G1 => match lstOf G1 x with
  | some xs => some ((enumD 0 xs, fun G' => lstOf G' x = some xs), G1)
  | none => none
/-- while, by fuel -/
def mWh (t : MT) (b : MS) : Nat → MS
  | 0, _, _ => none
  | n + 1, δ, G => match t δ G with
    | some (true, G1) => match b δ G1 with
      | some (.nx, δ2, G2) => mWh t b n δ2 G2
      | some (.ct, δ2, G2) => mWh t b n δ2 G2
      | some (.bk, δ2, G2) => some (.nx, δ2, G2)
      | r => r
    | some (false, G1) => some (.nx, δ, G1)
    | none => none
/-- slots forgotten -/
def wipe (δ : Sl) : List Nat → Sl
  | [] => δ
  | v :: vs => (wipe δ vs).set v none
open Classical in
/-- [e for g in it if t], the block's own slots vs -/
noncomputable def mLcLoop (g : MG) (t : MT) (e : ME) (st : Sto → Prop) (δ : Sl) : List Dv → List Dv → Sto → Rs (List Dv)
  | [], acc, G => if st G then some (acc, G) else none
  | d :: ds, acc, G => if st G ∧ acc.length < big then match g d δ G with
      | some (δ1, G1) => match t δ1 G1 with
        | some (true, G2) => match e δ1 G2 with
          | some (y, G3) => mLcLoop g t e st δ ds (acc ++ [y]) G3
          | none => none
        | some (false, G2) => mLcLoop g t e st δ ds acc G2
        | none => none
      | none => none
    else none
noncomputable def mLc (m : Bool) (it : MI) (g : MG) (t : MT) (e : ME) (vs : List Nat) : ME := fun δ G => bnd (it δ G) fun p G1 => bnd (mLcLoop g t e p.2 (wipe δ vs) p.1 [] G1) fun xs G2 => some (mkL m xs G2)
def tYes : MT := fun _ G => some (true, G)
end Mi

/-! PyS1: how the mirror's values and store lie in the layer's heap; growth. -/
namespace Ms
open PySem L2
open Mi (Dv MO Sto Sl Rs bnd ME MT MA MS MF Fl MG MGs MI)
/-- how the arguments of a call are told: a first one that is no star; none that is; names for all keywords, these -/
abbrev Es (X : Cx) (e : Expr) (es : List Expr) : Prop := starEach (e :: es) X.env = (false, eval e X.env) :: starEach es X.env
abbrev Np (X : Cx) (pos : Pos) (es : List Expr) : Prop := (backTo pos (starEach es X.env)).any (fun a => a.1) = false
abbrev Ka (X : Cx) (pos : Pos) (kws : List Keyword) : Prop := (backToKw pos (keywordEach kws X.env)).all (fun a => a.1.isSome) = true
abbrev Ks (X : Cx) (pos : Pos) (kws : List Keyword) (ks : List Str) : Prop := (backToKw pos (keywordEach kws X.env)).filterMap (fun a => a.1) = ks
/-- a call by a global name, its value known -/
theorem called_by {X : Cx} {pins : List (Addr × Obj)} {σ : L2.St} {H : Hp} {s : Shared} {x : Str} {p pos : Pos} {es : List Expr} {kws : List Keyword} {v : Value} {Q E : Value → Shared → Prop} (I : Inv X pins σ H s) (hg : Gl X x) (hm : X.mg x = some v) (hdb : (x == ("__debug__" : Str)) = false)
    (go : wpAny (model X.prog X.w) X.A (callWith pos v [] (backTo pos (starEach es X.env)) (backToKw pos (keywordEach kws X.env))) Q E s) : wpAny (model X.prog X.w) X.A (eval (.Call (.Name x p) es kws pos) X.env) Q E s :=
  wpAny_Call_Name_kw (ld_glob I hg hm go hdb)

/-- what stays for good and holds a list -/
def FzL (K : PySem.W.Frag) (H : Hp) (a : Addr) (xs : List V) : Prop :=
  (∃ o, H a = some (.frz o (.lst xs))) ∨ ∃ (o : Obj) (its : Array Value) (n : Nat), K.lookup a = some o ∧ o.cls = .type "list" ∧ o.dict = none ∧ o.data = .seq its n ∧ its.size ≤ sizeLine ∧ Vals xs its.toList
theorem FzL.sq {K : PySem.W.Frag} {H : Hp} {a : Addr} {xs : List V} (h : FzL K H a xs) : SqL K H a xs := by
  rcases h with ⟨o, h⟩ | h
  · exact .inl (.inr ⟨o, h⟩)
  · exact .inr h
/-- where the handles lie; x: cells that are being filled, by nobody else -/
structure Rh where
  r : List Addr
  x : List Addr
mutual
/-- the value v bears the datum d; ρ: where the handles lie -/
inductive DR (K : PySem.W.Frag) (ρ : Rh) (H : Hp) : Dv → V → Prop
  | non : DR K ρ H .non .non
  | bl (b : Bool) : DR K ρ H (.bl b) (.bl b)
  | int (i : Int) : DR K ρ H (.int i) (.int i)
  | str (x : String) : DR K ρ H (.str x) (.str (Str.ofString x))
  | tup {a : Addr} {xs : List V} {ds : List Dv} : SqT K H a xs → DRs K ρ H ds xs → DR K ρ H (.tup ds) (.ref a)
  | fls {a : Addr} {xs : List V} {ds : List Dv} : H a = some (.lst xs) → a ∉ ρ.r ∧ a ∉ ρ.x → DRs K ρ H ds xs → DR K ρ H (.fls ds) (.ref a)
  | scr {a : Addr} {ns : List Int} : FzL K H a (ns.map V.int) → DR K ρ H (.scr ns) (.ref a)
  | ref {h : Nat} {a : Addr} : ρ.r[h]? = some a → DR K ρ H (.ref h) (.ref a)
inductive DRs (K : PySem.W.Frag) (ρ : Rh) (H : Hp) : List Dv → List V → Prop
  | nil : DRs K ρ H [] []
  | cons {d : Dv} {ds : List Dv} {v : V} {vs : List V} : DR K ρ H d v → DRs K ρ H ds vs → DRs K ρ H (d :: ds) (v :: vs)
end
/-- growth: handles are added, what is tracked and no handle stays -/
structure Gr (ρ : Rh) (H : Hp) (ρ' : Rh) (H' : Hp) : Prop where
  pre : (∃ t, ρ'.r = ρ.r ++ t) ∧ ρ'.x = ρ.x
  new : ∀ a ∈ ρ'.r, a ∈ ρ.r ∨ H a = none
  kp : ∀ a o, H a = some o → a ∉ ρ.r → H' a = some o
  tu : ∀ a xs, H a = some (.tup xs) → H' a = some (.tup xs)
  fz : ∀ a o u, H a = some (.frz o u) → H' a = some (.frz o u)
theorem Gr.refl {ρ : Rh} {H : Hp} : Gr ρ H ρ H := ⟨⟨⟨[], by simp⟩, rfl⟩, fun _ h => .inl h, fun _ _ h _ => h, fun _ _ h => h, fun _ _ _ h => h⟩
theorem Gr.trans {ρ ρ1 ρ2 : Rh} {H H1 H2 : Hp} (a : Gr ρ H ρ1 H1) (b : Gr ρ1 H1 ρ2 H2) : Gr ρ H ρ2 H2 := by
  refine ⟨⟨?_, b.pre.2.trans a.pre.2⟩, fun c hc => ?_, fun c o h hc => ?_, fun c xs h => b.tu c xs (a.tu c xs h), fun c o u h => b.fz c o u (a.fz c o u h)⟩
  · obtain ⟨s, e1⟩ := a.pre.1
    obtain ⟨t, e2⟩ := b.pre.1
    exact ⟨s ++ t, by rw [e2, e1]; simp⟩
  · rcases b.new c hc with h | h
    · exact a.new c h
    · by_cases hp : c ∈ ρ.r
      · exact .inl hp
      · refine .inr ?_
        cases e : H c with
        | none => rfl
        | some o =>
          have := a.kp c o e hp
          rw [h] at this
          cases this
  · refine b.kp c o (a.kp c o h hc) fun hm => ?_
    rcases a.new c hm with z | z
    · exact hc z
    · rw [z] at h
      cases h
/-- the same, weaker: cells that are being filled may come, go and change -/
structure Gw (ρ : Rh) (H : Hp) (ρ' : Rh) (H' : Hp) : Prop where
  pre : ∃ t, ρ'.r = ρ.r ++ t
  nl : ∀ a xs, H a = some (.lst xs) → a ∉ ρ.r → a ∉ ρ.x → H' a = some (.lst xs) ∧ a ∉ ρ'.r ∧ a ∉ ρ'.x
  tu : ∀ a xs, H a = some (.tup xs) → H' a = some (.tup xs)
  fz : ∀ a o u, H a = some (.frz o u) → H' a = some (.frz o u)
theorem Gr.w {ρ ρ' : Rh} {H H' : Hp} (g : Gr ρ H ρ' H') : Gw ρ H ρ' H' := ⟨g.pre.1, fun a xs h n1 n2 => ⟨g.kp _ _ h n1, (fun z => (g.new _ z).elim n1 fun q => (by rw [q] at h; cases h)), by rw [g.pre.2]; exact n2⟩, g.tu, g.fz⟩
theorem Gw.refl {ρ : Rh} {H : Hp} : Gw ρ H ρ H := Gr.refl.w
theorem Gw.trans {ρ ρ1 ρ2 : Rh} {H H1 H2 : Hp} (a : Gw ρ H ρ1 H1) (b : Gw ρ1 H1 ρ2 H2) : Gw ρ H ρ2 H2 := by
  refine ⟨?_, fun c xs h n1 n2 => ?_, fun c xs h => b.tu c xs (a.tu c xs h), fun c o u h => b.fz c o u (a.fz c o u h)⟩
  · obtain ⟨s, e1⟩ := a.pre
    obtain ⟨t, e2⟩ := b.pre
    exact ⟨s ++ t, by rw [e2, e1]; simp⟩
  · obtain ⟨h1, m1, m2⟩ := a.nl c xs h n1 n2
    exact b.nl c xs h1 m1 m2
theorem SqT.gw {K : PySem.W.Frag} {ρ ρ' : Rh} {H H' : Hp} {a : Addr} {xs : List V} (g : Gw ρ H ρ' H') (h : SqT K H a xs) : SqT K H' a xs := by
  exact h.imp (fun z => z.imp (g.tu _ _) fun ⟨o, q⟩ => ⟨o, g.fz _ _ _ q⟩) id
theorem FzL.gw {K : PySem.W.Frag} {ρ ρ' : Rh} {H H' : Hp} {a : Addr} {xs : List V} (g : Gw ρ H ρ' H') (h : FzL K H a xs) : FzL K H' a xs := by
  rcases h with ⟨o, h⟩ | h
  · exact .inl ⟨o, g.fz _ _ _ h⟩
  · exact .inr h
section
variable {K : PySem.W.Frag} {ρ ρ' : Rh} {H H' : Hp}
mutual
theorem DR.gw (g : Gw ρ H ρ' H') : ∀ {d : Dv} {v : V}, DR K ρ H d v → DR K ρ' H' d v
  | _, _, .non => .non
  | _, _, .bl b => .bl b
  | _, _, .int i => .int i
  | _, _, .str x => .str x
  | _, _, .tup h r => .tup (SqT.gw g h) (DRs.gw g r)
  | _, _, .fls h n r => .fls (g.nl _ _ h n.1 n.2).1 (g.nl _ _ h n.1 n.2).2 (DRs.gw g r)
  | _, _, .scr h => .scr (h.gw g)
  | _, _, .ref h => .ref (by
      obtain ⟨t, e⟩ := g.pre
      rw [e, List.getElem?_append_left (List.getElem?_eq_some_iff.mp h).1]
      exact h)
theorem DRs.gw (g : Gw ρ H ρ' H') : ∀ {ds : List Dv} {vs : List V}, DRs K ρ H ds vs → DRs K ρ' H' ds vs
  | _, _, .nil => .nil
  | _, _, .cons a b => .cons (DR.gw g a) (DRs.gw g b)
end
theorem DR.gr (g : Gr ρ H ρ' H') {d : Dv} {v : V} (h : DR K ρ H d v) : DR K ρ' H' d v := h.gw g.w
theorem DRs.gr (g : Gr ρ H ρ' H') {ds : List Dv} {vs : List V} (h : DRs K ρ H ds vs) : DRs K ρ' H' ds vs := h.gw g.w
theorem SqT.gr {a : Addr} {xs : List V} (g : Gr ρ H ρ' H') (h : SqT K H a xs) : SqT K H' a xs := SqT.gw g.w h
theorem DRs.len : ∀ {ds : List Dv} {vs : List V}, DRs K ρ H ds vs → ds.length = vs.length
  | _, _, .nil => rfl
  | _, _, .cons _ b => by rw [List.length_cons, List.length_cons, DRs.len b]
theorem DRs.app : ∀ {ds es : List Dv} {vs ws : List V}, DRs K ρ H ds vs → DRs K ρ H es ws → DRs K ρ H (ds ++ es) (vs ++ ws)
  | _, _, _, _, .nil, q => q
  | _, _, _, _, .cons a b, q => .cons a (DRs.app b q)
theorem DRs.get : ∀ {ds : List Dv} {vs : List V} {i : Nat} {d : Dv}, DRs K ρ H ds vs → ds[i]? = some d → ∃ v, vs[i]? = some v ∧ DR K ρ H d v
  | _, _, i, _, .nil, e => by rw [List.getElem?_nil] at e; cases e
  | _, _, 0, _, .cons a b, e => by
    simp at e
    subst e
    exact ⟨_, rfl, a⟩
  | _, _, i + 1, _, .cons a b, e => by
    obtain ⟨v, h1, h2⟩ := DRs.get b (i := i) (by simpa using e)
    exact ⟨v, by simpa using h1, h2⟩
theorem DRs.set : ∀ {ds : List Dv} {vs : List V} (i : Nat) {d : Dv} {v : V}, DRs K ρ H ds vs → DR K ρ H d v → DRs K ρ H (ds.set i d) (vs.set i v)
  | _, _, _, _, _, .nil, _ => .nil
  | _, _, 0, _, _, .cons a b, q => .cons q b
  | _, _, i + 1, _, _, .cons a b, q => .cons a (DRs.set i b q)
theorem DRs.take : ∀ {ds : List Dv} {vs : List V} (n : Nat), DRs K ρ H ds vs → DRs K ρ H (ds.take n) (vs.take n)
  | _, _, 0, _ => .nil
  | _, _, _ + 1, .nil => .nil
  | _, _, n + 1, .cons a b => .cons a (DRs.take n b)
theorem DRs.drop : ∀ {ds : List Dv} {vs : List V} (n : Nat), DRs K ρ H ds vs → DRs K ρ H (ds.drop n) (vs.drop n)
  | _, _, 0, r => r
  | _, _, _ + 1, .nil => .nil
  | _, _, n + 1, .cons _ b => DRs.drop n b
theorem DRs.rev : ∀ {ds : List Dv} {vs : List V}, DRs K ρ H ds vs → DRs K ρ H ds.reverse vs.reverse
  | _, _, .nil => .nil
  | _, _, .cons a b => by
    simp only [List.reverse_cons]
    exact DRs.app (DRs.rev b) (.cons a .nil)
theorem DRs.rep {ds : List Dv} {vs : List V} (r : DRs K ρ H ds vs) : ∀ n : Nat, DRs K ρ H (List.replicate n ds).flatten (List.replicate n vs).flatten
  | 0 => .nil
  | n + 1 => by
    simp only [List.replicate_succ, List.flatten_cons]
    exact DRs.app r (DRs.rep r n)
theorem DRs.ints : ∀ {ns : List Int}, DRs K ρ H (ns.map Dv.int) (ns.map V.int)
  | [] => .nil
  | n :: r => .cons (.int n) DRs.ints
theorem DRs.isNil {ds : List Dv} {vs : List V} (r : DRs K ρ H ds vs) : ds = [] ↔ vs = [] := by
  cases r <;> simp
theorem DRs.emp {ds : List Dv} {vs : List V} (r : DRs K ρ H ds vs) : ds.isEmpty = vs.isEmpty := by
  cases r <;> rfl
end

/-! ### what the handles hold -/
inductive AR {α β : Type} (R : α → β → Prop) : List α → List β → Prop
  | nil : AR R [] []
  | cons {a : α} {as : List α} {b : β} {bs : List β} : R a b → AR R as bs → AR R (a :: as) (b :: bs)
theorem AR.imp {α β : Type} {R S : α → β → Prop} (h : ∀ a b, R a b → S a b) : ∀ {as : List α} {bs : List β}, AR R as bs → AR S as bs
  | _, _, .nil => .nil
  | _, _, .cons a b => .cons (h _ _ a) (AR.imp h b)
theorem AR.len {α β : Type} {R : α → β → Prop} : ∀ {as : List α} {bs : List β}, AR R as bs → as.length = bs.length
  | _, _, .nil => rfl
  | _, _, .cons _ b => by rw [List.length_cons, List.length_cons, AR.len b]
theorem AR.app {α β : Type} {R : α → β → Prop} : ∀ {as cs : List α} {bs ds : List β}, AR R as bs → AR R cs ds → AR R (as ++ cs) (bs ++ ds)
  | _, _, _, _, .nil, q => q
  | _, _, _, _, .cons a b, q => .cons a (AR.app b q)
/-- what the text fixes beside K: the classes' places by their numbers, the constants of the top with their data -/
structure Kx where
  ca : Nat → Addr
  cs : List (V × Dv)
def kK : Mi.Key → L2.Key
  | .inl i => .inl i
  | .inr x => .inr (Str.ofString x)
theorem ofString_inj {a b : String} (h : Str.ofString a = Str.ofString b) : a = b := by
  have h1 : (cpsOfBytes 0 0 a.toByteArray.data.toList).toArray = (cpsOfBytes 0 0 b.toByteArray.data.toList).toArray := congrArg Str.cps h
  have h2 : cpsOfBytes 0 0 a.toByteArray.data.toList = cpsOfBytes 0 0 b.toByteArray.data.toList := by simpa using h1
  rw [cpsOfBytes_string, cpsOfBytes_string] at h2
  have h3 : a.toList = b.toList := by
    have inj : ∀ {x y : List Char}, x.map Char.toNat = y.map Char.toNat → x = y := by
      intro x
      induction x with
      | nil => intro y e; cases y with
        | nil => rfl
        | cons _ _ => simp at e
      | cons c t ih => intro y e; cases y with
        | nil => simp at e
        | cons d u =>
          rw [List.map_cons, List.map_cons, List.cons.injEq] at e
          have e1 : c = d := Char.ext (UInt32.toNat_inj.mp e.1)
          rw [e1, ih e.2]
    exact inj h2
  exact String.toList_inj.mp h3
theorem kK_inj {a b : Mi.Key} (h : kK a = kK b) : a = b := by
  cases a with
  | inl i => cases b with
    | inl j =>
      have : i = j := Sum.inl.inj h
      rw [this]
    | inr y => exact nomatch h
  | inr x => cases b with
    | inl j => exact nomatch h
    | inr y =>
      have : Str.ofString x = Str.ofString y := Sum.inr.inj h
      rw [ofString_inj this]
abbrev KR (K : PySem.W.Frag) (ρ : Rh) (H : Hp) : List (Mi.Key × Dv) → List (L2.Key × V) → Prop := AR fun p q => q.1 = kK p.1 ∧ DR K ρ H p.2 q.2
abbrev FR (K : PySem.W.Frag) (ρ : Rh) (H : Hp) : List (String × Dv) → List (Str × V) → Prop := AR fun p q => q.1 = Str.ofString p.1 ∧ DR K ρ H p.2 q.2
inductive OR (K : PySem.W.Frag) (kx : Kx) (ρ : Rh) (H : Hp) (a : Addr) : MO → Prop
  | lst {xs : List V} {ds : List Dv} : H a = some (.lst xs) → DRs K ρ H ds xs → OR K kx ρ H a (.lst ds)
  | dct {ks : List (L2.Key × V)} {kvs : List (Mi.Key × Dv)} : H a = some (.dK ks) → KR K ρ H kvs ks → OR K kx ρ H a (.dct kvs)
  | ins {dx : Addr} {fs' : List (Str × V)} {c : Nat} {fs : List (String × Dv)} : H a = some (.ins (kx.ca c) dx fs') → FR K ρ H fs fs' → OR K kx ρ H a (.ins c fs)
theorem OR.gw {K : PySem.W.Frag} {kx : Kx} {ρ ρ' : Rh} {H H' : Hp} {a : Addr} {o : MO} (g : Gw ρ H ρ' H') (e : H' a = H a) (h : OR K kx ρ H a o) : OR K kx ρ' H' a o := by
  cases h with
  | lst h r => exact .lst (e.trans h) (r.gw g)
  | dct h r => exact .dct (e.trans h) (r.imp fun _ _ q => ⟨q.1, q.2.gw g⟩)
  | ins h r => exact .ins (e.trans h) (r.imp fun _ _ q => ⟨q.1, q.2.gw g⟩)
theorem OR.gr {K : PySem.W.Frag} {kx : Kx} {ρ ρ' : Rh} {H H' : Hp} {a : Addr} {o : MO} (g : Gr ρ H ρ' H') (e : H' a = H a) (h : OR K kx ρ H a o) : OR K kx ρ' H' a o := h.gw g.w e
/-- a handle's object may be written -/
theorem OR.kind {K : PySem.W.Frag} {kx : Kx} {ρ : Rh} {H : Hp} {a : Addr} {o : MO} (h : OR K kx ρ H a o) : (∃ u, H a = some u) ∧ (∀ xs, H a ≠ some (.tup xs)) ∧ ∀ p u, H a ≠ some (.frz p u) := by
  cases h with
  | lst h r => exact ⟨⟨_, h⟩, (fun xs z => by rw [h] at z; cases z), (fun p u z => by rw [h] at z; cases z)⟩
  | dct h r => exact ⟨⟨_, h⟩, (fun xs z => by rw [h] at z; cases z), (fun p u z => by rw [h] at z; cases z)⟩
  | ins h r => exact ⟨⟨_, h⟩, (fun xs z => by rw [h] at z; cases z), (fun p u z => by rw [h] at z; cases z)⟩
/-- the store lies in the heap -/
structure Rl (K : PySem.W.Frag) (kx : Kx) (ρ : Rh) (G : Sto) (H : Hp) : Prop where
  len : ρ.r.length = G.length
  nd : ρ.r.Nodup
  ob : ∀ (h : Nat) (o : MO), G[h]? = some o → ∃ a, ρ.r[h]? = some a ∧ OR K kx ρ H a o
  gl : ∀ p ∈ kx.cs, DR K ρ H p.2 p.1
  xt : ∀ a ∈ ρ.x, (∃ o, H a = some o) ∧ a ∉ ρ.r
section
variable {K : PySem.W.Frag} {kx : Kx} {ρ ρ' : Rh} {G : Sto} {H H' : Hp}
theorem Rl.at (r : Rl K kx ρ G H) {h : Nat} {a : Addr} {o : MO} (e : ρ.r[h]? = some a) (eo : G[h]? = some o) : OR K kx ρ H a o := by
  obtain ⟨b, hb, q⟩ := r.ob h o eo
  rw [e] at hb
  cases hb
  exact q
theorem Rl.mem (r : Rl K kx ρ G H) {a : Addr} (h : a ∈ ρ.r) : ∃ o, OR K kx ρ H a o := by
  obtain ⟨i, hi, e⟩ := List.getElem_of_mem h
  have hg : i < G.length := by rw [← r.len]; exact hi
  obtain ⟨b, hb, q⟩ := r.ob i G[i] (List.getElem?_eq_getElem hg)
  rw [List.getElem?_eq_getElem hi, e] at hb
  cases hb
  exact ⟨_, q⟩
theorem Rl.free (r : Rl K kx ρ G H) {a : Addr} (h : H a = none) : a ∉ ρ.r ∧ a ∉ ρ.x := by
  constructor <;> intro z
  · obtain ⟨o, q⟩ := r.mem z
    obtain ⟨⟨u, e⟩, _⟩ := q.kind
    rw [h] at e
    cases e
  · obtain ⟨⟨o, e⟩, _⟩ := r.xt a z
    rw [h] at e
    cases e
/-- the cells that are being filled stay apart -/
theorem Rl.xs (r : Rl K kx ρ G H) (g : Gr ρ H ρ' H') : ∀ a ∈ ρ'.x, (∃ o, H' a = some o) ∧ a ∉ ρ'.r := fun a ha => by
  rw [g.pre.2] at ha
  obtain ⟨⟨o, e⟩, n⟩ := r.xt a ha
  refine ⟨⟨o, g.kp a o e n⟩, fun z => ?_⟩
  rcases g.new a z with q | q
  · exact n q
  · rw [q] at e
    cases e
/-- the handles' cells are as they were -/
theorem Rl.keep (r : Rl K kx ρ G H) (g : Gr ρ H ρ H') (h : ∀ a ∈ ρ.r, H' a = H a) : Rl K kx ρ G H' :=
  ⟨r.len, r.nd, (fun i o e => by
    obtain ⟨a, h1, h2⟩ := r.ob i o e
    exact ⟨a, h1, h2.gr g (h a (List.mem_of_getElem? h1))⟩), fun p hp => (r.gl p hp).gr g, r.xs g⟩
/-- a new cell beside -/
theorem Rl.side (r : Rl K kx ρ G H) {p : Addr} (o : HO) (h : H p = none) : Gr ρ H ρ (upd H p o) ∧ Rl K kx ρ G (upd H p o) := by
  have g : Gr ρ H ρ (upd H p o) := ⟨⟨⟨[], by simp⟩, rfl⟩, fun _ z => .inl z, fun a u e _ => by rw [upd_ne (ne_of_none e h)]; exact e, fun a u e => by rw [upd_ne (ne_of_none e h)]; exact e, fun a u v e => by rw [upd_ne (ne_of_none e h)]; exact e⟩
  refine ⟨g, r.keep g fun a ha => upd_ne fun z => (r.free h).1 (z ▸ ha)⟩
/-- one more handle -/
abbrev Rh.snoc (ρ : Rh) (p : Addr) : Rh := ⟨ρ.r ++ [p], ρ.x⟩
/-- a new handle -/
theorem Rl.grow (r : Rl K kx ρ G H) {p : Addr} {o : HO} {m : MO} (h : H p = none) (q : ∀ g : Gr ρ H (ρ.snoc p) (upd H p o), OR K kx (ρ.snoc p) (upd H p o) p m) : Gr ρ H (ρ.snoc p) (upd H p o) ∧ Rl K kx (ρ.snoc p) (G ++ [m]) (upd H p o) := by
  have g : Gr ρ H (ρ.snoc p) (upd H p o) := ⟨⟨⟨[p], rfl⟩, rfl⟩, (fun a z => by
      rcases List.mem_append.mp z with z | z
      · exact .inl z
      · have e : a = p := by simpa using z
        rw [e]
        exact .inr h), (fun a u e _ => by rw [upd_ne (ne_of_none e h)]; exact e), (fun a u e => by rw [upd_ne (ne_of_none e h)]; exact e), (fun a u v e => by rw [upd_ne (ne_of_none e h)]; exact e)⟩
  refine ⟨g, by rw [List.length_append, List.length_append, r.len]; rfl, ?_, fun i u e => ?_, fun c hc => (r.gl c hc).gr g, r.xs g⟩
  · rw [List.nodup_append]
    exact ⟨r.nd, by simp, fun a ha b hb z => by
      have e : b = p := by simpa using hb
      exact (r.free h).1 (by rw [← e, ← z]; exact ha)⟩
  · by_cases hi : i < G.length
    · rw [List.getElem?_append_left hi] at e
      obtain ⟨a, h1, h2⟩ := r.ob i u e
      refine ⟨a, by rw [List.getElem?_append_left (by rw [r.len]; exact hi)]; exact h1, h2.gr g (upd_ne fun z => (r.free h).1 (z ▸ List.mem_of_getElem? h1))⟩
    · rw [List.getElem?_append_right (by omega)] at e
      have e0 : i - G.length = 0 := by
        by_cases z : i - G.length = 0
        · exact z
        · rw [List.getElem?_eq_none (by simp; omega)] at e
          cases e
      have e1 : i = G.length := by omega
      rw [e0] at e
      simp at e
      subst e
      refine ⟨p, ?_, q g⟩
      rw [e1, ← r.len, List.getElem?_append_right (Nat.le_refl _)]
      simp
/-- a handle's object is written -/
theorem Rl.wr (r : Rl K kx ρ G H) {h : Nat} {a : Addr} {o : HO} {m : MO} (e : ρ.r[h]? = some a) (q : ∀ g : Gr ρ H ρ (upd H a o), OR K kx ρ (upd H a o) a m) : Gr ρ H ρ (upd H a o) ∧ Rl K kx ρ (G.set h m) (upd H a o) := by
  have ha : a ∈ ρ.r := List.mem_of_getElem? e
  obtain ⟨_, k0⟩ := r.mem ha
  obtain ⟨_, k1, k2⟩ := k0.kind
  have g : Gr ρ H ρ (upd H a o) := ⟨⟨⟨[], by simp⟩, rfl⟩, fun _ z => .inl z, (fun b u z n => (upd_ne (b := b) (a := a) (fun w => n (by rw [w]; exact ha))).trans z), (fun b u z => (upd_ne (b := b) (a := a) (fun w => k1 u (by rw [← w]; exact z))).trans z), (fun b u v z => (upd_ne (b := b) (a := a) (fun w => k2 u v (by rw [← w]; exact z))).trans z)⟩
  refine ⟨g, by rw [List.length_set]; exact r.len, r.nd, fun i u ei => ?_, fun c hc => (r.gl c hc).gr g, r.xs g⟩
  by_cases hi : i = h
  · subst hi
    have hl : i < G.length := by rw [← r.len]; exact (List.getElem?_eq_some_iff.mp e).1
    rw [List.getElem?_set_self hl] at ei
    cases ei
    exact ⟨a, e, q g⟩
  · rw [List.getElem?_set_ne (Ne.symm hi)] at ei
    obtain ⟨b, h1, h2⟩ := r.ob i u ei
    refine ⟨b, h1, h2.gr g (upd_ne fun z => hi ?_)⟩
    subst z
    obtain ⟨l1, e1⟩ := List.getElem?_eq_some_iff.mp h1
    obtain ⟨l2, e2⟩ := List.getElem?_eq_some_iff.mp e
    exact (List.getElem_inj r.nd).mp (e1.trans e2.symm)
end
section
variable {K : PySem.W.Frag} {kx : Kx} {ρ : Rh} {G : Sto} {H : Hp}
/-- a new list that is being filled -/
theorem Rl.fill (r : Rl K kx ρ G H) {p : Addr} (xs : List V) (h : H p = none) : Gw ρ H ⟨ρ.r, p :: ρ.x⟩ (upd H p (.lst xs)) ∧ Rl K kx ⟨ρ.r, p :: ρ.x⟩ G (upd H p (.lst xs)) := by
  have g : Gw ρ H ⟨ρ.r, p :: ρ.x⟩ (upd H p (.lst xs)) := ⟨⟨[], by simp⟩, (fun a ys e n1 n2 => ⟨(by rw [upd_ne (ne_of_none e h)]; exact e), n1, fun z => (List.mem_cons.mp z).elim (ne_of_none e h) n2⟩), (fun a u e => by rw [upd_ne (ne_of_none e h)]; exact e), (fun a u v e => by rw [upd_ne (ne_of_none e h)]; exact e)⟩
  refine ⟨g, r.len, r.nd, fun i o e => ?_, fun c hc => (r.gl c hc).gw g, fun a ha => ?_⟩
  · obtain ⟨a, h1, h2⟩ := r.ob i o e
    exact ⟨a, h1, h2.gw g (upd_ne fun z => (r.free h).1 (z ▸ List.mem_of_getElem? h1))⟩
  · rcases List.mem_cons.mp ha with z | z
    · subst z
      exact ⟨⟨_, upd_same⟩, (r.free h).1⟩
    · obtain ⟨⟨o, e⟩, n⟩ := r.xt a z
      exact ⟨⟨o, by rw [upd_ne (ne_of_none e h)]; exact e⟩, n⟩
/-- it is filled on -/
theorem Rl.more (r : Rl K kx ρ G H) {p : Addr} {xs : List V} (ys : List V) (hp : p ∈ ρ.x) (h : H p = some (.lst xs)) : Gw ρ H ρ (upd H p (.lst ys)) ∧ Rl K kx ρ G (upd H p (.lst ys)) := by
  have g : Gw ρ H ρ (upd H p (.lst ys)) := ⟨⟨[], by simp⟩, (fun a us e n1 n2 => ⟨(upd_ne (b := a) (a := p) (fun z => n2 (by rw [z]; exact hp))).trans e, n1, n2⟩), (fun a u e => (upd_ne (b := a) (a := p) (fun z => by rw [z, h] at e; cases e)).trans e), (fun a u v e => (upd_ne (b := a) (a := p) (fun z => by rw [z, h] at e; cases e)).trans e)⟩
  refine ⟨g, r.len, r.nd, fun i o e => ?_, fun c hc => (r.gl c hc).gw g, fun a ha => ?_⟩
  · obtain ⟨a, h1, h2⟩ := r.ob i o e
    exact ⟨a, h1, h2.gw g (upd_ne fun z => (r.xt p hp).2 (z ▸ List.mem_of_getElem? h1))⟩
  · obtain ⟨⟨o, e⟩, n⟩ := r.xt a ha
    refine ⟨?_, n⟩
    by_cases z : a = p
    · subst z
      exact ⟨_, upd_same⟩
    · exact ⟨o, by rw [upd_ne z]; exact e⟩
/-- it is full, and stays -/
theorem Rl.full {r0 x0 : List Addr} {p : Addr} (r : Rl K kx ⟨r0, p :: x0⟩ G H) : Gw ⟨r0, p :: x0⟩ H ⟨r0, x0⟩ H ∧ Rl K kx ⟨r0, x0⟩ G H := by
  have g : Gw ⟨r0, p :: x0⟩ H ⟨r0, x0⟩ H := ⟨⟨[], by simp⟩, fun a us e n1 n2 => ⟨e, n1, fun z => n2 (List.mem_cons_of_mem _ z)⟩, fun a u e => e, fun a u v e => e⟩
  exact ⟨g, r.len, r.nd, (fun i o e => by
    obtain ⟨a, h1, h2⟩ := r.ob i o e
    exact ⟨a, h1, h2.gw g rfl⟩), fun c hc => (r.gl c hc).gw g, fun a ha => r.xt a (List.mem_cons_of_mem _ ha)⟩
/-- it is full, and gets a handle -/
theorem Rl.fullM {r0 x0 : List Addr} {p : Addr} {xs : List V} {ds : List Dv} (r : Rl K kx ⟨r0, p :: x0⟩ G H) (np : p ∉ x0) (h : H p = some (.lst xs)) (d : DRs K ⟨r0, p :: x0⟩ H ds xs) : Gw ⟨r0, p :: x0⟩ H ⟨r0 ++ [p], x0⟩ H ∧ Rl K kx ⟨r0 ++ [p], x0⟩ (G ++ [.lst ds]) H := by
  have hpr : p ∉ r0 := (r.xt p (List.mem_cons_self ..)).2
  have g : Gw ⟨r0, p :: x0⟩ H ⟨r0 ++ [p], x0⟩ H := ⟨⟨[p], rfl⟩, (fun a us e n1 n2 => ⟨e, (fun z => by
      rcases List.mem_append.mp z with z | z
      · exact n1 z
      · exact n2 (by have : a = p := by simpa using z
                     rw [this]; exact List.mem_cons_self ..)), fun z => n2 (List.mem_cons_of_mem _ z)⟩), fun a u e => e, fun a u v e => e⟩
  refine ⟨g, by simp [show r0.length = G.length from r.len], ?_, fun i o e => ?_, fun c hc => (r.gl c hc).gw g, fun a ha => ?_⟩
  · show (r0 ++ [p]).Nodup
    rw [List.nodup_append]
    exact ⟨r.nd, by simp, fun a ha b hb z => by
      have e : b = p := by simpa using hb
      exact hpr (by rw [← e, ← z]; exact ha)⟩
  · have hl : r0.length = G.length := r.len
    by_cases hi : i < G.length
    · rw [List.getElem?_append_left hi] at e
      obtain ⟨a, h1, h2⟩ := r.ob i o e
      exact ⟨a, by show (r0 ++ [p])[i]? = _; rw [List.getElem?_append_left (by omega)]; exact h1, h2.gw g rfl⟩
    · have e1 : i = G.length := by
        have := (List.getElem?_eq_some_iff.mp e).1
        simp at this
        omega
      subst e1
      rw [List.getElem?_append_right (Nat.le_refl _)] at e
      simp at e
      subst e
      exact ⟨p, by show (r0 ++ [p])[G.length]? = _; rw [← hl, List.getElem?_append_right (Nat.le_refl _)]; simp, .lst h (d.gw g)⟩
  · obtain ⟨e, n⟩ := r.xt a (List.mem_cons_of_mem _ ha)
    refine ⟨e, fun z => ?_⟩
    rcases List.mem_append.mp z with z | z
    · exact n z
    · have : a = p := by simpa using z
      exact np (this ▸ ha)
end
/-- the slots bear their data -/
structure Sr (K : PySem.W.Frag) (ρ : Rh) (H : Hp) (δ : Sl) (σ : St) : Prop where
  len : δ.length = σ.length
  at_ : ∀ (i : Nat) (d : Dv), δ[i]? = some (some d) → ∃ v, σ[i]? = some (some v) ∧ DR K ρ H d v
section
variable {K : PySem.W.Frag} {ρ ρ' : Rh} {H H' : Hp} {δ : Sl} {σ : St}
theorem Sr.gw (s : Sr K ρ H δ σ) (g : Gw ρ H ρ' H') : Sr K ρ' H' δ σ := ⟨s.len, fun i d e => let ⟨v, h1, h2⟩ := s.at_ i d e; ⟨v, h1, h2.gw g⟩⟩
theorem Sr.gr (s : Sr K ρ H δ σ) (g : Gr ρ H ρ' H') : Sr K ρ' H' δ σ := ⟨s.len, fun i d e => let ⟨v, h1, h2⟩ := s.at_ i d e; ⟨v, h1, h2.gr g⟩⟩
theorem Sr.set (s : Sr K ρ H δ σ) {d : Dv} {v : V} (i : Nat) (h : DR K ρ H d v) : Sr K ρ H (δ.set i (some d)) (σ.set i (some v)) := by
  refine ⟨by rw [List.length_set, List.length_set]; exact s.len, fun j e hj => ?_⟩
  by_cases hij : j = i
  · subst hij
    have hl : j < δ.length := by
      have := (List.getElem?_eq_some_iff.mp hj).1
      rw [List.length_set] at this
      exact this
    rw [List.getElem?_set_self hl] at hj
    cases hj
    exact ⟨v, List.getElem?_set_self (by rw [← s.len]; exact hl), h⟩
  · rw [List.getElem?_set_ne (Ne.symm hij)] at hj
    obtain ⟨w, h1, h2⟩ := s.at_ j e hj
    exact ⟨w, by rw [List.getElem?_set_ne (Ne.symm hij)]; exact h1, h2⟩
theorem Sr.wipe (s : Sr K ρ H δ σ) : ∀ vs : List Nat, Sr K ρ H (Mi.wipe δ vs) (L2.wipe σ vs)
  | [] => s
  | i :: vs => by
    have t := Sr.wipe s vs
    show Sr K ρ H ((Mi.wipe δ vs).set i none) ((L2.wipe σ vs).set i none)
    refine ⟨by rw [List.length_set, List.length_set]; exact t.len, fun j e hj => ?_⟩
    by_cases hij : j = i
    · subst hij
      have hl : j < (Mi.wipe δ vs).length := by
        have := (List.getElem?_eq_some_iff.mp hj).1
        rw [List.length_set] at this
        exact this
      rw [List.getElem?_set_self hl] at hj
      cases hj
    · rw [List.getElem?_set_ne (Ne.symm hij)] at hj
      obtain ⟨w, h1, h2⟩ := t.at_ j e hj
      exact ⟨w, by rw [List.getElem?_set_ne (Ne.symm hij)]; exact h1, h2⟩
theorem Sr.start {N : List Str} : ∀ {xs : List Dv} {vs : List V}, DRs K ρ H xs vs → Sr K ρ H (xs.map some ++ List.replicate (N.length - vs.length) none) (start N vs) := fun {xs vs} r => by
  have hl := r.len
  refine ⟨by unfold L2.start; simp [hl], fun i d e => ?_⟩
  have hi : i < xs.length := by
    by_cases hi : i < xs.length
    · exact hi
    · rw [List.getElem?_append_right (by simp; omega), List.getElem?_replicate] at e
      split at e <;> cases e
  rw [List.getElem?_append_left (by simpa using hi), List.getElem?_map] at e
  cases ex : xs[i]? with
  | none => rw [ex] at e; cases e
  | some d' =>
    rw [ex] at e
    cases e
    obtain ⟨v, h1, h2⟩ := r.get ex
    refine ⟨v, ?_, h2⟩
    unfold L2.start
    rw [List.getElem?_append_left (by rw [List.length_map]; omega), List.getElem?_map, h1]
    rfl
end
end Ms

/-! PyS2: readings from the mirror; expressions. -/
namespace Ms
open PySem L2
open Mi (Dv MO Sto Sl Rs bnd ME MT MA MS MF Fl MG MGs MI)

def tM (K : PySem.W.Frag) (kx : Kx) (m : ME) : TE := fun σ H Q => ∃ (ρ : Rh) (G : Sto) (δ : Sl) (d : Dv) (G' : Sto), Rl K kx ρ G H ∧ Sr K ρ H δ σ ∧ m δ G = some (d, G') ∧
  ∀ v ρ' H', Gr ρ H ρ' H' → Rl K kx ρ' G' H' → DR K ρ' H' d v → Q v H'
def tMT (K : PySem.W.Frag) (kx : Kx) (m : MT) : TT := fun σ H Q => ∃ (ρ : Rh) (G : Sto) (δ : Sl) (b : Bool) (G' : Sto), Rl K kx ρ G H ∧ Sr K ρ H δ σ ∧ m δ G = some (b, G') ∧
  ∀ ρ' H', Gr ρ H ρ' H' → Rl K kx ρ' G' H' → Q b H'
def tMA (K : PySem.W.Frag) (kx : Kx) (m : MA) : TA := fun σ H Q => ∃ (ρ : Rh) (G : Sto) (δ : Sl) (ds : List Dv) (G' : Sto), Rl K kx ρ G H ∧ Sr K ρ H δ σ ∧ m δ G = some (ds, G') ∧
  ∀ vs ρ' H', Gr ρ H ρ' H' → Rl K kx ρ' G' H' → DRs K ρ' H' ds vs → Q vs H'
theorem _root_.L2.PE.imp {X : Cx} {e : Expr} {t u : TE} (h : PE X e t) (i : ∀ σ H Q, u σ H Q → t σ H Q) : PE X e u := ⟨fun pins s σ H Q I q => h.run pins s σ H Q I (i σ H Q q)⟩
theorem _root_.L2.PT.imp {X : Cx} {e : Expr} {t u : TT} (h : PT X e t) (i : ∀ σ H Q, u σ H Q → t σ H Q) : PT X e u := ⟨fun pins s σ H Q I q => h.run pins s σ H Q I (i σ H Q q)⟩
theorem _root_.L2.PW.imp {X : Cx} {e : Expr} {t u : TT} (h : PW X e t) (i : ∀ σ H Q, u σ H Q → t σ H Q) : PW X e u := ⟨fun w pins s σ H Q I q => h.run w pins s σ H Q I (i σ H Q q)⟩
theorem _root_.L2.PA.imp {X : Cx} {e : List Expr} {t u : TA} (h : PA X e t) (i : ∀ σ H Q, u σ H Q → t σ H Q) : PA X e u := ⟨fun p pins s σ H Q I q => h.run p pins s σ H Q I (i σ H Q q)⟩
/-- one of two readings, chosen by what holds -/
theorem _root_.L2.PE.or {X : Cx} {e : Expr} {t u : TE} (h : PE X e t) (h' : PE X e u) : PE X e (fun σ H Q => t σ H Q ∨ u σ H Q) := ⟨fun pins s σ H Q I q => q.elim (h.run pins s σ H Q I) (h'.run pins s σ H Q I)⟩
theorem big_line : Mi.big = sizeLine := by
  rw [sizeLine_eq]
  rfl
section
variable {X : Cx} {kx : Kx} {e a b c : Expr} {ma mb mc me : ME} {pos : Pos}

/-! ### names, constants -/
theorem m_var (i : Nat) {x : Str} (hN : X.N[i]? = some x := by rfl) (hv : Vis X.env.scope x := by first | exact Or.inl rfl | exact Or.inr (Or.inl rfl) | exact Or.inr (Or.inr rfl)) (hd : (x == ("__debug__" : Str)) = false := by decide) (hcd : (x == ("__classdict__" : Str)) = false := by decide) :
    PE X (.Name x pos) (tM X.K kx (Mi.mVar i)) := (pe_var hN hv hd hcd).imp fun σ H Q ⟨ρ, G, δ, d, G', rl, sr, e, k⟩ => by
  unfold Mi.mVar at e
  split at e
  · rename_i d' ed
    cases e
    obtain ⟨v, h1, h2⟩ := sr.at_ i d ed
    exact ⟨v, h1, k v ρ H Gr.refl rl h2⟩
  · cases e
theorem m_const {d : Dv} {v : V} (h : PE X e (tC v)) (hd : ∀ ρ H G, Rl X.K kx ρ G H → DR X.K ρ H d v) : PE X e (tM X.K kx (Mi.mC d)) := h.imp fun σ H Q ⟨ρ, G, δ, d', G', rl, sr, e, k⟩ => by
  cases e
  exact k v ρ H Gr.refl rl (hd ρ H G rl)
theorem m_int {i : Int} {j} : PE X (.Constant (.int i) j pos) (tM X.K kx (Mi.mC (.int i))) := m_const pe_int fun _ _ _ _ => .int i
theorem m_bl {b : Bool} {j} : PE X (.Constant (.bool b) j pos) (tM X.K kx (Mi.mC (.bl b))) := m_const pe_bl fun _ _ _ _ => .bl b
theorem m_non {j} : PE X (.Constant .none j pos) (tM X.K kx (Mi.mC .non)) := m_const pe_non fun _ _ _ _ => .non
theorem m_str {x : String} {j} : PE X (.Constant (.str (Str.ofString x)) j pos) (tM X.K kx (Mi.mC (.str x))) := m_const pe_str fun _ _ _ _ => .str x
/-- a constant of the top -/
theorem m_glob {x : Str} {v : V} {d : Dv} {u : Value} (hm : X.mg x = some u) (r : RelV v u) (hc : (v, d) ∈ kx.cs) (hg : Gl X x := by rfl) (hd : (x == ("__debug__" : Str)) = false := by decide) : PE X (.Name x pos) (tM X.K kx (Mi.mC d)) :=
  m_const (pe_glob hg hm r hd) fun _ _ _ rl => rl.gl _ hc
theorem m_globI {x : Str} {i : Int} (hm : ∃ t, X.mg x = some (.int i t)) (hg : Gl X x := by rfl) (hd : (x == ("__debug__" : Str)) = false := by decide) : PE X (.Name x pos) (tM X.K kx (Mi.mC (.int i))) := by
  obtain ⟨t, h⟩ := hm
  exact m_const (pe_glob (v := .int i) hg h ⟨t, rfl⟩ hd) fun _ _ _ _ => .int i

/-! ### two places -/
/-- an operation of the mirror against a rule by values -/
def B2ok (X : Cx) (kx : Kx) (f : Mi.B2) (r : R2) : Prop := ∀ (x y : Dv) (G : Sto) (d : Dv) (G' : Sto) (ρ : Rh) (H : Hp) (v w : V) (Q : VK), f x y G = some (d, G') → Rl X.K kx ρ G H → DR X.K ρ H x v → DR X.K ρ H y w →
  (∀ z ρ' H', Gr ρ H ρ' H' → Rl X.K kx ρ' G' H' → DR X.K ρ' H' d z → Q z H') → r v w H Q
theorem bin2 {f : Mi.B2} {r : R2} (hf : B2ok X kx f r) {σ : St} {H : Hp} {Q : VK} (h : tM X.K kx (Mi.m2 f ma mb) σ H Q) : tOp r (tM X.K kx ma) (tM X.K kx mb) σ H Q := by
  obtain ⟨ρ, G, δ, d, G', rl, sr, e, k⟩ := h
  obtain ⟨x, G1, e1, e⟩ := Mi.bnd_eq e
  obtain ⟨y, G2, e2, e⟩ := Mi.bnd_eq e
  exact ⟨ρ, G, δ, x, G1, rl, sr, e1, fun v ρ1 H1 g1 r1 d1 => ⟨ρ1, G1, δ, y, G2, r1, sr.gr g1, e2, fun w ρ2 H2 g2 r2 d2 =>
    hf x y G2 d G' ρ2 H2 v w Q e r2 (d1.gr g2) d2 fun z ρ' H' g r q => k z ρ' H' ((g1.trans g2).trans g) r q⟩⟩
theorem m_op {op : Operator} {f : Mi.B2} {r : R2} (ho : OpR X (binaryOp op) r) (hf : B2ok X kx f r) (ha : PE X a (tM X.K kx ma)) (hb : PE X b (tM X.K kx mb)) : PE X (.BinOp a op b pos) (tM X.K kx (Mi.m2 f ma mb)) :=
  (pe_op ho ha hb).imp fun _ _ _ h => bin2 hf h
theorem m_cmp {op : CmpOp} {f : Mi.B2} {r : R2} (ho : OpR X (compareOp op) r) (hf : B2ok X kx f r) (ha : PE X a (tM X.K kx ma)) (hb : PE X b (tM X.K kx mb)) (hm : behindInMarks op b = false) : PE X (.Compare a [op] [b] pos) (tM X.K kx (Mi.m2 f ma mb)) :=
  (pe_cmpR ho ha hb hm).imp fun _ _ _ h => bin2 hf h
/-- a truth value as a test -/
theorem tTb {t : TE} {σ : St} {H : Hp} {Q : Bool → Hp → Prop} (ht : ∀ R : VK, tM X.K kx me σ H R → t σ H R) (h : tMT X.K kx (Mi.mTb me) σ H Q) : t σ H fun x H' => ∃ k, x = .bl k ∧ Q k H' := by
  obtain ⟨ρ, G, δ, bb, G', rl, sr, e, k⟩ := h
  obtain ⟨x, G1, e1, e⟩ := Mi.bnd_eq e
  refine ht _ ⟨ρ, G, δ, x, G1, rl, sr, e1, fun v ρ' H' g r q => ?_⟩
  split at e
  · cases e
    cases q
    exact ⟨bb, rfl, k ρ' H' g r⟩
  · cases e
theorem m_cmpT {op : CmpOp} {f : Mi.B2} {r : R2} (ho : OpR X (compareOp op) r) (hf : B2ok X kx f r) (ha : PE X a (tM X.K kx ma)) (hb : PE X b (tM X.K kx mb)) (hm : behindInMarks op b = false) : PT X (.Compare a [op] [b] pos) (tMT X.K kx (Mi.mTb (Mi.m2 f ma mb))) :=
  (pt_cmpR ho ha hb hm).imp fun _ _ _ h => tTb (fun _ h => bin2 hf h) h
/-- a new list, frozen or with a handle -/
theorem mkL_ok {K : PySem.W.Frag} {ρ : Rh} {G : Sto} {H : Hp} {m : Bool} {xs : List Dv} {vs : List V} {Q : VK} (rl : Rl K kx ρ G H) (r : DRs K ρ H xs vs)
    (k : ∀ z ρ' H', Gr ρ H ρ' H' → Rl K kx ρ' (Mi.mkL m xs G).2 H' → DR K ρ' H' (Mi.mkL m xs G).1 z → Q z H') : ∀ p, H p = none → Q (.ref p) (upd H p (.lst vs)) := fun p hp => by
  cases m with
  | true =>
    obtain ⟨g, r2⟩ := rl.grow (o := .lst vs) (m := .lst xs) hp fun g => .lst upd_same (r.gr g)
    exact k (.ref p) _ _ g r2 (.ref (by rw [show Mi.mkL true xs G = (Dv.ref G.length, G ++ [MO.lst xs]) from rfl] at *; rw [← rl.len, List.getElem?_append_right (Nat.le_refl _)]; simp))
  | false =>
    obtain ⟨g, r2⟩ := rl.side (.lst vs) hp
    exact k (.ref p) _ _ g r2 (.fls upd_same (rl.free hp) (r.gr g))
theorem tup_ok {K : PySem.W.Frag} {ρ : Rh} {G : Sto} {H : Hp} {xs : List Dv} {vs : List V} {Q : VK} (rl : Rl K kx ρ G H) (r : DRs K ρ H xs vs)
    (k : ∀ z ρ' H', Gr ρ H ρ' H' → Rl K kx ρ' G H' → DR K ρ' H' (.tup xs) z → Q z H') : ∀ p, H p = none → Q (.ref p) (upd H p (.tup vs)) := fun p hp => by
  obtain ⟨g, r2⟩ := rl.side (.tup vs) hp
  exact k (.ref p) _ _ g r2 (.tup (SqT.of upd_same) (r.gr g))
theorem lst_at {K : PySem.W.Frag} {ρ : Rh} {G : Sto} {H : Hp} {h : Nat} {a : Addr} {xs : List Dv} (rl : Rl K kx ρ G H) (e : G[h]? = some (.lst xs)) (ea : ρ.r[h]? = some a) : ∃ vs, H a = some (.lst vs) ∧ DRs K ρ H xs vs := by
  have o := rl.at ea e
  cases o with
  | lst h r => exact ⟨_, h, r⟩
theorem dct_at {K : PySem.W.Frag} {ρ : Rh} {G : Sto} {H : Hp} {h : Nat} {a : Addr} {kvs : List (Mi.Key × Dv)} (rl : Rl K kx ρ G H) (e : G[h]? = some (.dct kvs)) (ea : ρ.r[h]? = some a) : ∃ ks, H a = some (.dK ks) ∧ KR K ρ H kvs ks := by
  have o := rl.at ea e
  cases o with
  | dct h r => exact ⟨_, h, r⟩
theorem ins_at {K : PySem.W.Frag} {ρ : Rh} {G : Sto} {H : Hp} {h : Nat} {a : Addr} {c : Nat} {fs : List (String × Dv)} (rl : Rl K kx ρ G H) (e : G[h]? = some (.ins c fs)) (ea : ρ.r[h]? = some a) : ∃ dx fs', H a = some (.ins (kx.ca c) dx fs') ∧ FR K ρ H fs fs' := by
  have o := rl.at ea e
  cases o with
  | ins h r => exact ⟨_, _, h, r⟩

def rAdds (K : PySem.W.Frag) : R2 := fun x y H Q => rI0 (fun i j => .int (i + j)) x y H Q ∨ (rCatA K x y H Q ∨ rCat x y H Q)
theorem op_adds : OpR X (binaryOp .Add) (rAdds X.K) := OpR.or op_add (OpR.or op_catA op_cat)
theorem b_add (m : Bool) : B2ok X kx (Mi.bAdd m) (rAdds X.K) := by
  intro x y G d G' ρ H v w Q e rl dx dy k
  unfold Mi.bAdd at e
  split at e
  · cases e
    cases dx
    cases dy
    exact .inl ⟨_, _, rfl, rfl, k _ ρ H Gr.refl rl (.int _)⟩
  · split at e
    · rename_i hz
      cases e
      cases dx with
      | tup h1 r1 =>
        cases dy with
        | tup h2 r2 =>
          refine .inr (.inl ⟨_, _, _, _, rfl, rfl, h1, h2, ?_, fun z => ?_, fun z z2 => ?_, fun z z2 => ?_⟩)
          · rw [← r1.len, ← r2.len, ← big_line]
            exact hz
          · have z' := r1.isNil.mpr z
            subst z'
            exact k _ ρ H Gr.refl rl (.tup h2 (by simpa using r2))
          · have z' := r2.isNil.mpr z2
            subst z'
            exact k _ ρ H Gr.refl rl (.tup h1 (by simpa using r1))
          · exact tup_ok rl (r1.app r2) k
    · cases e
  · split at e
    · rename_i hz
      have e' := Option.some.inj e
      cases dx with
      | fls h1 n1 r1 =>
        cases dy with
        | fls h2 n2 r2 =>
          refine .inr (.inr ⟨_, _, _, _, rfl, rfl, h1, h2, ?_, ?_⟩)
          · rw [← r1.len, ← r2.len, ← big_line]
            exact hz
          · refine mkL_ok (m := m) rl (r1.app r2) ?_
            rw [e']
            exact k
    · cases e
  · split at e
    · rename_i a0 eh
      split at e
      · rename_i hz
        have e' := Option.some.inj e
        cases dx with
        | ref ea =>
          obtain ⟨vs, h1, r1⟩ := lst_at rl eh ea
          cases dy with
          | fls h2 n2 r2 =>
            refine .inr (.inr ⟨_, _, _, _, rfl, rfl, h1, h2, ?_, ?_⟩)
            · rw [← r1.len, ← r2.len, ← big_line]
              exact hz
            · refine mkL_ok (m := m) rl (r1.app r2) ?_
              rw [e']
              exact k
      · cases e
    · cases e
  · cases e
theorem b_sub : B2ok X kx Mi.bSub (rI0 fun i j => .int (i - j)) := by
  intro x y G d G' ρ H v w Q e rl dx dy k
  unfold Mi.bSub at e
  split at e
  · cases e
    cases dx
    cases dy
    exact ⟨_, _, rfl, rfl, k _ ρ H Gr.refl rl (.int _)⟩
  · cases e
def rMuls (K : PySem.W.Frag) : R2 := fun x y H Q => rI CMul (fun i j => .int (i * j)) x y H Q ∨ (rRepT K x y H Q ∨ rRep x y H Q)
theorem op_muls : OpR X (binaryOp .Mult) (rMuls X.K) := OpR.or op_mul (OpR.or op_repT op_rep)
theorem b_mul (m : Bool) : B2ok X kx (Mi.bMul m) (rMuls X.K) := by
  intro x y G d G' ρ H v w Q e rl dx dy k
  unfold Mi.bMul at e
  split at e
  · split at e
    · rename_i hz
      cases e
      cases dx
      cases dy
      refine .inl ⟨_, _, rfl, rfl, ?_, k _ ρ H Gr.refl rl (.int _)⟩
      unfold Mi.okMul at hz
      simp only [Bool.or_eq_true, Bool.and_eq_true, decide_eq_true_eq] at hz
      exact hz
    · cases e
  · split at e
    · rename_i hz
      obtain ⟨z1, z2, z3, z4⟩ := hz
      cases e
      cases dx with
      | tup h1 r1 =>
        cases dy
        refine .inr (.inl ⟨_, _, _, rfl, rfl, h1, fun z => z1 (r1.isNil.mpr z), z2, z3, by rw [← r1.len]; exact z4, ?_⟩)
        exact tup_ok rl (r1.rep _) k
    · cases e
  · split at e
    · rename_i hz
      obtain ⟨z1, z2, z3⟩ := hz
      have e' := Option.some.inj e
      cases dx with
      | fls h1 n1 r1 =>
        cases dy
        refine .inr (.inr ⟨_, _, _, rfl, rfl, h1, z1, z2, by rw [← r1.len, ← big_line]; exact z3, ?_⟩)
        refine mkL_ok (m := m) rl (r1.rep _) ?_
        rw [e']
        exact k
    · cases e
  · cases e
theorem b_div : B2ok X kx Mi.bDiv (rI CDiv fun i j => .int (i / j)) := by
  intro x y G d G' ρ H v w Q e rl dx dy k
  unfold Mi.bDiv at e
  split at e
  · split at e
    · rename_i hz
      cases e
      cases dx
      cases dy
      exact ⟨_, _, rfl, rfl, hz, k _ ρ H Gr.refl rl (.int _)⟩
    · cases e
  · cases e
theorem b_mod : B2ok X kx Mi.bMod (rI (fun _ j => 0 < j) fun i j => .int (i % j)) := by
  intro x y G d G' ρ H v w Q e rl dx dy k
  unfold Mi.bMod at e
  split at e
  · split at e
    · rename_i hz
      cases e
      cases dx
      cases dy
      exact ⟨_, _, rfl, rfl, hz, k _ ρ H Gr.refl rl (.int _)⟩
    · cases e
  · cases e
theorem b_pow : B2ok X kx Mi.bPow (rI CPow fun i j => .int (i ^ j.toNat)) := by
  intro x y G d G' ρ H v w Q e rl dx dy k
  unfold Mi.bPow at e
  split at e
  · split at e
    · rename_i hz
      cases e
      cases dx
      cases dy
      exact ⟨_, _, rfl, rfl, hz, k _ ρ H Gr.refl rl (.int _)⟩
    · cases e
  · cases e
theorem b_cmp {p : Int → Int → Bool} : B2ok X kx (Mi.bCmp p) (rI0 fun i j => .bl (p i j)) := by
  intro x y G d G' ρ H v w Q e rl dx dy k
  unfold Mi.bCmp at e
  split at e
  · cases e
    cases dx
    cases dy
    exact ⟨_, _, rfl, rfl, k _ ρ H Gr.refl rl (.bl _)⟩
  · cases e
theorem m_neg (ha : PE X a (tM X.K kx ma)) : PE X (.UnaryOp .USub a pos) (tM X.K kx (Mi.m1 Mi.uNeg ma)) := (pe_un un_neg ha).imp fun σ H Q ⟨ρ, G, δ, d, G', rl, sr, e, k⟩ => by
  obtain ⟨x, G1, e1, e⟩ := Mi.bnd_eq e
  refine ⟨ρ, G, δ, x, G1, rl, sr, e1, fun v ρ1 H1 g1 r1 d1 => ?_⟩
  unfold Mi.uNeg at e
  split at e
  · cases e
    cases d1
    exact ⟨_, rfl, k _ _ _ g1 r1 (.int _)⟩
  · cases e
/-! ### equality -/
theorem ints_of {K : PySem.W.Frag} {ρ : Rh} {H : Hp} : ∀ {ds : List Dv} {vs : List V} {ns : List Int}, Mi.intsOf ds = some ns → DRs K ρ H ds vs → vs = ns.map V.int
  | [], _, _, e, .nil => by
    cases e
    rfl
  | .int i :: r, _, ns, e, .cons a b => by
    unfold Mi.intsOf at e
    cases er : Mi.intsOf r with
    | none => rw [er] at e; cases e
    | some ms =>
      rw [er] at e
      cases e
      cases a
      rw [List.map_cons, ints_of er b]
  | .non :: _, _, _, e, _ => nomatch e
  | .bl _ :: _, _, _, e, _ => nomatch e
  | .str _ :: _, _, _, e, _ => nomatch e
  | .tup _ :: _, _, _, e, _ => nomatch e
  | .fls _ :: _, _, _, e, _ => nomatch e
  | .scr _ :: _, _, _, e, _ => nomatch e
  | .ref _ :: _, _, _, e, _ => nomatch e
theorem dpInts {K : PySem.W.Frag} {H : Hp} : ∀ ns : List Int, DpAll K H (ns.map V.int) (ns.map PyData.int)
  | [] => .nil
  | n :: r => .cons (.int n) (dpInts r)
theorem eqvAll_ints : ∀ ns ms : List Int, PyData.eqvAll (ns.map PyData.int) (ms.map PyData.int) = decide (ns = ms)
  | [], ms => by cases ms <;> simp [PyData.eqvAll]
  | n :: r, [] => by rw [List.map_nil, List.map_cons, PyData.eqvAll, decide_eq_false (List.cons_ne_nil n r)]
  | n :: r, m :: s => by
    rw [List.map_cons, List.map_cons, PyData.eqvAll, eqvAll_ints r s, PyData.eqv]
    by_cases h1 : n = m <;> by_cases h2 : r = s <;> simp [h1, h2]
theorem canLay_ints : ∀ ns : List Int, PyData.canLayAll0 (ns.map PyData.int) = true
  | [] => by rw [List.map_nil, PyData.canLayAll0]
  | n :: r => by simp [PyData.canLayAll0, PyData.canLay0, canLay_ints r]
theorem depth_ints : ∀ ns : List Int, PyData.depthAll (ns.map PyData.int) ≤ 1
  | [] => by rw [List.map_nil, PyData.depthAll]; exact Nat.zero_le 1
  | n :: r => by
    have := depth_ints r
    simp [PyData.depthAll, PyData.depth]
    omega
theorem shaped_list (ns : List Int) : SeqAt.shaped (.list (ns.map PyData.int)) = true := by
  have h := depth_ints ns
  refine Bool.and_eq_true_iff.mpr ⟨by simp [PyData.canLay0, canLay_ints], decide_eq_true ?_⟩
  have e : PyData.depth (.list (ns.map PyData.int)) ≤ PyData.depthAll (ns.map PyData.int) + 1 := by simp [PyData.depth]
  omega
theorem shaped_tuple (ns : List Int) : SeqAt.shaped (.tuple (ns.map PyData.int)) = true := by
  have h := depth_ints ns
  refine Bool.and_eq_true_iff.mpr ⟨by simp [PyData.canLay0, canLay_ints], decide_eq_true ?_⟩
  have e : PyData.depth (.tuple (ns.map PyData.int)) ≤ PyData.depthAll (ns.map PyData.int) + 1 := by simp [PyData.depth]
  omega
/-- a list's place and items -/
theorem lstOf_at {K : PySem.W.Frag} {ρ : Rh} {G : Sto} {H : Hp} {d : Dv} {v : V} {xs : List Dv} (rl : Rl K kx ρ G H) (e : Mi.lstOf G d = some xs) (r : DR K ρ H d v) : ∃ a vs, v = .ref a ∧ SqL K H a vs ∧ DRs K ρ H xs vs := by
  unfold Mi.lstOf at e
  split at e
  · cases e
    cases r with
    | fls h n r => exact ⟨_, _, rfl, SqL.of h, r⟩
  · cases e
    cases r with
    | scr h => exact ⟨_, _, rfl, h.sq, DRs.ints⟩
  · cases r with
    | ref ea =>
      split at e
      · rename_i eh
        cases e
        obtain ⟨vs, h1, r1⟩ := lst_at rl eh ea
        exact ⟨_, vs, rfl, SqL.of h1, r1⟩
      · cases e
  · cases e
def rEqs (K : PySem.W.Frag) : R2 := fun x y H Q => rEq x y H Q ∨ rEqD K x y H Q
def rNes (K : PySem.W.Frag) : R2 := fun x y H Q => rNe x y H Q ∨ rNeD K x y H Q
theorem op_eqs (hu : X.A.units + 64 < cLine) : OpR X (compareOp .Eq) (rEqs X.K) := OpR.or op_eq (op_eqD hu)
theorem op_nes (hu : X.A.units + 64 < cLine) : OpR X (compareOp .NotEq) (rNes X.K) := OpR.or op_ne (op_neD hu)
theorem sEq_ok {K : PySem.W.Frag} {ρ : Rh} {H : Hp} {x y : Dv} {v w : V} {r : Bool} (e : Mi.sEq x y = some r) (dx : DR K ρ H x v) (dy : DR K ρ H y w) : scal v w = true ∧ decide (v = w) = r := by
  unfold Mi.sEq at e
  split at e <;> first
    | (cases e; cases dx; cases dy; refine ⟨rfl, ?_⟩; simp; done)
    | (cases e; cases dx; cases dy; refine ⟨rfl, ?_⟩; rename_i a b; cases a <;> cases b <;> simp; done)
    | (cases e; cases dx; cases dy; refine ⟨rfl, ?_⟩; rename_i a b; by_cases h : a = b
       · simp [h]
       · have h2 : ¬ Str.ofString a = Str.ofString b := fun z => h (ofString_inj z)
         simp [h, h2])
    | cases e
theorem qEq_ok {K : PySem.W.Frag} {ρ : Rh} {G : Sto} {H : Hp} {x y : Dv} {v w : V} {r : Bool} (rl : Rl K kx ρ G H) (e : Mi.qEq G x y = some r) (dx : DR K ρ H x v) (dy : DR K ρ H y w) :
    ∃ d e, Dp K H v d ∧ Dp K H w e ∧ SeqAt.shaped d = true ∧ SeqAt.shaped e = true ∧ PyData.eqv d e = r := by
  unfold Mi.qEq at e
  split at e
  · split at e
    · rename_i p q ep eq
      cases e
      cases dx with
      | tup h1 r1 =>
        cases dy with
        | tup h2 r2 =>
          have v1 := ints_of ep r1
          have v2 := ints_of eq r2
          subst v1 v2
          exact ⟨_, _, .tup h1 (dpInts p), .tup h2 (dpInts q), shaped_tuple p, shaped_tuple q, by rw [PyData.eqv]; exact eqvAll_ints p q⟩
    · cases e
  · split at e
    · rename_i as bs ea eb
      split at e
      · rename_i p q ep eq
        cases e
        obtain ⟨a1, vs, rfl, h1, r1⟩ := lstOf_at rl ea dx
        obtain ⟨a2, ws, rfl, h2, r2⟩ := lstOf_at rl eb dy
        have v1 := ints_of ep r1
        have v2 := ints_of eq r2
        subst v1 v2
        exact ⟨_, _, .lst h1 (dpInts p), .lst h2 (dpInts q), shaped_list p, shaped_list q, by rw [PyData.eqv]; exact eqvAll_ints p q⟩
      · cases e
    · cases e
theorem b_eq : B2ok X kx (Mi.bEq false) (rEqs X.K) := by
  intro x y G d G' ρ H v w Q e rl dx dy k
  unfold Mi.bEq at e
  split at e
  · rename_i r er
    cases e
    obtain ⟨h1, h2⟩ := sEq_ok er dx dy
    refine .inl ⟨h1, ?_⟩
    rw [h2]
    have := k (.bl (r != false)) ρ H Gr.refl rl (.bl _)
    simpa using this
  · split at e
    · rename_i r er
      cases e
      obtain ⟨d1, e1, h1, h2, h3, h4, h5⟩ := qEq_ok rl er dx dy
      refine .inr ⟨d1, e1, h1, h2, h3, h4, ?_⟩
      rw [h5]
      have := k (.bl (r != false)) ρ H Gr.refl rl (.bl _)
      simpa using this
    · cases e
theorem b_ne : B2ok X kx (Mi.bEq true) (rNes X.K) := by
  intro x y G d G' ρ H v w Q e rl dx dy k
  unfold Mi.bEq at e
  split at e
  · rename_i r er
    cases e
    obtain ⟨h1, h2⟩ := sEq_ok er dx dy
    refine .inl ⟨h1, ?_⟩
    rw [h2]
    have := k (.bl (r != true)) ρ H Gr.refl rl (.bl _)
    simpa using this
  · split at e
    · rename_i r er
      cases e
      obtain ⟨d1, e1, h1, h2, h3, h4, h5⟩ := qEq_ok rl er dx dy
      refine .inr ⟨d1, e1, h1, h2, h3, h4, ?_⟩
      rw [h5]
      have := k (.bl (r != true)) ρ H Gr.refl rl (.bl _)
      simpa using this
    · cases e
end
end Ms

/-! PyS3: chains, tests, displays, built-ins, subscripts, slices, fields, calls. -/
namespace Ms
open PySem L2
open Mi (Dv MO Sto Sl Rs bnd ME MT MA MS MF Fl MG MGs MI)
section
variable {X : Cx} {kx : Kx} {e a b c o : Expr} {ma mb mc me mo : ME} {mt mt' : MT} {pos : Pos} {rest : List Expr}

/-! ### chains, and, or, not -/
theorem chain2 {f g : Mi.B2} {r r' : R2} (hf : B2ok X kx f r) (hg : B2ok X kx g r') {σ : St} {H : Hp} {Q : VK} (h : tM X.K kx (Mi.mChain f g ma mb mc) σ H Q) : tChain r r' (tM X.K kx ma) (tM X.K kx mb) (tM X.K kx mc) σ H Q := by
  obtain ⟨ρ, G, δ, d, G', rl, sr, e, k⟩ := h
  obtain ⟨x, G1, e1, e⟩ := Mi.bnd_eq e
  obtain ⟨y, G2, e2, e⟩ := Mi.bnd_eq e
  obtain ⟨z, G3, e3, e⟩ := Mi.bnd_eq e
  refine ⟨ρ, G, δ, x, G1, rl, sr, e1, fun v ρ1 H1 g1 r1 d1 => ⟨ρ1, G1, δ, y, G2, r1, sr.gr g1, e2, fun w ρ2 H2 g2 r2 d2 => ?_⟩⟩
  refine hf x y G2 z G3 ρ2 H2 v w _ e3 r2 (d1.gr g2) d2 fun u ρ3 H3 g3 r3 d3 => ?_
  split at e
  · obtain ⟨w', G4, e4, e⟩ := Mi.bnd_eq e
    cases d3
    refine ⟨true, rfl, ?_⟩
    rw [if_pos rfl]
    exact ⟨ρ3, G3, δ, w', G4, r3, sr.gr ((g1.trans g2).trans g3), e4, fun q ρ4 H4 g4 r4 d4 => hg y w' G4 d G' ρ4 H4 w q Q e r4 (d2.gr (g3.trans g4)) d4 fun z ρ' H' g r q => k z ρ' H' (((((g1.trans g2).trans g3).trans g4)).trans g) r q⟩
  · cases e
    cases d3
    refine ⟨false, rfl, ?_⟩
    rw [if_neg (fun z => Bool.false_ne_true z)]
    exact k _ ρ3 H3 ((g1.trans g2).trans g3) r3 (.bl false)
  · cases e
theorem m_chain {op op' : CmpOp} {f g : Mi.B2} {r r' : R2} (ho : OpR X (compareOp op) r) (ho' : OpR X (compareOp op') r') (hf : B2ok X kx f r) (hg : B2ok X kx g r') (ha : PE X a (tM X.K kx ma)) (hb : PE X b (tM X.K kx mb)) (hc : PE X c (tM X.K kx mc))
    (hm : lastMarks [op, op'] [b, c] = false := by with_unfolding_all rfl) : PE X (.Compare a [op, op'] [b, c] pos) (tM X.K kx (Mi.mChain f g ma mb mc)) := (pe_chain ho ho' ha hb hc hm).imp fun _ _ _ h => chain2 hf hg h
theorem m_chainT {op op' : CmpOp} {f g : Mi.B2} {r r' : R2} (ho : OpR X (compareOp op) r) (ho' : OpR X (compareOp op') r') (hf : B2ok X kx f r) (hg : B2ok X kx g r') (ha : PE X a (tM X.K kx ma)) (hb : PE X b (tM X.K kx mb)) (hc : PE X c (tM X.K kx mc))
    (hm : lastMarks [op, op'] [b, c] = false := by with_unfolding_all rfl) : PT X (.Compare a [op, op'] [b, c] pos) (tMT X.K kx (Mi.mTb (Mi.mChain f g ma mb mc))) := (pt_chain ho ho' ha hb hc hm).imp fun _ _ _ h => tTb (fun _ h => chain2 hf hg h) h
theorem m_one {op} (h : PE X a (tM X.K kx ma)) : PE X (.BoolOp op [a] pos) (tM X.K kx ma) := pe_one h
theorem m_and (ha : PE X a (tM X.K kx ma)) (hb : PE X (.BoolOp .And (b :: rest) pos) (tM X.K kx mb)) : PE X (.BoolOp .And (a :: b :: rest) pos) (tM X.K kx (Mi.mAnd ma mb)) := (pe_and ha hb).imp fun σ H Q ⟨ρ, G, δ, d, G', rl, sr, e, k⟩ => by
  obtain ⟨x, G1, e1, e⟩ := Mi.bnd_eq e
  refine ⟨ρ, G, δ, x, G1, rl, sr, e1, fun v ρ1 H1 g1 r1 d1 => ?_⟩
  split at e
  · cases d1
    refine ⟨true, rfl, ?_⟩
    rw [if_pos rfl]
    exact ⟨ρ1, G1, δ, d, G', r1, sr.gr g1, e, fun z ρ' H' g r q => k z ρ' H' (g1.trans g) r q⟩
  · cases e
    cases d1
    refine ⟨false, rfl, ?_⟩
    rw [if_neg (fun z => Bool.false_ne_true z)]
    exact k _ ρ1 H1 g1 r1 (.bl false)
  · cases e
theorem m_or (ha : PE X a (tM X.K kx ma)) (hb : PE X (.BoolOp .Or (b :: rest) pos) (tM X.K kx mb)) : PE X (.BoolOp .Or (a :: b :: rest) pos) (tM X.K kx (Mi.mOr ma mb)) := (pe_or ha hb).imp fun σ H Q ⟨ρ, G, δ, d, G', rl, sr, e, k⟩ => by
  obtain ⟨x, G1, e1, e⟩ := Mi.bnd_eq e
  refine ⟨ρ, G, δ, x, G1, rl, sr, e1, fun v ρ1 H1 g1 r1 d1 => ?_⟩
  split at e
  · cases e
    cases d1
    refine ⟨true, rfl, ?_⟩
    rw [if_pos rfl]
    exact k _ ρ1 H1 g1 r1 (.bl true)
  · cases d1
    refine ⟨false, rfl, ?_⟩
    rw [if_neg (fun z => Bool.false_ne_true z)]
    exact ⟨ρ1, G1, δ, d, G', r1, sr.gr g1, e, fun z ρ' H' g r q => k z ρ' H' (g1.trans g) r q⟩
  · cases e
theorem m_not (ha : PE X a (tM X.K kx ma)) : PE X (.UnaryOp .Not a pos) (tM X.K kx (Mi.mNot ma)) := (pe_not ha).imp fun σ H Q ⟨ρ, G, δ, d, G', rl, sr, e, k⟩ => by
  obtain ⟨x, G1, e1, e⟩ := Mi.bnd_eq e
  refine ⟨ρ, G, δ, x, G1, rl, sr, e1, fun v ρ1 H1 g1 r1 d1 => ?_⟩
  dsimp only at e
  split at e
  · cases e
    cases d1
    exact ⟨_, rfl, k _ ρ1 H1 g1 r1 (.bl _)⟩
  · cases e
theorem m_isN {neg : Bool} {op : CmpOp} (ho : op = if neg then .IsNot else .Is) (ha : PE X a (tM X.K kx ma)) {j p2} : PE X (.Compare a [op] [.Constant .none j p2] pos) (tM X.K kx (Mi.mIsN neg ma)) := by
  have fin : ∀ {σ H Q}, tM X.K kx (Mi.mIsN neg ma) σ H Q → tM X.K kx ma σ H fun x H1 => Q (.bl (decide (x = .non) != neg)) H1 := fun {σ H Q} ⟨ρ, G, δ, d, G', rl, sr, e, k⟩ => by
    obtain ⟨x, G1, e1, e⟩ := Mi.bnd_eq e
    refine ⟨ρ, G, δ, x, G1, rl, sr, e1, fun v ρ1 H1 g1 r1 d1 => ?_⟩
    cases e
    have z : Mi.isNon x = decide (v = .non) := by
      cases d1 <;> simp [Mi.isNon]
    rw [← z]
    exact k _ ρ1 H1 g1 r1 (.bl _)
  cases neg with
  | true =>
    cases ho
    refine (pe_cmpR op_notN ha pe_non (nomark _)).imp fun σ H Q h => ?_
    obtain ⟨ρ, G, δ, d, G', rl, sr, e, k⟩ := fin h
    exact ⟨ρ, G, δ, d, G', rl, sr, e, fun v ρ' H' g r q => ⟨rfl, by have := k v ρ' H' g r q; simpa using this⟩⟩
  | false =>
    cases ho
    refine (pe_cmpR op_isN ha pe_non (nomark _)).imp fun σ H Q h => ?_
    obtain ⟨ρ, G, δ, d, G', rl, sr, e, k⟩ := fin h
    exact ⟨ρ, G, δ, d, G', rl, sr, e, fun v ρ' H' g r q => ⟨rfl, by have := k v ρ' H' g r q; simpa using this⟩⟩

/-! ### tests -/
theorem m_val (ha : PE X a (tM X.K kx ma)) (he : ∀ whole, isTrue a X.env whole = (do let v ← whole; standAt a.pos; holding [v] (truthy v)) := by intro _; rfl) : PT X a (tMT X.K kx (Mi.mTb ma)) := (pt_val ha he).imp fun _ _ _ h => tTb (fun _ h => h) h
theorem m_isNT {neg : Bool} {op : CmpOp} (ho : op = if neg then .IsNot else .Is) (ha : PE X a (tM X.K kx ma)) {j p2} : PT X (.Compare a [op] [.Constant .none j p2] pos) (tMT X.K kx (Mi.mTb (Mi.mIsN neg ma))) := by
  have fin : ∀ {σ H Q}, tM X.K kx (Mi.mIsN neg ma) σ H Q → tM X.K kx ma σ H fun x H1 => Q (.bl (decide (x = .non) != neg)) H1 := fun {σ H Q} ⟨ρ, G, δ, d, G', rl, sr, e, k⟩ => by
    obtain ⟨x, G1, e1, e⟩ := Mi.bnd_eq e
    refine ⟨ρ, G, δ, x, G1, rl, sr, e1, fun v ρ1 H1 g1 r1 d1 => ?_⟩
    cases e
    have z : Mi.isNon x = decide (v = .non) := by
      cases d1 <;> simp [Mi.isNon]
    rw [← z]
    exact k _ ρ1 H1 g1 r1 (.bl _)
  cases neg with
  | true =>
    cases ho
    refine (pt_cmpR op_notN ha pe_non (nomark _)).imp fun σ H Q h => tTb (fun R h => ?_) h
    obtain ⟨ρ, G, δ, d, G', rl, sr, e, k⟩ := fin h
    exact ⟨ρ, G, δ, d, G', rl, sr, e, fun v ρ' H' g r q => ⟨rfl, by have := k v ρ' H' g r q; simpa using this⟩⟩
  | false =>
    cases ho
    refine (pt_cmpR op_isN ha pe_non (nomark _)).imp fun σ H Q h => tTb (fun R h => ?_) h
    obtain ⟨ρ, G, δ, d, G', rl, sr, e, k⟩ := fin h
    exact ⟨ρ, G, δ, d, G', rl, sr, e, fun v ρ' H' g r q => ⟨rfl, by have := k v ρ' H' g r q; simpa using this⟩⟩
theorem m_truth (ha : PE X a (tM X.K kx ma)) (he : ∀ whole, isTrue a X.env whole = (do let v ← whole; standAt a.pos; holding [v] (truthy v)) := by intro _; rfl) : PT X a (tMT X.K kx (Mi.mTru ma)) := (pt_truth ha he).imp fun σ H Q ⟨ρ, G, δ, d, G', rl, sr, e, k⟩ => by
  obtain ⟨x, G1, e1, e⟩ := Mi.bnd_eq e
  refine ⟨ρ, G, δ, x, G1, rl, sr, e1, fun v ρ1 H1 g1 r1 d1 => ?_⟩
  cases et : Mi.tru G1 x with
  | none => rw [et] at e; cases e
  | some bb =>
    rw [et] at e
    cases e
    refine ⟨d, ?_, k ρ1 H1 g1 r1⟩
    unfold Mi.tru at et
    split at et
    · cases et; cases d1; rfl
    · cases et; cases d1; rfl
    · cases et; cases d1; rfl
    · cases et
      cases d1 with
      | tup h r => exact .inr (.inl ⟨_, h, by rw [r.emp]⟩)
    · cases et
      cases d1 with
      | fls h n r => exact .inl ⟨_, SqL.of h, by rw [r.emp]⟩
    · cases d1 with
      | ref ea =>
        split at et
        · rename_i eh
          cases et
          obtain ⟨vs, h, r⟩ := lst_at r1 eh ea
          exact .inl ⟨_, SqL.of h, by rw [r.emp]⟩
        · rename_i eh
          cases et
          obtain ⟨vs, h, r⟩ := dct_at r1 eh ea
          refine .inr (.inr ⟨_, h, ?_⟩)
          cases r <;> rfl
        · cases et
    · cases et
theorem m_tand1 (ha : PT X a (tMT X.K kx mt)) : PW X (.BoolOp .And [a] pos) (tMT X.K kx mt) := pw_and1 ha
theorem m_tor1 (ha : PT X a (tMT X.K kx mt)) : PW X (.BoolOp .Or [a] pos) (tMT X.K kx mt) := pw_or1 ha
theorem m_tand (ha : PT X a (tMT X.K kx mt)) (hb : PW X (.BoolOp .And (b :: rest) pos) (tMT X.K kx mt')) : PW X (.BoolOp .And (a :: b :: rest) pos) (tMT X.K kx (Mi.mTand mt mt')) := (pw_and ha hb).imp fun σ H Q ⟨ρ, G, δ, d, G', rl, sr, e, k⟩ => by
  obtain ⟨x, G1, e1, e⟩ := Mi.bnd_eq e
  refine ⟨ρ, G, δ, x, G1, rl, sr, e1, fun ρ1 H1 g1 r1 => ?_⟩
  cases x with
  | true =>
    rw [if_pos rfl]
    exact ⟨ρ1, G1, δ, d, G', r1, sr.gr g1, by simpa using e, fun ρ' H' g r => k ρ' H' (g1.trans g) r⟩
  | false =>
    rw [if_neg (fun z => Bool.false_ne_true z)]
    have e' : (some (false, G1) : Rs Bool) = some (d, G') := by simpa using e
    cases e'
    exact k ρ1 H1 g1 r1
theorem m_tor (ha : PT X a (tMT X.K kx mt)) (hb : PW X (.BoolOp .Or (b :: rest) pos) (tMT X.K kx mt')) : PW X (.BoolOp .Or (a :: b :: rest) pos) (tMT X.K kx (Mi.mTor mt mt')) := (pw_or ha hb).imp fun σ H Q ⟨ρ, G, δ, d, G', rl, sr, e, k⟩ => by
  obtain ⟨x, G1, e1, e⟩ := Mi.bnd_eq e
  refine ⟨ρ, G, δ, x, G1, rl, sr, e1, fun ρ1 H1 g1 r1 => ?_⟩
  cases x with
  | true =>
    rw [if_pos rfl]
    have e' : (some (true, G1) : Rs Bool) = some (d, G') := by simpa using e
    cases e'
    exact k ρ1 H1 g1 r1
  | false =>
    rw [if_neg (fun z => Bool.false_ne_true z)]
    exact ⟨ρ1, G1, δ, d, G', r1, sr.gr g1, by simpa using e, fun ρ' H' g r => k ρ' H' (g1.trans g) r⟩
theorem m_tnot (ha : PT X a (tMT X.K kx mt)) : PT X (.UnaryOp .Not a pos) (tMT X.K kx (Mi.mTnot mt)) := (pt_not ha).imp fun σ H Q ⟨ρ, G, δ, d, G', rl, sr, e, k⟩ => by
  obtain ⟨x, G1, e1, e⟩ := Mi.bnd_eq e
  cases e
  exact ⟨ρ, G, δ, x, _, rl, sr, e1, fun ρ1 H1 g1 r1 => k ρ1 H1 g1 r1⟩
theorem m_if (hc : PT X c (tMT X.K kx mt)) (ha : PE X a (tM X.K kx ma)) (hb : PE X b (tM X.K kx mb)) : PE X (.IfExp c a b pos) (tM X.K kx (Mi.mIf mt ma mb)) := (pe_ifExp hc ha hb).imp fun σ H Q ⟨ρ, G, δ, d, G', rl, sr, e, k⟩ => by
  obtain ⟨x, G1, e1, e⟩ := Mi.bnd_eq e
  refine ⟨ρ, G, δ, x, G1, rl, sr, e1, fun ρ1 H1 g1 r1 => ?_⟩
  cases x with
  | true =>
    rw [if_pos rfl]
    exact ⟨ρ1, G1, δ, d, G', r1, sr.gr g1, by simpa using e, fun v ρ' H' g r q => k v ρ' H' (g1.trans g) r q⟩
  | false =>
    rw [if_neg (fun z => Bool.false_ne_true z)]
    exact ⟨ρ1, G1, δ, d, G', r1, sr.gr g1, by simpa using e, fun v ρ' H' g r q => k v ρ' H' (g1.trans g) r q⟩

/-! ### arguments, displays -/
variable {es : List Expr} {mas : MA}
theorem m_nil : PA X [] (tMA X.K kx Mi.mNil) := pa_nil.imp fun σ H Q ⟨ρ, G, δ, d, G', rl, sr, e, k⟩ => by
  cases e
  exact k [] ρ H Gr.refl rl .nil
theorem m_cons (ha : PE X e (tM X.K kx ma)) (hr : PA X es (tMA X.K kx mas)) (hs : starEach (e :: es) X.env = (false, eval e X.env) :: starEach es X.env := by rfl) : PA X (e :: es) (tMA X.K kx (Mi.mCons ma mas)) := (pa_cons ha hr hs).imp fun σ H Q ⟨ρ, G, δ, d, G', rl, sr, e, k⟩ => by
  obtain ⟨x, G1, e1, e⟩ := Mi.bnd_eq e
  obtain ⟨xs, G2, e2, e⟩ := Mi.bnd_eq e
  cases e
  exact ⟨ρ, G, δ, x, G1, rl, sr, e1, fun v ρ1 H1 g1 r1 d1 => ⟨ρ1, G1, δ, xs, _, r1, sr.gr g1, e2, fun vs ρ2 H2 g2 r2 d2 => k (v :: vs) ρ2 H2 (g1.trans g2) r2 (.cons (d1.gr g2) d2)⟩⟩
theorem m_tup {x1} (h : PA X es (tMA X.K kx mas)) : PE X (.Tuple es x1 pos) (tM X.K kx (Mi.mTup mas)) := (pe_tup h).imp fun σ H Q ⟨ρ, G, δ, d, G', rl, sr, e, k⟩ => by
  obtain ⟨xs, G1, e1, e⟩ := Mi.bnd_eq e
  refine ⟨ρ, G, δ, xs, G1, rl, sr, e1, fun vs ρ1 H1 g1 r1 d1 => ?_⟩
  split at e
  · rename_i hz
    cases e
    exact ⟨by rw [← d1.len, ← big_line]; exact hz, tup_ok r1 d1 fun z ρ' H' g r q => k z ρ' H' (g1.trans g) r q⟩
  · cases e
theorem m_lst (m : Bool) (h : PA X es (tMA X.K kx mas)) : PE X (.List es pos) (tM X.K kx (Mi.mLst m mas)) := (pe_lst h).imp fun σ H Q ⟨ρ, G, δ, d, G', rl, sr, e, k⟩ => by
  obtain ⟨xs, G1, e1, e⟩ := Mi.bnd_eq e
  refine ⟨ρ, G, δ, xs, G1, rl, sr, e1, fun vs ρ1 H1 g1 r1 d1 => ?_⟩
  split at e
  · rename_i hz
    have e' := Option.some.inj e
    refine ⟨by rw [← d1.len, ← big_line]; exact hz, mkL_ok (m := m) r1 d1 ?_⟩
    rw [e']
    exact fun z ρ' H' g r q => k z ρ' H' (g1.trans g) r q
  · cases e

/-! ### built-ins, by values -/
/-- a built-in of the mirror against a rule by values -/
def Bok (X : Cx) (kx : Kx) (f : List Dv → Sto → Rs Dv) (r : List V → Hp → VK → Prop) : Prop := ∀ (xs : List Dv) (G : Sto) (d : Dv) (G' : Sto) (ρ : Rh) (H : Hp) (vs : List V) (Q : VK), f xs G = some (d, G') → Rl X.K kx ρ G H → DRs X.K ρ H xs vs →
  (∀ z ρ' H', Gr ρ H ρ' H' → Rl X.K kx ρ' G' H' → DR X.K ρ' H' d z → Q z H') → r vs H Q
theorem cb {f : List Dv → Sto → Rs Dv} {r : List V → Hp → VK → Prop} (hf : Bok X kx f r) {σ : St} {H : Hp} {Q : VK} (h : tM X.K kx (Mi.mB f mas) σ H Q) : tCB r (tMA X.K kx mas) σ H Q := by
  obtain ⟨ρ, G, δ, d, G', rl, sr, e, k⟩ := h
  obtain ⟨xs, G1, e1, e⟩ := Mi.bnd_eq e
  exact ⟨ρ, G, δ, xs, G1, rl, sr, e1, fun vs ρ1 H1 g1 r1 d1 => hf xs G1 d G' ρ1 H1 vs Q e r1 d1 fun z ρ' H' g r q => k z ρ' H' (g1.trans g) r q⟩
theorem m_callB {x : Str} {p : Pos} {id : String} {f : List Dv → Sto → Rs Dv} {r : List V → Hp → VK → Prop} (hc : CallR X (.builtin id) r) (hf : Bok X kx f r) (hm : X.mg x = none) (hv : bootBuiltins x = some (.builtin id)) (ha : PA X (e :: es) (tMA X.K kx mas)) (hg : Gl X x := by rfl) (hn : x ≠ "__name__" := by decide) (hdb : (x == ("__debug__" : Str)) = false := by decide)
    (he : starEach (e :: es) X.env = (false, eval e X.env) :: starEach es X.env := by rfl) (hpl : (backTo pos (starEach es X.env)).any (·.1) = false := by rfl) : PE X (.Call (.Name x p) (e :: es) [] pos) (tM X.K kx (Mi.mB f mas)) :=
  (pe_callB hc hg hm hv ha hn hdb he hpl).imp fun _ _ _ h => cb hf h
theorem m_callT {x : Str} {p : Pos} {T : String} {f : List Dv → Sto → Rs Dv} {r : List V → Hp → VK → Prop} (hc : CallR X (.type T) r) (hf : Bok X kx f r) (hm : X.mg x = none) (hv : bootBuiltins x = some (.type T)) (ha : PA X (e :: es) (tMA X.K kx mas)) (hg : Gl X x := by rfl) (hn : x ≠ "__name__" := by decide) (hdb : (x == ("__debug__" : Str)) = false := by decide)
    (he : starEach (e :: es) X.env = (false, eval e X.env) :: starEach es X.env := by rfl) (hpl : (backTo pos (starEach es X.env)).any (·.1) = false := by rfl) : PE X (.Call (.Name x p) (e :: es) [] pos) (tM X.K kx (Mi.mB f mas)) :=
  (pe_callTy hc hg hm hv ha hn hdb he hpl).imp fun _ _ _ h => cb hf h
theorem f_len : Bok X kx Mi.fLen (fun xs H Q => ∃ p ys, xs = [.ref p] ∧ (SqL X.K H p ys ∨ SqT X.K H p ys) ∧ Q (.int ys.length) H) := by
  intro xs G d G' ρ H vs Q e rl ds k
  unfold Mi.fLen at e
  split at e
  · cases e
    cases ds with
    | cons a b =>
      cases b
      cases a with
      | tup h r =>
        refine ⟨_, _, rfl, .inr h, ?_⟩
        rw [← r.len]
        exact k _ ρ H Gr.refl rl (.int _)
  · split at e
    · rename_i ys el
      cases e
      cases ds with
      | cons a b =>
        cases b
        obtain ⟨p, ws, rfl, h, r⟩ := lstOf_at rl el a
        refine ⟨_, _, rfl, .inl h, ?_⟩
        rw [← r.len]
        exact k _ ρ H Gr.refl rl (.int _)
    · cases e
  · cases e
theorem f_int : Bok X kx Mi.fInt (fun xs H Q => (∃ i, xs = [.int i] ∧ Q (.int i) H) ∨ ∃ k, xs = [.bl k] ∧ Q (.int (if k then 1 else 0)) H) := by
  intro xs G d G' ρ H vs Q e rl ds k
  unfold Mi.fInt at e
  split at e
  · cases e
    cases ds with
    | cons a b =>
      cases b
      cases a
      exact .inl ⟨_, rfl, k _ ρ H Gr.refl rl (.int _)⟩
  · cases e
theorem f_max : Bok X kx Mi.fMax (fun xs H Q => ∃ i j, xs = [.int i, .int j] ∧ Q (.int (if j > i then j else i)) H) := by
  intro xs G d G' ρ H vs Q e rl ds k
  unfold Mi.fMax at e
  split at e
  · cases e
    cases ds with
    | cons a b =>
      cases b with
      | cons c t =>
        cases t
        cases a
        cases c
        exact ⟨_, _, rfl, k _ ρ H Gr.refl rl (.int _)⟩
  · cases e
theorem f_min : Bok X kx Mi.fMin (fun xs H Q => ∃ i j, xs = [.int i, .int j] ∧ Q (.int (if j < i then j else i)) H) := by
  intro xs G d G' ρ H vs Q e rl ds k
  unfold Mi.fMin at e
  split at e
  · cases e
    cases ds with
    | cons a b =>
      cases b with
      | cons c t =>
        cases t
        cases a
        cases c
        exact ⟨_, _, rfl, k _ ρ H Gr.refl rl (.int _)⟩
  · cases e
theorem f_tuple : Bok X kx Mi.fTuple (fun xs H Q => ∃ p ys, xs = [.ref p] ∧ ((SqL X.K H p ys ∧ ∀ l, H l = none → Q (.ref l) (upd H l (.tup ys))) ∨ (SqT X.K H p ys ∧ Q (.ref p) H))) := by
  intro xs G d G' ρ H vs Q e rl ds k
  unfold Mi.fTuple at e
  split at e
  · cases e
    cases ds with
    | cons a b =>
      cases b
      cases a with
      | tup h r => exact ⟨_, _, rfl, .inr ⟨h, k _ ρ H Gr.refl rl (.tup h r)⟩⟩
  · rename_i x _
    cases el : Mi.lstOf G x with
    | none => rw [el] at e; cases e
    | some ys =>
      rw [el] at e
      cases e
      cases ds with
      | cons a b =>
        cases b
        obtain ⟨p, ws, rfl, h, r⟩ := lstOf_at rl el a
        exact ⟨_, _, rfl, .inl ⟨h, tup_ok rl r k⟩⟩
  · cases e
theorem seqOf_at {K : PySem.W.Frag} {ρ : Rh} {G : Sto} {H : Hp} {d : Dv} {v : V} {xs : List Dv} (rl : Rl K kx ρ G H) (e : Mi.seqOf G d = some xs) (r : DR K ρ H d v) : ∃ a vs, v = .ref a ∧ (SqL K H a vs ∨ SqT K H a vs) ∧ DRs K ρ H xs vs := by
  unfold Mi.seqOf at e
  split at e
  · cases e
    cases r with
    | tup h r => exact ⟨_, _, rfl, .inr h, r⟩
  · obtain ⟨a, vs, h1, h2, h3⟩ := lstOf_at rl e r
    exact ⟨a, vs, h1, .inl h2, h3⟩
theorem f_list (m : Bool) : Bok X kx (Mi.fList m) (fun xs H Q => ∃ p ys, xs = [.ref p] ∧ (SqL X.K H p ys ∨ SqT X.K H p ys) ∧ ∀ l, H l = none → Q (.ref l) (upd H l (.lst ys))) := by
  intro xs G d G' ρ H vs Q e rl ds k
  unfold Mi.fList at e
  split at e
  · rename_i x
    cases el : Mi.seqOf G x with
    | none => rw [el] at e; cases e
    | some ys =>
      rw [el] at e
      have e' := Option.some.inj e
      cases ds with
      | cons a b =>
        cases b
        obtain ⟨p, ws, rfl, h, r⟩ := seqOf_at rl el a
        refine ⟨_, _, rfl, h, mkL_ok (m := m) rl r ?_⟩
        dsimp only at e'
        rw [e']
        exact k
  · cases e
/-! ### isinstance -/
/-- the class that a written type means -/
def tyS : Mi.Ty → String
  | .int => "int" | .bool => "bool" | .tuple => "tuple" | .str => "str" | .list => "list" | .cls _ => ""
theorem m_isI {t : Mi.Ty} {y : Str} {p p2 : Pos} (ht : ∀ c, t ≠ .cls c) (hm : X.mg "isinstance" = none) (hmT : X.mg y = none) (hb : bootBuiltins y = some (.type (tyS t))) (ha : PE X a (tM X.K kx ma))
    (hg : Gl X "isinstance" := by rfl) (hgT : Gl X y := by rfl) (hny : y ≠ "__name__" := by decide) (hdy : (y == ("__debug__" : Str)) = false := by decide)
    (he : starEach [a, .Name y p2] X.env = (false, eval a X.env) :: starEach [.Name y p2] X.env := by rfl) (hpl : (backTo pos (starEach [.Name y p2] X.env)).any (·.1) = false := by rfl) (hs : starEach [.Name y p2] X.env = (false, eval (.Name y p2) X.env) :: starEach [] X.env := by rfl) :
    PE X (.Call (.Name "isinstance" p) [a, .Name y p2] [] pos) (tM X.K kx (Mi.mIsI t ma)) := by
  refine (pe_callB call_isi hg hm (by decide +kernel) (pa_cons ha (pa_cons (pe_bltn (v := .ty (tyS t)) hgT hmT hb rfl hny hdy) pa_nil hs) he) (by decide) (by decide) he hpl).imp fun σ H Q ⟨ρ, G, δ, d, G', rl, sr, e, k⟩ => ?_
  obtain ⟨x, G1, e1, e⟩ := Mi.bnd_eq e
  refine ⟨ρ, G, δ, x, G1, rl, sr, e1, fun v ρ1 H1 g1 r1 d1 => ?_⟩
  dsimp only at e
  cases ei : Mi.isI t G1 x with
  | none => rw [ei] at e; cases e
  | some bb =>
    rw [ei] at e
    cases e
    have fin := k (.bl bb) ρ1 H1 g1 r1 (.bl bb)
    have go : ∀ {s : String}, TyX X.K H1 v (.type s) → kitB s (tyS t) = some bb → rIsi X.K [v, .ty (tyS t)] H1 Q := fun ty hk => ⟨v, .ty (tyS t), _, .type (tyS t), bb, rfl, .ty _, ty, kit_ty hk, fin⟩
    show rIsi X.K [v, .ty (tyS t)] H1 Q
    unfold Mi.isI at ei
    split at ei
    · cases ei
      cases d1
      exact go (.base .non) (by cases t <;> first | decide +kernel | exact absurd rfl (ht _))
    · cases ei
      cases d1
      exact go (.base (.bl _)) (by cases t <;> first | decide +kernel | exact absurd rfl (ht _))
    · cases ei
      cases d1
      exact go (.base (.int _)) (by cases t <;> first | decide +kernel | exact absurd rfl (ht _))
    · cases ei
      cases d1
      exact go (.base (.str _)) (by cases t <;> first | decide +kernel | exact absurd rfl (ht _))
    · cases ei
      cases d1 with
      | tup h r =>
        have hk : kitB "tuple" (tyS t) = some (t == .tuple) := by cases t <;> first | decide +kernel | exact absurd rfl (ht _)
        rcases h with (h | ⟨o, h⟩) | ⟨o, its, n, h1, h2, _⟩
        · exact go (.base (.tup h)) hk
        · exact go (.fTuple h) hk
        · exact go (.kTuple h1 h2) hk
    · cases ei
      cases d1 with
      | fls h n r => exact go (.base (.lst h)) (by cases t <;> first | decide +kernel | exact absurd rfl (ht _))
    · cases ei
    · cases d1 with
      | ref ea =>
        split at ei
        · rename_i eh
          cases ei
          obtain ⟨vs, h, r⟩ := lst_at r1 eh ea
          exact go (.base (.lst h)) (by cases t <;> first | decide +kernel | exact absurd rfl (ht _))
        · split at ei
          · exact absurd rfl (ht _)
          · cases ei
        · cases ei
end
end Ms

/-! PyS3b: all, any, methods of lists and dicts, subscripts, slices, fields, dict displays. -/
namespace Ms
open PySem L2
open Mi (Dv MO Sto Sl Rs bnd ME MT MA MS MF Fl MG MGs MI)
theorem bools_of {K : PySem.W.Frag} {ρ : Rh} {H : Hp} : ∀ {ds : List Dv} {vs : List V} {bs : List Bool}, Mi.bools ds = some bs → DRs K ρ H ds vs → vs = bs.map V.bl
  | [], _, _, e, .nil => by
    cases e
    rfl
  | .bl i :: r, _, ns, e, .cons a b => by
    unfold Mi.bools at e
    cases er : Mi.bools r with
    | none => rw [er] at e; cases e
    | some ms =>
      rw [er] at e
      cases e
      cases a
      rw [List.map_cons, bools_of er b]
  | .non :: _, _, _, e, _ => nomatch e
  | .int _ :: _, _, _, e, _ => nomatch e
  | .str _ :: _, _, _, e, _ => nomatch e
  | .tup _ :: _, _, _, e, _ => nomatch e
  | .fls _ :: _, _, _, e, _ => nomatch e
  | .scr _ :: _, _, _, e, _ => nomatch e
  | .ref _ :: _, _, _, e, _ => nomatch e
section
variable {X : Cx} {kx : Kx} {e a b c o : Expr} {ma mb mc me mo : ME} {mt mt' : MT} {pos : Pos} {rest es : List Expr} {mas : MA}
theorem f_all : Bok X kx Mi.fAll (rAll X.K) := by
  intro xs G d G' ρ H vs Q e rl ds k
  unfold Mi.fAll at e
  split at e
  · split at e
    · rename_i ys el
      cases eb : Mi.bools ys with
      | none => rw [eb] at e; cases e
      | some bs =>
        rw [eb] at e
        cases e
        cases ds with
        | cons a b =>
          cases b
          obtain ⟨p, ws, rfl, h, r⟩ := lstOf_at rl el a
          have ew := bools_of eb r
          subst ew
          exact ⟨p, bs, rfl, h, k _ ρ H Gr.refl rl (.bl _)⟩
    · cases e
  · cases e
theorem f_any : Bok X kx Mi.fAny (rAny X.K) := by
  intro xs G d G' ρ H vs Q e rl ds k
  unfold Mi.fAny at e
  split at e
  · split at e
    · rename_i ys el
      cases eb : Mi.bools ys with
      | none => rw [eb] at e; cases e
      | some bs =>
        rw [eb] at e
        cases e
        cases ds with
        | cons a b =>
          cases b
          obtain ⟨p, ws, rfl, h, r⟩ := lstOf_at rl el a
          have ew := bools_of eb r
          subst ew
          exact ⟨p, bs, rfl, h, k _ ρ H Gr.refl rl (.bl _)⟩
    · cases e
  · cases e
/-! ### list methods -/
theorem m_append {apos : Pos} (ho : PE X o (tM X.K kx mo)) (ha : PE X a (tM X.K kx ma)) (hbase : attributeBase o "append" X.env (eval o X.env) = eval o X.env := by rfl)
    (hfew : ((backTo pos (starEach [a] X.env)).all (fun x => !x.1) && (backToKw pos (keywordEach [] X.env)).all (fun x => x.1.isSome) && decide (([a] : List Expr).length + ([] : List Keyword).length + (if ([] : List Keyword).isEmpty then 0 else 1) < 30)) = true := by rfl)
    (hline : (apos.endLine == pos.line) = true := by rfl) (hs : starEach [a] X.env = (false, eval a X.env) :: starEach [] X.env := by rfl) (hplain : (backTo pos (starEach [] X.env)).any (·.1) = false := by rfl) :
    PE X (.Call (.Attribute o "append" apos) [a] [] pos) (tM X.K kx (Mi.mAppend mo ma)) :=
  (pe_bm PySem.F.plainAttrs_list PySem.F.slot_list_append PySem.F.type_list_append mt_append ho (pa_cons ha pa_nil hs) hbase hfew hline hs hplain).imp fun σ H Q ⟨ρ, G, δ, d, G', rl, sr, e, k⟩ => by
  obtain ⟨x, G1, e1, e⟩ := Mi.bnd_eq e
  obtain ⟨y, G2, e2, e⟩ := Mi.bnd_eq e
  refine ⟨ρ, G, δ, x, G1, rl, sr, e1, fun v ρ1 H1 g1 r1 d1 => ?_⟩
  cases x with
  | ref h =>
    dsimp only at e
    split at e
    · rename_i z xs eh1 eh2
      split at e
      · rename_i hz
        cases e
        cases d1 with
        | @ref _ ad ea =>
          obtain ⟨vs1, h1, _⟩ := lst_at r1 eh1 ea
          refine ⟨.inl ⟨rfl, _, SqL.of h1⟩, ρ1, G1, δ, y, G2, r1, sr.gr g1, e2, fun w ρ2 H2 g2 r2 d2 => ?_⟩
          have ea2 : ρ2.r[h]? = some ad := by
            have q := (DR.ref (K := X.K) (H := H1) ea).gr g2
            cases q with
            | ref q => exact q
          obtain ⟨vs, h2, rv⟩ := lst_at r2 eh2 ea2
          refine ⟨ad, vs, w, rfl, rfl, h2, by rw [← rv.len, ← big_line]; exact hz, ?_⟩
          obtain ⟨g3, r3⟩ := r2.wr (o := .lst (vs ++ [w])) (m := .lst (xs ++ [y])) ea2 fun g => .lst upd_same ((rv.app (.cons d2 .nil)).gr g)
          exact k .non _ _ ((g1.trans g2).trans g3) r3 .non
      · cases e
    · cases e
  | _ => cases e
theorem m_pop {apos : Pos} (ho : PE X o (tM X.K kx mo)) (hbase : attributeBase o "pop" X.env (eval o X.env) = eval o X.env := by rfl) (hline : (apos.endLine == pos.line) = true := by rfl) :
    PE X (.Call (.Attribute o "pop" apos) [] [] pos) (tM X.K kx (Mi.mPop mo)) :=
  (pe_bm0 PySem.F.plainAttrs_list PySem.F.slot_list_pop PySem.F.type_list_pop mt_pop ho hbase hline).imp fun σ H Q ⟨ρ, G, δ, d, G', rl, sr, e, k⟩ => by
  obtain ⟨x, G1, e1, e⟩ := Mi.bnd_eq e
  refine ⟨ρ, G, δ, x, G1, rl, sr, e1, fun v ρ1 H1 g1 r1 d1 => ?_⟩
  cases x with
  | ref h =>
    dsimp only at e
    split at e
    · rename_i xs eh
      split at e
      · rename_i y ey
        cases e
        cases d1 with
        | @ref _ ad ea =>
          obtain ⟨vs, h1, rv⟩ := lst_at r1 eh ea
          have ey' : xs[xs.length - 1]? = some d := by rw [← List.getLast?_eq_getElem?]; exact ey
          obtain ⟨w, hw, dw⟩ := rv.get ey'
          refine ⟨.inl ⟨rfl, _, SqL.of h1⟩, ad, vs, w, rfl, rfl, h1, by rw [← rv.len]; exact hw, ?_⟩
          have rd : DRs X.K ρ1 H1 xs.dropLast vs.dropLast := by
            rw [List.dropLast_eq_take, List.dropLast_eq_take, rv.len]
            exact rv.take _
          obtain ⟨g3, r3⟩ := r1.wr (o := .lst vs.dropLast) (m := .lst xs.dropLast) ea fun g => .lst upd_same (rd.gr g)
          exact k w _ _ (g1.trans g3) r3 (dw.gr g3)
      · cases e
    · cases e
  | _ => cases e
/-! ### dicts -/
theorem kOf_v {K : PySem.W.Frag} {ρ : Rh} {H : Hp} {d : Dv} {v : V} {k : Mi.Key} (e : Mi.kOf d = some k) (r : DR K ρ H d v) : v = kV (kK k) := by
  unfold Mi.kOf at e
  split at e
  · cases e
    cases r
    rfl
  · cases e
    cases r
    rfl
  · cases e
theorem look_ok {K : PySem.W.Frag} {ρ : Rh} {H : Hp} {k : Mi.Key} : ∀ {kvs : List (Mi.Key × Dv)} {ks : List (L2.Key × V)}, KR K ρ H kvs ks →
    (∀ d, Mi.look kvs k = some d → ∃ v, valV ks (kK k) = some v ∧ DR K ρ H d v) ∧ (Mi.look kvs k = none → valV ks (kK k) = none)
  | _, _, .nil => ⟨(fun d e => nomatch e), fun _ => rfl⟩
  | (j, x) :: r, (j', v) :: r', .cons ⟨h1, h2⟩ t => by
    obtain ⟨i1, i2⟩ := look_ok (k := k) t
    have h1' : j' = kK j := h1
    subst h1'
    by_cases hj : j = k
    · subst hj
      have e1 : Mi.look ((j, x) :: r) j = some x := by simp [Mi.look, List.find?_cons]
      have e2 : valV ((kK j, v) :: r') (kK j) = some v := valV_pos rfl
      refine ⟨fun d e => ?_, fun e => ?_⟩
      · rw [e1] at e
        cases e
        exact ⟨v, e2, h2⟩
      · rw [e1] at e
        cases e
    · have hj' : ¬ kK j = kK k := fun z => hj (kK_inj z)
      have e1 : Mi.look ((j, x) :: r) k = Mi.look r k := by simp [Mi.look, List.find?_cons, hj]
      have e2 : valV ((kK j, v) :: r') (kK k) = valV r' (kK k) := valV_neg hj'
      rw [e1, e2]
      exact ⟨i1, i2⟩
theorem any_ok {K : PySem.W.Frag} {ρ : Rh} {H : Hp} {k : Mi.Key} : ∀ {kvs : List (Mi.Key × Dv)} {ks : List (L2.Key × V)}, KR K ρ H kvs ks →
    (kvs.any fun kv => decide (kv.1 = k)) = (ks.any fun kv => decide (kv.1 = kK k))
  | _, _, .nil => rfl
  | (j, x) :: r, (j', v) :: r', .cons ⟨h1, h2⟩ t => by
    have h1' : j' = kK j := h1
    subst h1'
    rw [List.any_cons, List.any_cons, any_ok t]
    have z : decide (j = k) = decide (kK j = kK k) := by
      by_cases hj : j = k
      · subst hj
        simp
      · have hj' : ¬ kK j = kK k := fun z => hj (kK_inj z)
        simp [hj, hj']
    show (decide (j = k) || _) = (decide (kK j = kK k) || _)
    rw [z]
theorem put_ok {K : PySem.W.Frag} {ρ : Rh} {H : Hp} {k : Mi.Key} {d : Dv} {v : V} {kvs : List (Mi.Key × Dv)} {ks : List (L2.Key × V)} (r : KR K ρ H kvs ks) (q : DR K ρ H d v) : KR K ρ H (Mi.put kvs k d) (putK ks (kK k) v) := by
  have e1 : putK ks (kK k) v = if (ks.any fun kv => decide (kv.1 = kK k)) = true then ks.map fun kv => if kv.1 = kK k then (kv.1, v) else kv else ks ++ [(kK k, v)] := rfl
  rw [e1]
  unfold Mi.put
  rw [any_ok r]
  split
  · have m : ∀ {kvs : List (Mi.Key × Dv)} {ks : List (L2.Key × V)}, KR K ρ H kvs ks → KR K ρ H (kvs.map fun kv => if kv.1 = k then (kv.1, d) else kv) (ks.map fun kv => if kv.1 = kK k then (kv.1, v) else kv) := by
      intro kvs ks r
      induction r with
      | nil => exact .nil
      | @cons a as b bs h t ih =>
        obtain ⟨h1, h2⟩ := h
        refine .cons ?_ ih
        dsimp only
        by_cases hj : a.1 = k
        · rw [if_pos hj, if_pos (by rw [h1, hj])]
          exact ⟨h1, q⟩
        · rw [if_neg hj, if_neg (fun z => hj (kK_inj (h1 ▸ z)))]
          exact ⟨h1, h2⟩
    exact m r
  · exact AR.app r (.cons ⟨rfl, q⟩ .nil)
theorem kr_isD {K : PySem.W.Frag} {ρ : Rh} {G : Sto} {H : Hp} {h : Nat} {a : Addr} {kvs : List (Mi.Key × Dv)} (rl : Rl K kx ρ G H) (e : G[h]? = some (.dct kvs)) (ea : ρ.r[h]? = some a) : IsD H a := by
  obtain ⟨ks, h1, _⟩ := dct_at rl e ea
  exact .inl ⟨ks, .inl h1⟩
theorem ref_gr {K : PySem.W.Frag} {ρ ρ' : Rh} {H H' : Hp} {h : Nat} {a : Addr} (g : Gr ρ H ρ' H') (e : ρ.r[h]? = some a) : ρ'.r[h]? = some a := by
  obtain ⟨t, z⟩ := g.pre.1
  rw [z, List.getElem?_append_left (List.getElem?_eq_some_iff.mp e).1]
  exact e
theorem m_get2 {k x : Expr} {mk mx : ME} {apos : Pos} (hu : X.A.units + 1 < cLine) (ho : PE X o (tM X.K kx mo)) (hk : PE X k (tM X.K kx mk)) (hx : PE X x (tM X.K kx mx)) (m : M2 X o "get" apos k x pos := by exact ⟨rfl, rfl, rfl, rfl⟩) :
    PE X (.Call (.Attribute o "get" apos) [k, x] [] pos) (tM X.K kx (Mi.mGet2 mo mk mx)) := (pe_dget2 hu ho hk hx m).imp fun σ H Q ⟨ρ, G, δ, d, G', rl, sr, e, q⟩ => by
  obtain ⟨xo, G1, e1, e⟩ := Mi.bnd_eq e
  obtain ⟨y, G2, e2, e⟩ := Mi.bnd_eq e
  obtain ⟨z, G3, e3, e⟩ := Mi.bnd_eq e
  refine ⟨ρ, G, δ, xo, G1, rl, sr, e1, fun v ρ1 H1 g1 r1 d1 => ?_⟩
  cases xo with
  | ref h =>
    dsimp only at e
    split at e
    · rename_i kv1 kvs ky eh1 eh3 ek
      cases e
      cases d1 with
      | @ref _ ad ea =>
        refine ⟨ad, rfl, kr_isD r1 eh1 ea, ρ1, G1, δ, y, G2, r1, sr.gr g1, e2, fun w ρ2 H2 g2 r2 d2 => ⟨ρ2, G2, δ, z, _, r2, sr.gr (g1.trans g2), e3, fun u ρ3 H3 g3 r3 d3 => ?_⟩⟩
        have ew := kOf_v ek d2
        subst ew
        obtain ⟨ks, h3, kr⟩ := dct_at r3 eh3 (ref_gr (K := X.K) (g2.trans g3) ea)
        obtain ⟨i1, i2⟩ := look_ok (k := ky) kr
        refine ⟨_, DGet.k h3, ?_⟩
        cases el : Mi.look kvs ky with
        | none =>
          rw [i2 el]
          rw [el] at q
          exact q u ρ3 H3 ((g1.trans g2).trans g3) r3 d3
        | some dd =>
          obtain ⟨vv, hv, rv⟩ := i1 dd el
          rw [hv]
          rw [el] at q
          exact q vv ρ3 H3 ((g1.trans g2).trans g3) r3 rv
    · cases e
  | _ => cases e
theorem m_get1 {k : Expr} {mk : ME} {apos : Pos} (hu : X.A.units + 1 < cLine) (ho : PE X o (tM X.K kx mo)) (hk : PE X k (tM X.K kx mk)) (m : M1 X o "get" apos k pos := by exact ⟨rfl, rfl, rfl, rfl⟩) :
    PE X (.Call (.Attribute o "get" apos) [k] [] pos) (tM X.K kx (Mi.mGet1 mo mk)) := (pe_dget1 hu ho hk m).imp fun σ H Q ⟨ρ, G, δ, d, G', rl, sr, e, q⟩ => by
  obtain ⟨xo, G1, e1, e⟩ := Mi.bnd_eq e
  obtain ⟨y, G2, e2, e⟩ := Mi.bnd_eq e
  refine ⟨ρ, G, δ, xo, G1, rl, sr, e1, fun v ρ1 H1 g1 r1 d1 => ?_⟩
  cases xo with
  | ref h =>
    dsimp only at e
    split at e
    · rename_i kv1 kvs ky eh1 eh3 ek
      cases e
      cases d1 with
      | @ref _ ad ea =>
        refine ⟨ad, rfl, kr_isD r1 eh1 ea, ρ1, G1, δ, y, _, r1, sr.gr g1, e2, fun w ρ2 H2 g2 r2 d2 => ?_⟩
        have ew := kOf_v ek d2
        subst ew
        obtain ⟨ks, h3, kr⟩ := dct_at r2 eh3 (ref_gr (K := X.K) g2 ea)
        obtain ⟨i1, i2⟩ := look_ok (k := ky) kr
        refine ⟨_, DGet.k h3, ?_⟩
        cases el : Mi.look kvs ky with
        | none =>
          rw [i2 el]
          rw [el] at q
          exact q .non ρ2 H2 (g1.trans g2) r2 .non
        | some dd =>
          obtain ⟨vv, hv, rv⟩ := i1 dd el
          rw [hv]
          rw [el] at q
          exact q vv ρ2 H2 (g1.trans g2) r2 rv
    · cases e
  | _ => cases e
/-! ### subscripts -/
theorem ixN_eq : Mi.ixN = L2.ixN := rfl
theorem atI_ok {K : PySem.W.Frag} {ρ : Rh} {H : Hp} {xs : List Dv} {vs : List V} {i : Int} {d : Dv} (r : DRs K ρ H xs vs) (e : Mi.atI xs i = some d) : ∃ v, L2.atI vs i = some v ∧ DR K ρ H d v := by
  unfold Mi.atI at e
  unfold L2.atI
  rw [ixN_eq, r.len] at e
  cases ei : L2.ixN vs.length i with
  | none => rw [ei] at e; cases e
  | some j =>
    rw [ei] at e
    exact r.get e
theorem m_sub (hu : X.A.units + 1 < cLine) (ha : PE X a (tM X.K kx ma)) (hb : PE X b (tM X.K kx mb)) (hs : PlainIx b := by exact fun _ _ => rfl) : PE X (.Subscript a b pos) (tM X.K kx (Mi.m2 Mi.bSubs ma mb)) :=
  (PE.or (pe_ix (IxR.or ix_list ix_tup) ha hb hs) (pe_dget hu ha hb hs)).imp fun σ H Q ⟨ρ, G, δ, d, G', rl, sr, e, k⟩ => by
  obtain ⟨x, G1, e1, e⟩ := Mi.bnd_eq e
  obtain ⟨y, G2, e2, e⟩ := Mi.bnd_eq e
  unfold Mi.bSubs at e
  split at e
  · rename_i rr eg
    cases e
    refine .inr ⟨ρ, G, δ, x, G1, rl, sr, e1, fun v ρ1 H1 g1 r1 d1 => ⟨ρ1, G1, δ, y, G2, r1, sr.gr g1, e2, fun w ρ2 H2 g2 r2 d2 => ?_⟩⟩
    have d1' := d1.gr g2
    unfold Mi.bGet at eg
    split at eg
    · split at eg
      · rename_i kvs eh
        split at eg
        · rename_i ky ek
          cases d1' with
          | ref ea =>
            have ew := kOf_v ek d2
            subst ew
            obtain ⟨ks, h3, kr⟩ := dct_at r2 eh ea
            cases el : Mi.look kvs ky with
            | none => rw [el] at eg; cases eg
            | some dd =>
              rw [el] at eg
              cases eg
              obtain ⟨vv, hv, rv⟩ := (look_ok (k := ky) kr).1 _ el
              have dg := DGet.k (k := kK ky) h3
              rw [hv] at dg
              exact ⟨_, vv, rfl, dg, k vv ρ2 H2 (g1.trans g2) r2 rv⟩
        · cases eg
      · cases eg
    · cases eg
  · refine .inl ⟨ρ, G, δ, x, G1, rl, sr, e1, fun v ρ1 H1 g1 r1 d1 => ⟨ρ1, G1, δ, y, G2, r1, sr.gr g1, e2, fun w ρ2 H2 g2 r2 d2 => ?_⟩⟩
    have d1' := d1.gr g2
    unfold Mi.bIx at e
    cases es : Mi.seqOf G2 x with
    | none => rw [es] at e; cases e
    | some xs =>
      rw [es] at e
      cases y with
      | int i =>
        dsimp only at e
        cases ei : Mi.atI xs i with
        | none => rw [ei] at e; cases e
        | some dd =>
          rw [ei] at e
          cases e
          obtain ⟨p, ws, rfl, h, r⟩ := seqOf_at r2 es d1'
          obtain ⟨vv, h2, rv⟩ := atI_ok r ei
          cases d2
          rcases h with h | h
          · exact .inl ⟨_, _, _, vv, rfl, rfl, h, h2, k vv ρ2 H2 (g1.trans g2) r2 rv⟩
          · exact .inr ⟨_, _, _, vv, rfl, rfl, h, h2, k vv ρ2 H2 (g1.trans g2) r2 rv⟩
      | _ => cases e
/-! ### slices -/
def tMO (K : PySem.W.Frag) (kx : Kx) (m : Option ME) : TO := fun σ H Q => ∃ (ρ : Rh) (G : Sto) (δ : Sl) (d : Option Int) (G' : Sto), Rl K kx ρ G H ∧ Sr K ρ H δ σ ∧ Mi.mO m δ G = some (d, G') ∧
  ∀ ρ' H', Gr ρ H ρ' H' → Rl K kx ρ' G' H' → Q d H'
theorem _root_.L2.PO.imp {X : Cx} {e : Option Expr} {t u : TO} (h : PO X e t) (i : ∀ σ H Q, u σ H Q → t σ H Q) : PO X e u := ⟨fun pins s σ H Q I q => h.run pins s σ H Q I (i σ H Q q)⟩
theorem mo_none : PO X none (tMO X.K kx none) := po_none.imp fun σ H Q ⟨ρ, G, δ, d, G', rl, sr, e, k⟩ => by
  cases e
  exact k ρ H Gr.refl rl
theorem mo_some (ha : PE X a (tM X.K kx ma)) : PO X (some a) (tMO X.K kx (some ma)) := (po_some ha).imp fun σ H Q ⟨ρ, G, δ, d, G', rl, sr, e, k⟩ => by
  obtain ⟨x, G1, e1, e⟩ := Mi.bnd_eq e
  refine ⟨ρ, G, δ, x, G1, rl, sr, e1, fun v ρ1 H1 g1 r1 d1 => ?_⟩
  split at e
  · cases e
    cases d1
    exact ⟨_, rfl, k ρ1 H1 g1 r1⟩
  · cases e
theorem sIx_eq (n d : Nat) (o : Option Int) : Mi.sIx n d o = HT.sIx n d o := by cases o <;> rfl
theorem cut_ok {K : PySem.W.Frag} {ρ : Rh} {H : Hp} {xs : List Dv} {vs : List V} {lo hi : Option Int} (r : DRs K ρ H xs vs) : DRs K ρ H (Mi.cut xs lo hi) (cutV vs lo hi) := by
  unfold Mi.cut cutV
  rw [sIx_eq, sIx_eq, r.len]
  exact (r.drop _).take _
theorem cut_whole {xs : List Dv} {lo hi : Option Int} (h1 : Mi.sIx xs.length 0 lo = 0) (h2 : Mi.sIx xs.length xs.length hi = xs.length) : Mi.cut xs lo hi = xs := by
  unfold Mi.cut
  rw [h1, h2]
  simp
theorem m_slice (m : Bool) {lo hi : Option Expr} {ml mh : Option ME} {p2 : Pos} (ha : PE X a (tM X.K kx ma)) (hl : PO X lo (tMO X.K kx ml)) (hh : PO X hi (tMO X.K kx mh)) :
    PE X (.Subscript a (.Slice lo hi none p2) pos) (tM X.K kx (Mi.mSlice m ma ml mh)) := (pe_slice (SlR.or sl_list sl_tupA) ha hl hh).imp fun σ H Q ⟨ρ, G, δ, d, G', rl, sr, e, k⟩ => by
  obtain ⟨x, G1, e1, e⟩ := Mi.bnd_eq e
  obtain ⟨l, G2, e2, e⟩ := Mi.bnd_eq e
  obtain ⟨u, G3, e3, e⟩ := Mi.bnd_eq e
  refine ⟨ρ, G, δ, x, G1, rl, sr, e1, fun v ρ1 H1 g1 r1 d1 => ⟨ρ1, G1, δ, l, G2, r1, sr.gr g1, e2, fun ρ2 H2 g2 r2 => ⟨ρ2, G2, δ, u, G3, r2, sr.gr (g1.trans g2), e3, fun ρ3 H3 g3 r3 => ?_⟩⟩⟩
  have d3 := d1.gr (g2.trans g3)
  have k' : ∀ v ρ' H', Gr ρ3 H3 ρ' H' → Rl X.K kx ρ' G' H' → DR X.K ρ' H' d v → Q v H' := fun v ρ' H' g r q => k v ρ' H' (((g1.trans g2).trans g3).trans g) r q
  split at e
  · cases e
    cases d3 with
    | tup h r =>
      refine .inr ⟨_, _, rfl, h, fun ⟨z1, z2⟩ => ?_, fun _ => tup_ok r3 (cut_ok r) k'⟩
      refine k' _ ρ3 H3 Gr.refl r3 ?_
      rw [cut_whole (by rw [sIx_eq, r.len]; exact z1) (by rw [sIx_eq, r.len]; exact z2)]
      exact .tup h r
  · split at e
    · rename_i xs el
      have e' := Option.some.inj e
      obtain ⟨p, ws, rfl, h, r⟩ := lstOf_at r3 el d3
      refine .inl ⟨_, _, rfl, h, mkL_ok (m := m) r3 (cut_ok r) ?_⟩
      rw [e']
      exact k'
    · cases e
theorem m_rev (m : Bool) {j : Nat} {p1 p2 p3 : Pos} (ha : PE X a (tM X.K kx ma)) : PE X (.Subscript a (.Slice none none (some (.UnaryOp .USub (.Constant (.int 1) j p1) p2)) p3) pos) (tM X.K kx (Mi.mRev m ma)) := (pe_revL ha).imp fun σ H Q ⟨ρ, G, δ, d, G', rl, sr, e, k⟩ => by
  obtain ⟨x, G1, e1, e⟩ := Mi.bnd_eq e
  refine ⟨ρ, G, δ, x, G1, rl, sr, e1, fun v ρ1 H1 g1 r1 d1 => ?_⟩
  dsimp only at e
  split at e
  · rename_i xs el
    have e' := Option.some.inj e
    obtain ⟨p, ws, rfl, h, r⟩ := lstOf_at r1 el d1
    refine ⟨_, _, rfl, h, mkL_ok (m := m) r1 r.rev ?_⟩
    rw [e']
    exact fun z ρ' H' g r q => k z ρ' H' (g1.trans g) r q
  · cases e
/-! ### fields -/
theorem flook_ok {K : PySem.W.Frag} {ρ : Rh} {H : Hp} {f : String} : ∀ {fs : List (String × Dv)} {fs' : List (Str × V)}, FR K ρ H fs fs' →
    (∀ d, fs.lookup f = some d → ∃ v, fs'.lookup (Str.ofString f) = some v ∧ DR K ρ H d v) ∧ (fs.lookup f = none → fs'.lookup (Str.ofString f) = none)
  | _, _, .nil => ⟨(fun d e => nomatch e), fun _ => rfl⟩
  | (j, x) :: r, (j', v) :: r', .cons ⟨h1, h2⟩ t => by
    obtain ⟨i1, i2⟩ := flook_ok (f := f) t
    have h1' : j' = Str.ofString j := h1
    subst h1'
    by_cases hj : f = j
    · subst hj
      have e1 : List.lookup f ((f, x) :: r) = some x := by simp [List.lookup]
      have e2 : List.lookup (Str.ofString f) ((Str.ofString f, v) :: r') = some v := by simp [List.lookup]
      refine ⟨fun d e => ?_, fun e => ?_⟩
      · rw [e1] at e
        cases e
        exact ⟨v, e2, h2⟩
      · rw [e1] at e
        cases e
    · have hj' : ¬ Str.ofString f = Str.ofString j := fun z => hj (ofString_inj z)
      have b1 : (f == j) = false := beq_eq_false_iff_ne.mpr hj
      have b2 : (Str.ofString f == Str.ofString j) = false := beq_eq_false_iff_ne.mpr hj'
      have e1 : List.lookup f ((j, x) :: r) = List.lookup f r := by simp only [List.lookup, b1]
      have e2 : List.lookup (Str.ofString f) ((Str.ofString j, v) :: r') = List.lookup (Str.ofString f) r' := by simp only [List.lookup, b2]
      rw [e1, e2]
      exact ⟨i1, i2⟩
theorem fput_ok {K : PySem.W.Frag} {ρ : Rh} {H : Hp} {f : String} {d : Dv} {v : V} (q : DR K ρ H d v) : ∀ {fs : List (String × Dv)} {fs' : List (Str × V)}, FR K ρ H fs fs' → FR K ρ H (Mi.putF f d fs) (L2.putF (Str.ofString f) v fs')
  | _, _, .nil => .cons ⟨rfl, q⟩ .nil
  | (j, x) :: r, (j', w) :: r', .cons ⟨h1, h2⟩ t => by
    have h1' : j' = Str.ofString j := h1
    subst h1'
    show FR K ρ H (if j = f then (j, d) :: r else (j, x) :: Mi.putF f d r) (if Str.ofString j = Str.ofString f then (Str.ofString j, v) :: r' else (Str.ofString j, w) :: L2.putF (Str.ofString f) v r')
    by_cases hj : j = f
    · rw [if_pos hj, if_pos (by rw [hj])]
      exact .cons ⟨rfl, q⟩ t
    · rw [if_neg hj, if_neg (fun z => hj (ofString_inj z))]
      exact .cons ⟨rfl, h2⟩ (fput_ok q t)
/-- the classes cs have no attribute f of their own -/
def Fok (K : PySem.W.Frag) (kx : Kx) (cs : List Nat) (f : String) : Prop := ∀ c ∈ cs, Cls K (kx.ca c) ∧ NoAttr K (kx.ca c) (Str.ofString f)
theorem m_fld {cs : List Nat} {f : String} (hf : Fok X.K kx cs f) (ha : PE X a (tM X.K kx ma)) (hb : attributeBase a (Str.ofString f) X.env (eval a X.env) = eval a X.env := by rfl) : PE X (.Attribute a (Str.ofString f) pos) (tM X.K kx (Mi.mFld cs ma f)) := (pe_fld ha hb).imp fun σ H Q ⟨ρ, G, δ, d, G', rl, sr, e, k⟩ => by
  obtain ⟨x, G1, e1, e⟩ := Mi.bnd_eq e
  refine ⟨ρ, G, δ, x, G1, rl, sr, e1, fun v ρ1 H1 g1 r1 d1 => ?_⟩
  dsimp only at e
  split at e
  · split at e
    · rename_i c fs eh
      split at e
      · rename_i hc
        cases d1 with
        | ref ea =>
          obtain ⟨dx, fs', h1, fr⟩ := ins_at r1 eh ea
          cases el : fs.lookup f with
          | none => rw [el] at e; cases e
          | some dd =>
            rw [el] at e
            cases e
            obtain ⟨w, hw, rw'⟩ := (flook_ok (f := f) fr).1 _ el
            exact ⟨_, _, _, _, w, rfl, h1, (hf c hc).1, (hf c hc).2, hw, k w ρ1 H1 g1 r1 rw'⟩
      · cases e
    · cases e
  · cases e
/-! ### list(range(..)) -/
theorem rng_ok {K : PySem.W.Frag} {ρ : Rh} {H : Hp} {a b : Int} : DRs K ρ H (Mi.rng a b) (rgV a b) := by
  unfold Mi.rng rgV
  generalize List.range (b - a).toNat = l
  induction l with
  | nil => exact .nil
  | cons i r ih => exact .cons (.int _) ih
theorem m_listR2 (m : Bool) {p p2 pos2 : Pos} (hc : X.calm = true) (hm : X.mg "list" = none) (hm2 : X.mg "range" = none) (ha : PE X a (tM X.K kx ma)) (hb : PE X b (tM X.K kx mb)) (hg : Gl X "list" := by rfl) (hg2 : Gl X "range" := by rfl)
    (na : starEach [a, b] X.env = (false, eval a X.env) :: starEach [b] X.env := by rfl) (nb : starEach [b] X.env = (false, eval b X.env) :: starEach [] X.env := by rfl) (hp : (backTo pos2 (starEach [b] X.env)).any (·.1) = false := by rfl) (nr : starEach [Expr.Call (.Name "range" p2) [a, b] [] pos2] X.env = (false, eval (Expr.Call (.Name "range" p2) [a, b] [] pos2) X.env) :: starEach [] X.env := by rfl) :
    PE X (.Call (.Name "list" p) [.Call (.Name "range" p2) [a, b] [] pos2] [] pos) (tM X.K kx (Mi.m2 (Mi.bListR m) ma mb)) :=
  (pe_listRg hc hg hm (prg_2 hg2 hm2 ha hb na nb hp) nr).imp fun σ H Q ⟨ρ, G, δ, d, G', rl, sr, e, k⟩ => by
  obtain ⟨x, G1, e1, e⟩ := Mi.bnd_eq e
  obtain ⟨y, G2, e2, e⟩ := Mi.bnd_eq e
  refine ⟨ρ, G, δ, x, G1, rl, sr, e1, fun v ρ1 H1 g1 r1 d1 => ⟨ρ1, G1, δ, y, G2, r1, sr.gr g1, e2, fun w ρ2 H2 g2 r2 d2 => ?_⟩⟩
  unfold Mi.bListR at e
  split at e
  · split at e
    · rename_i hz
      obtain ⟨z1, z2, z3, z4, z5⟩ := hz
      have e' := Option.some.inj e
      cases d1
      cases d2
      refine ⟨_, _, rfl, rfl, ⟨z1, z2, z3, z4, z5⟩, mkL_ok (m := m) r2 rng_ok ?_⟩
      rw [e']
      exact fun z ρ' H' g r q => k z ρ' H' ((g1.trans g2).trans g) r q
    · cases e
  · cases e
end
end Ms

/-! PyS3c: calls of defs, of methods, of classes; dict displays; repr of equal data. -/
namespace Ms
open PySem L2
open Mi (Dv MO Sto Sl Rs bnd ME MT MA MS MF Fl MG MGs MI)
/-- the def at f does what the mirror's function mf does, where no repr is under way -/
structure FnM (P : Program) (w : World) (K : PySem.W.Frag) (kx : Kx) (mg : Str → Option Value) (base : Heap) (k : Nat) (f : Addr) (fd : FuncData) (ps : List Str) (mf : MF) : Prop where
  ar : ∀ ds G r, mf ds G = some r → ds.length = ps.length
  run : ∀ (A : Around) (outer : List Env) (s : Shared) (H : Hp) (args : Args) (us : List Value) (vs : List V) (Q : VK) (ρ : Rh) (G : Sto) (ds : List Dv) (d : Dv) (G' : Sto), A.guards = some [] → Room k A → Env0 P w K mg base A outer s H →
    BindsTo s fd args (ps.zip us) → Vals vs us → Rl K kx ρ G H → DRs K ρ H ds vs → mf ds G = some (d, G') → (∀ v ρ' H', Gr ρ H ρ' H' → Rl K kx ρ' G' H' → DR K ρ' H' d v → Q v H') →
    codeAny (model P w) A (.call (.ref f) args) (CR CX0 outer P w H s Q E0) s
theorem FnM.mono {P : Program} {w : World} {K : PySem.W.Frag} {kx : Kx} {mg : Str → Option Value} {base : Heap} {j k : Nat} {f : Addr} {fd : FuncData} {ps : List Str} {mf : MF} (F : FnM P w K kx mg base j f fd ps mf) (h : j ≤ k) : FnM P w K kx mg base k f fd ps mf :=
  ⟨F.ar, fun A outer s H args us vs Q ρ G ds d G' hG hr => F.run A outer s H args us vs Q ρ G ds d G' hG (hr.mono h)⟩
section
variable {X : Cx} {kx : Kx} {e a b c o : Expr} {ma mb mc me mo : ME} {pos p apos : Pos} {rest es : List Expr} {mas mks : MA} {k : Nat} {f : Addr} {fd : FuncData} {ps : List Str} {mf : MF} {x : Str}
/-- behind a callee -/
theorem after_run {pins : List (Addr × Obj)} {σ : St} {H : Hp} {s s' : Shared} {Q : VK} {r : Result} (I : Inv X pins σ H s) (h : CR CX0 X.stack X.prog X.w H s Q E0 r s') : ∃ u, r = .ok (.ret u) ∧ EP X pins σ Q u s' := by
  match r, h with
  | .ok (.ret u), back => exact ⟨u, rfl, I.after back⟩
theorem run_m {pins : List (Addr × Obj)} {σ : St} {H : Hp} {s : Shared} {Q : VK} {us : List Value} {vs : List V} {kw : List (Str × Value)} {ws : List Value} {ρ : Rh} {G : Sto} {ds : List Dv} {d : Dv} {G' : Sto} (F : FnM X.prog X.w X.K kx X.mg X.base k f fd ps mf) (hG : X.A.guards = some []) (hr : Room k X.A)
    (I : Inv X pins σ H s) (hb : BindsTo s fd ⟨us, kw⟩ (ps.zip ws)) (r : Vals vs ws) (rl : Rl X.K kx ρ G H) (dr : DRs X.K ρ H ds vs) (e : mf ds G = some (d, G')) (q : ∀ v ρ' H', Gr ρ H ρ' H' → Rl X.K kx ρ' G' H' → DR X.K ρ' H' d v → Q v H') :
    wpAny (model X.prog X.w) X.A (call (.ref f) us kw) (EP X pins σ Q) X.xe s := by
  refine wpAny_call (codeAny_mono (F.run X.A X.stack s H ⟨us, kw⟩ ws vs Q ρ G ds d G' hG hr I.env0 hb r rl dr e q) fun res s' h => ?_)
  obtain ⟨u, e1, e2⟩ := after_run I h
  subst e1
  exact e2
theorem lenOf {ps : List Str} {ds : List Dv} {vs : List V} {us : List Value} {K : PySem.W.Frag} {ρ : Rh} {H : Hp} (h : ds.length = ps.length) (r : DRs K ρ H ds vs) (q : Vals vs us) : (us ++ []).length = ps.length := by
  rw [List.append_nil, ← q.length, ← r.len]
  exact h
/-- f(e, ..) -/
theorem m_call (F : FnM X.prog X.w X.K kx X.mg X.base k f fd ps mf) (hG : X.A.guards = some []) (hr : Room k X.A) (hm : X.mg x = some (.ref f)) (hk : PySem.W.keepIn X.K (.ref f) = true) (hb : Binds X.K fd ps []) (ha : PA X (e :: es) (tMA X.K kx mas)) (hg : Gl X x := by rfl)
    (hdb : (x == ("__debug__" : Str)) = false := by decide) (he : Es X e es := by rfl) (hpl : Np X pos es := by rfl) : PE X (.Call (.Name x p) (e :: es) [] pos) (tM X.K kx (Mi.mCall mf mas)) := ⟨fun pins s σ H Q I h => by
  obtain ⟨ρ, G, δ, d, G', rl, sr, e0, q⟩ := h
  obtain ⟨ds, G1, e1, e2⟩ := Mi.bnd_eq e0
  refine called_by I hg hm hdb ?_
  refine PySem.W.callWith_K (h₀ := X.base) I.ok.mod.kin hk (thn (ha.run pos pins s σ H (fun vs H1 => ∃ ρ1, Gr ρ H ρ1 H1 ∧ Rl X.K kx ρ1 G1 H1 ∧ DRs X.K ρ1 H1 ds vs) I ⟨ρ, G, δ, ds, G1, rl, sr, e1, fun vs ρ1 H1 g r d => ⟨ρ1, g, r, d⟩⟩) fun us s1 ⟨vs, H1, I1, r, ρ1, g1, r1, d1⟩ => ⟨I1.kIn, ?_⟩) he hpl
  have hl := lenOf (F.ar _ _ _ e2) d1 r
  have hb' := hb s1 us I1.kIn hl
  rw [List.append_nil] at hb'
  exact run_m F hG hr I1 hb' r r1 d1 e2 fun v ρ' H' g r q' => q v ρ' H' (g1.trans g) r q'⟩
theorem m_call0 (F : FnM X.prog X.w X.K kx X.mg X.base k f fd ps mf) (hG : X.A.guards = some []) (hr : Room k X.A) (hm : X.mg x = some (.ref f)) (hk : PySem.W.keepIn X.K (.ref f) = true) (hb : Binds X.K fd ps []) (hg : Gl X x := by rfl) (hdb : (x == ("__debug__" : Str)) = false := by decide) :
    PE X (.Call (.Name x p) [] [] pos) (tM X.K kx (Mi.mCall mf Mi.mNil)) := ⟨fun pins s σ H Q I h => by
  obtain ⟨ρ, G, δ, d, G', rl, sr, e0, q⟩ := h
  refine called_by I hg hm hdb ?_
  have e2 : mf [] G = some (d, G') := e0
  have hb' := hb s [] I.kIn (lenOf (K := X.K) (ρ := ρ) (H := H) (vs := []) (F.ar _ _ _ e2) .nil .nil)
  exact PySem.W.callWith_K0 I.kIn hk (run_m (us := []) (ws := []) F hG hr I hb' .nil rl .nil e2 q)⟩
/-- o.m(e, ..), o.m() -/
theorem m_meth {cn : Nat} {m : String} {pl : Sem Bool} (ho : PE X o (tM X.K kx mo)) (hc : Cls X.K (kx.ca cn)) (hm : Meth X.K (kx.ca cn) (Str.ofString m) f) (F : FnM X.prog X.w X.K kx X.mg X.base k f fd ps mf) (hG : X.A.guards = some []) (hr : Room k X.A) (hb : Binds X.K fd ps []) (ha : PA X (e :: es) (tMA X.K kx mas))
    (hst : Es X e es := by rfl) (hpl : Np X pos es := by rfl)
    (ht : eval (.Call (.Attribute o (Str.ofString m) apos) (e :: es) [] pos) X.env = (do let ov ← eval o X.env; standAt apos.atName; let (f, first) ← holding [ov] (getMethod ov (Str.ofString m) pl); callWith pos f first (backTo pos (starEach (e :: es) X.env)) (backToKw pos (keywordEach [] X.env))) := by rfl) :
    PE X (.Call (.Attribute o (Str.ofString m) apos) (e :: es) [] pos) (tM X.K kx (Mi.mMeth cn m mf mo mas)) := ⟨fun pins s σ H Q I h => by
  obtain ⟨ρ, G, δ, d, G', rl, sr, e0, q⟩ := h
  obtain ⟨y, G1, e1, e2⟩ := Mi.bnd_eq e0
  refine PySem.W.methodCall_KW (pl := pl) (thn (ho.run pins s σ H (fun v H1 => ∃ ρ1, Gr ρ H ρ1 H1 ∧ Rl X.K kx ρ1 G1 H1 ∧ DR X.K ρ1 H1 y v) I ⟨ρ, G, δ, y, G1, rl, sr, e1, fun v ρ1 H1 g r d => ⟨ρ1, g, r, d⟩⟩) fun u s1 ⟨v, H1, I1, rx, ρ1, g1, r1, d1⟩ => ?_) ht
  cases y with
  | ref h =>
    dsimp only at e2
    split at e2
    · rename_i c' fs eh
      split at e2
      · rename_i hz
        obtain ⟨hz1, hz2⟩ := hz
        subst hz1
        obtain ⟨ds, G2, e3, e4⟩ := Mi.bnd_eq e2
        cases d1 with
        | @ref _ ad ea =>
          obtain ⟨dx, fs', h1, fr⟩ := ins_at r1 eh ea
          obtain rfl : u = Value.ref ad := rx
          refine getmeth_ok I1 h1 hc hm ((flook_ok fr).2 hz2) ?_
          refine PySem.W.callWith_K (first := [.ref ad]) (h₀ := X.base) I.ok.mod.kin hm.kp (thn (ha.run pos pins s1 σ H1 (fun vs H2 => ∃ ρ2, Gr ρ1 H1 ρ2 H2 ∧ Rl X.K kx ρ2 G2 H2 ∧ DRs X.K ρ2 H2 ds vs) I1 ⟨ρ1, G1, δ, ds, G2, r1, sr.gr g1, e3, fun vs ρ2 H2 g r d => ⟨ρ2, g, r, d⟩⟩) fun us s2 ⟨vs, H2, I2, r, ρ2, g2, r2, d2⟩ => ⟨I2.kIn, ?_⟩) hst hpl
          have dd : DRs X.K ρ2 H2 (.ref h :: ds) (.ref ad :: vs) := .cons ((DR.ref ea).gr g2) d2
          have rr : Vals (V.ref ad :: vs) (Value.ref ad :: us) := .cons rfl r
          have hb' := hb s2 (Value.ref ad :: us) I2.kIn (lenOf (F.ar _ _ _ e4) dd rr)
          rw [List.append_nil] at hb'
          exact run_m F hG hr I2 hb' rr r2 dd e4 fun v ρ' H' g r q' => q v ρ' H' ((g1.trans g2).trans g) r q'
      · cases e2
    · cases e2
  | _ => cases e2⟩
theorem m_meth0 {cn : Nat} {m : String} {pl : Sem Bool} (ho : PE X o (tM X.K kx mo)) (hc : Cls X.K (kx.ca cn)) (hm : Meth X.K (kx.ca cn) (Str.ofString m) f) (F : FnM X.prog X.w X.K kx X.mg X.base k f fd ps mf) (hG : X.A.guards = some []) (hr : Room k X.A) (hb : Binds X.K fd ps [])
    (ht : eval (.Call (.Attribute o (Str.ofString m) apos) [] [] pos) X.env = (do let ov ← eval o X.env; standAt apos.atName; let (f, first) ← holding [ov] (getMethod ov (Str.ofString m) pl); callWith pos f first (backTo pos (starEach [] X.env)) (backToKw pos (keywordEach [] X.env))) := by rfl) :
    PE X (.Call (.Attribute o (Str.ofString m) apos) [] [] pos) (tM X.K kx (Mi.mMeth cn m mf mo Mi.mNil)) := ⟨fun pins s σ H Q I h => by
  obtain ⟨ρ, G, δ, d, G', rl, sr, e0, q⟩ := h
  obtain ⟨y, G1, e1, e2⟩ := Mi.bnd_eq e0
  refine PySem.W.methodCall_KW (pl := pl) (thn (ho.run pins s σ H (fun v H1 => ∃ ρ1, Gr ρ H ρ1 H1 ∧ Rl X.K kx ρ1 G1 H1 ∧ DR X.K ρ1 H1 y v) I ⟨ρ, G, δ, y, G1, rl, sr, e1, fun v ρ1 H1 g r d => ⟨ρ1, g, r, d⟩⟩) fun u s1 ⟨v, H1, I1, rx, ρ1, g1, r1, d1⟩ => ?_) ht
  cases y with
  | ref h =>
    dsimp only at e2
    split at e2
    · rename_i c' fs eh
      split at e2
      · rename_i hz
        obtain ⟨hz1, hz2⟩ := hz
        subst hz1
        have e4 : mf [.ref h] G1 = some (d, G') := e2
        cases d1 with
        | @ref _ ad ea =>
          obtain ⟨dx, fs', h1, fr⟩ := ins_at r1 eh ea
          obtain rfl : u = Value.ref ad := rx
          refine getmeth_ok I1 h1 hc hm ((flook_ok fr).2 hz2) ?_
          have dd : DRs X.K ρ1 H1 [.ref h] [.ref ad] := .cons (.ref ea) .nil
          have rr : Vals [V.ref ad] [Value.ref ad] := .cons rfl .nil
          have hb' := hb s1 [Value.ref ad] I1.kIn (lenOf (F.ar _ _ _ e4) dd rr)
          exact PySem.W.callWith_K0 (first := [.ref ad]) I1.kIn hm.kp (run_m (us := [.ref ad]) F hG hr I1 hb' rr r1 dd e4 fun v ρ' H' g r q' => q v ρ' H' (g1.trans g) r q')
      · cases e2
    · cases e2
  | _ => cases e2⟩
theorem guards_make {A : Around} {C : Addr} {us : List Value} {kw : List (Str × Value)} (h : A.guards = some []) : (A.under (.builtin "type.__call__" ⟨.ref C :: us, kw⟩)).guards = some [] := by
  have e : (Code.builtin "type.__call__" ⟨.ref C :: us, kw⟩).guards = [] := by
    have g : (Code.builtin "type.__call__" ⟨.ref C :: us, kw⟩).isGuard = false := by
      show guardIds.contains "type.__call__" = false
      decide +kernel
    unfold Code.guards
    rw [g] <;> rfl
  show pushGuards (Code.builtin "type.__call__" ⟨.ref C :: us, kw⟩).guards A.guards = some []
  rw [e]
  exact h
/-- C(e, ..) -/
theorem m_make {cn : Nat} (M : Mk X.K (kx.ca cn) f) (F : FnM X.prog X.w X.K kx X.mg X.base k f fd ps mf) (hG : X.A.guards = some []) (hr : Room (k + 1) X.A) (hm : X.mg x = some (.ref (kx.ca cn))) (hb : Binds X.K fd ps []) (ha : PA X (e :: es) (tMA X.K kx mas)) (hg : Gl X x := by rfl)
    (hdb : (x == ("__debug__" : Str)) = false := by decide) (he : Es X e es := by rfl) (hpl : Np X pos es := by rfl) : PE X (.Call (.Name x p) (e :: es) [] pos) (tM X.K kx (Mi.mMake cn mf mas)) := ⟨fun pins s σ H Q I h => by
  obtain ⟨ρ, G, δ, d, G', rl, sr, e0, q⟩ := h
  obtain ⟨ds, G1, e1, e2⟩ := Mi.bnd_eq e0
  obtain ⟨rv, G2, e3, e4⟩ := Mi.bnd_eq e2
  refine called_by I hg hm hdb ?_
  refine PySem.W.callWith_K (h₀ := X.base) I.ok.mod.kin M.kp (thn (ha.run pos pins s σ H (fun vs H1 => ∃ ρ1, Gr ρ H ρ1 H1 ∧ Rl X.K kx ρ1 G1 H1 ∧ DRs X.K ρ1 H1 ds vs) I ⟨ρ, G, δ, ds, G1, rl, sr, e1, fun vs ρ1 H1 g r d => ⟨ρ1, g, r, d⟩⟩) fun us s1 ⟨vs, H1, I1, r, ρ1, g1, r1, d1⟩ => ⟨I1.kIn, ?_⟩) he hpl
  have f1 : H1 s1.heap.objs.size = none := I1.hok.fresh (Nat.le_refl _)
  have f2 : H1 (s1.heap.objs.size + 1) = none := I1.hok.fresh (Nat.le_succ _)
  have ne : s1.heap.objs.size + 1 ≠ s1.heap.objs.size := Nat.succ_ne_self _
  obtain ⟨ga, ra⟩ := r1.side (.own (s1.heap.objs.size + 1)) f1
  obtain ⟨gb, rb⟩ := ra.grow (p := s1.heap.objs.size + 1) (o := .ins (kx.ca cn) s1.heap.objs.size []) (m := .ins cn []) (by rw [upd_ne ne]; exact f2) fun g => .ins upd_same .nil
  have I2 := Inv.made (C := kx.ca cn) I1
  have dd : DRs X.K (ρ1.snoc (s1.heap.objs.size + 1)) _ (.ref G1.length :: ds) (V.ref (s1.heap.objs.size + 1) :: vs) := .cons (.ref (by rw [← r1.len, List.getElem?_append_right (Nat.le_refl _)]; simp)) (d1.gr (ga.trans gb))
  have rr : Vals (V.ref (s1.heap.objs.size + 1) :: vs) (Value.ref (s1.heap.objs.size + 1) :: us) := .cons rfl r
  have hb' := hb _ (Value.ref (s1.heap.objs.size + 1) :: us) I2.kIn (lenOf (F.ar _ _ _ e3) dd rr)
  rw [List.append_nil] at hb'
  refine wpAny_call (make_map (f := f) I1.kIn M.makes M.init (beq_iff_eq.mp M.fn) (codeAny_mono (F.run _ X.stack _ _ ⟨Value.ref (s1.heap.objs.size + 1) :: us, []⟩ (Value.ref (s1.heap.objs.size + 1) :: us) _ (fun v H2 => v = .non ∧ Q (.ref (s1.heap.objs.size + 1)) H2) _ _ _ _ _ (guards_make hG) (hr.make (kx.ca cn) us []) (I2.env0.make (kx.ca cn) us []) hb' rr rb dd e3 fun v ρ' H' g r qd => ?_) fun res s' hq => ?_))
  · split at e4
    · cases e4
      cases qd
      refine ⟨rfl, q _ ρ' H' (((g1.trans ga).trans gb).trans g) r ?_⟩
      exact .ref (ref_gr (K := X.K) g (show (ρ1.snoc (s1.heap.objs.size + 1)).r[G1.length]? = some (s1.heap.objs.size + 1) by rw [← r1.len, List.getElem?_append_right (Nat.le_refl _)]; simp))
    · cases e4
  · obtain ⟨u, h1, h2⟩ := after_run I2 hq
    subst h1
    obtain ⟨v, H', I3, rv', ev, q3⟩ := h2
    subst ev
    exact ⟨rv', ⟨V.ref (s1.heap.objs.size + 1), H', I3, rfl, q3⟩⟩⟩
/-! ### keywords -/
theorem _root_.L2.PK.imp {X : Cx} {kws : List Keyword} {t u : TA} (h : PK X kws t) (i : ∀ σ H Q, u σ H Q → t σ H Q) : PK X kws u := ⟨fun p pins s σ H Q I q => h.run p pins s σ H Q I (i σ H Q q)⟩
theorem mk_nil : PK X [] (tMA X.K kx Mi.mNil) := pk_nil.imp fun σ H Q ⟨ρ, G, δ, d, G', rl, sr, e, k⟩ => by
  cases e
  exact k [] ρ H Gr.refl rl .nil
theorem mk_cons {nm : Option Str} {kpos : Pos} {kws : List Keyword} (ha : PE X e (tM X.K kx ma)) (hr : PK X kws (tMA X.K kx mas)) : PK X (⟨nm, e, kpos⟩ :: kws) (tMA X.K kx (Mi.mCons ma mas)) := (pk_cons ha hr).imp fun σ H Q ⟨ρ, G, δ, d, G', rl, sr, e, k⟩ => by
  obtain ⟨x, G1, e1, e⟩ := Mi.bnd_eq e
  obtain ⟨xs, G2, e2, e⟩ := Mi.bnd_eq e
  cases e
  exact ⟨ρ, G, δ, x, G1, rl, sr, e1, fun v ρ1 H1 g1 r1 d1 => ⟨ρ1, G1, δ, xs, _, r1, sr.gr g1, e2, fun vs ρ2 H2 g2 r2 d2 => k (v :: vs) ρ2 H2 (g1.trans g2) r2 (.cons (d1.gr g2) d2)⟩⟩
/-- the values in the parameters' order -/
def pickV (ix : List Nat) (vs : List V) : List V := ix.map fun i => vs.getD i .non
def pickU (ix : List Nat) (us : List Value) : List Value := ix.map fun i => us.getD i .none
theorem pick_dr {K : PySem.W.Frag} {ρ : Rh} {H : Hp} {ds : List Dv} {vs : List V} (r : DRs K ρ H ds vs) : ∀ ix : List Nat, DRs K ρ H (ix.map fun i => ds.getD i .non) (pickV ix vs)
  | [] => .nil
  | i :: t => by
    refine .cons ?_ (pick_dr r t)
    cases e : ds[i]? with
    | none =>
      have e2 : vs[i]? = none := by
        rw [List.getElem?_eq_none_iff] at e ⊢
        rw [← r.len]
        exact e
      simp only [List.getD_eq_getElem?_getD, e, e2]
      exact .non
    | some d =>
      obtain ⟨v, h1, h2⟩ := r.get e
      simp only [List.getD_eq_getElem?_getD, e, h1]
      exact h2
theorem pick_vals {vs : List V} {us : List Value} (r : Vals vs us) : ∀ ix : List Nat, Vals (pickV ix vs) (pickU ix us)
  | [] => .nil
  | i :: t => by
    refine .cons ?_ (pick_vals r t)
    cases e : vs[i]? with
    | none =>
      have e2 : us[i]? = none := r.none_of e
      simp only [List.getD_eq_getElem?_getD, e, e2]
      exact rfl
    | some d =>
      obtain ⟨v, h1, h2⟩ := r.get e
      simp only [List.getD_eq_getElem?_getD, e, h1]
      exact h2
/-- how the call's n values by position and the keywords ks bind -/
def KBm (fd : FuncData) (ps ks : List Str) (n : Nat) (ix : List Nat) : Prop := ∀ (s : Shared) (us ws : List Value), us.length = n → ws.length = ks.length → BindsTo s fd ⟨us, ks.zip ws⟩ (ps.zip (pickU ix (us ++ ws)))
/-- the lengths of what arguments give -/
def Len (m : MA) (n : Nat) : Prop := ∀ δ G ds G', m δ G = some (ds, G') → ds.length = n
theorem len_nil : Len Mi.mNil 0 := fun δ G ds G' e => by cases e; rfl
theorem len_cons {n : Nat} (h : Len mas n) : Len (Mi.mCons ma mas) (n + 1) := fun δ G ds G' e => by
  obtain ⟨x, G1, e1, e⟩ := Mi.bnd_eq e
  obtain ⟨xs, G2, e2, e⟩ := Mi.bnd_eq e
  cases e
  rw [List.length_cons, h _ _ _ _ e2]
variable {kws : List Keyword} {ks : List Str} {n : Nat} {ix : List Nat}
/-- f(k = v, ..) -/
theorem m_callK0 (F : FnM X.prog X.w X.K kx X.mg X.base k f fd ps mf) (hG : X.A.guards = some []) (hr : Room k X.A) (hm : X.mg x = some (.ref f)) (hk : PySem.W.keepIn X.K (.ref f) = true) (hb : KBm fd ps ks 0 ix) (hl : Len mks ks.length) (hkw : PK X kws (tMA X.K kx mks)) (hg : Gl X x := by rfl)
    (hall : Ka X pos kws := by rfl) (hks : Ks X pos kws ks := by rfl) (hdb : (x == ("__debug__" : Str)) = false := by decide)
    (hpl : ((backTo pos (starEach [] X.env)).any (·.1) || (backToKw pos (keywordEach kws X.env)).any (·.1.isNone)) = false := by rfl) : PE X (.Call (.Name x p) [] kws pos) (tM X.K kx (Mi.mCallK mf ix Mi.mNil mks)) := ⟨fun pins s σ H Q I h => by
  obtain ⟨ρ, G, δ, d, G', rl, sr, e0, q⟩ := h
  obtain ⟨d0, G0, e00, e0⟩ := Mi.bnd_eq e0
  cases e00
  obtain ⟨ds, G1, e1, e2⟩ := Mi.bnd_eq e0
  refine called_by I hg hm hdb ?_
  refine PySem.W.callWith_KW0 (h₀ := X.base) I.ok.mod.kin hk hall (thn (hkw.run pos pins s σ H (fun vs H1 => ∃ ρ1, Gr ρ H ρ1 H1 ∧ Rl X.K kx ρ1 G1 H1 ∧ DRs X.K ρ1 H1 ds vs) I ⟨ρ, _, δ, ds, G1, rl, sr, e1, fun vs ρ1 H1 g r d => ⟨ρ1, g, r, d⟩⟩) fun us s1 ⟨vs, H1, I1, r, ρ1, g1, r1, d1⟩ => ⟨I1.kIn, ?_⟩) hpl
  rw [hks]
  have hlen : us.length = ks.length := by rw [← r.length, ← d1.len]; exact hl _ _ _ _ e1
  have hb' := hb s1 [] us rfl hlen
  exact run_m (us := []) F hG hr I1 hb' (pick_vals r ix) r1 (pick_dr d1 ix) e2 fun v ρ' H' g r q' => q v ρ' H' (g1.trans g) r q'⟩
/-- f(e, .., k = v, ..) -/
theorem m_callK (F : FnM X.prog X.w X.K kx X.mg X.base k f fd ps mf) (hG : X.A.guards = some []) (hr : Room k X.A) (hm : X.mg x = some (.ref f)) (hk : PySem.W.keepIn X.K (.ref f) = true) (hb : KBm fd ps ks n ix) (hl1 : Len mas n) (hl : Len mks ks.length) (ha : PA X (e :: es) (tMA X.K kx mas)) (hkw : PK X kws (tMA X.K kx mks)) (hg : Gl X x := by rfl)
    (hall : Ka X pos kws := by rfl) (hks : Ks X pos kws ks := by rfl) (hdb : (x == ("__debug__" : Str)) = false := by decide) (he : Es X e es := by rfl)
    (hpl : ((backTo pos (starEach (e :: es) X.env)).any (·.1) || (backToKw pos (keywordEach kws X.env)).any (·.1.isNone)) = false := by rfl) : PE X (.Call (.Name x p) (e :: es) kws pos) (tM X.K kx (Mi.mCallK mf ix mas mks)) := ⟨fun pins s σ H Q I h => by
  obtain ⟨ρ, G, δ, d, G', rl, sr, e0, q⟩ := h
  obtain ⟨ds, G1, e1, e2⟩ := Mi.bnd_eq e0
  obtain ⟨es', G2, e3, e4⟩ := Mi.bnd_eq e2
  refine called_by I hg hm hdb ?_
  refine PySem.W.callWith_KW (h₀ := X.base) I.ok.mod.kin hk hall (thn (ha.run pos pins s σ H (fun vs H1 => ∃ ρ1, Gr ρ H ρ1 H1 ∧ Rl X.K kx ρ1 G1 H1 ∧ DRs X.K ρ1 H1 ds vs) I ⟨ρ, G, δ, ds, G1, rl, sr, e1, fun vs ρ1 H1 g r d => ⟨ρ1, g, r, d⟩⟩) fun us s1 ⟨vs, H1, I1, r, ρ1, g1, r1, d1⟩ => ?_) hpl he
  refine thn (hkw.run pos pins s1 σ H1 (fun vs H2 => ∃ ρ2, Gr ρ1 H1 ρ2 H2 ∧ Rl X.K kx ρ2 G2 H2 ∧ DRs X.K ρ2 H2 es' vs) I1 ⟨ρ1, G1, δ, es', G2, r1, sr.gr g1, e3, fun vs ρ1 H1 g r d => ⟨ρ1, g, r, d⟩⟩) fun ws s2 ⟨zs, H2, I2, rz, ρ2, g2, r2, d2⟩ => ⟨I2.kIn, ?_⟩
  rw [hks]
  have hlen : ws.length = ks.length := by rw [← rz.length, ← d2.len]; exact hl _ _ _ _ e3
  have hlen1 : us.length = n := by rw [← r.length, ← d1.len]; exact hl1 _ _ _ _ e1
  have hb' := hb s2 us ws hlen1 hlen
  exact run_m (us := us) F hG hr I2 hb' (pick_vals (r.append rz) ix) r2 (pick_dr ((d1.gr g2).app d2) ix) e4 fun v ρ' H' g r q' => q v ρ' H' ((g1.trans g2).trans g) r q'⟩
/-- o.m(k = v, ..) -/
theorem m_methK0 {cn : Nat} {m : String} {pl : Sem Bool} (ho : PE X o (tM X.K kx mo)) (hc : Cls X.K (kx.ca cn)) (hm : Meth X.K (kx.ca cn) (Str.ofString m) f) (F : FnM X.prog X.w X.K kx X.mg X.base k f fd ps mf) (hG : X.A.guards = some []) (hr : Room k X.A) (hb : KBm fd ps ks 1 ix) (hl : Len mks ks.length) (hkw : PK X kws (tMA X.K kx mks))
    (hall : Ka X pos kws := by rfl) (hks : Ks X pos kws ks := by rfl)
    (hpl : ((backTo pos (starEach [] X.env)).any (·.1) || (backToKw pos (keywordEach kws X.env)).any (·.1.isNone)) = false := by rfl)
    (ht : eval (.Call (.Attribute o (Str.ofString m) apos) [] kws pos) X.env = (do let ov ← eval o X.env; standAt apos.atName; let (f, first) ← holding [ov] (getMethod ov (Str.ofString m) pl); callWith pos f first (backTo pos (starEach [] X.env)) (backToKw pos (keywordEach kws X.env))) := by rfl) :
    PE X (.Call (.Attribute o (Str.ofString m) apos) [] kws pos) (tM X.K kx (Mi.mMethK cn m mf ix mo Mi.mNil mks)) := ⟨fun pins s σ H Q I h => by
  obtain ⟨ρ, G, δ, d, G', rl, sr, e0, q⟩ := h
  obtain ⟨y, G1, e1, e2⟩ := Mi.bnd_eq e0
  refine PySem.W.methodCall_KW (pl := pl) (thn (ho.run pins s σ H (fun v H1 => ∃ ρ1, Gr ρ H ρ1 H1 ∧ Rl X.K kx ρ1 G1 H1 ∧ DR X.K ρ1 H1 y v) I ⟨ρ, G, δ, y, G1, rl, sr, e1, fun v ρ1 H1 g r d => ⟨ρ1, g, r, d⟩⟩) fun u s1 ⟨v, H1, I1, rx, ρ1, g1, r1, d1⟩ => ?_) ht
  cases y with
  | ref h =>
    dsimp only at e2
    split at e2
    · rename_i c' fs eh
      split at e2
      · rename_i hz
        obtain ⟨hz1, hz2⟩ := hz
        subst hz1
        obtain ⟨d0, G0, e00, e2⟩ := Mi.bnd_eq e2
        cases e00
        obtain ⟨ds, G2, e3, e4⟩ := Mi.bnd_eq e2
        cases d1 with
        | @ref _ ad ea =>
          obtain ⟨dx, fs', h1, fr⟩ := ins_at r1 eh ea
          obtain rfl : u = Value.ref ad := rx
          refine getmeth_ok I1 h1 hc hm ((flook_ok fr).2 hz2) ?_
          refine PySem.W.callWith_KW0 (first := [.ref ad]) (h₀ := X.base) I.ok.mod.kin hm.kp hall (thn (hkw.run pos pins s1 σ H1 (fun vs H2 => ∃ ρ2, Gr ρ1 H1 ρ2 H2 ∧ Rl X.K kx ρ2 G2 H2 ∧ DRs X.K ρ2 H2 ds vs) I1 ⟨ρ1, _, δ, ds, G2, r1, sr.gr g1, e3, fun vs ρ2 H2 g r d => ⟨ρ2, g, r, d⟩⟩) fun us s2 ⟨vs, H2, I2, r, ρ2, g2, r2, d2⟩ => ⟨I2.kIn, ?_⟩) hpl
          rw [hks]
          have hlen : us.length = ks.length := by rw [← r.length, ← d2.len]; exact hl _ _ _ _ e3
          have dd : DRs X.K ρ2 H2 (.ref h :: ds) (.ref ad :: vs) := .cons ((DR.ref ea).gr g2) d2
          have rr : Vals (V.ref ad :: vs) (Value.ref ad :: us) := .cons rfl r
          have hb' := hb s2 [Value.ref ad] us rfl hlen
          exact run_m (us := [.ref ad]) F hG hr I2 hb' (pick_vals rr ix) r2 (pick_dr dd ix) e4 fun v ρ' H' g r q' => q v ρ' H' ((g1.trans g2).trans g) r q'
      · cases e2
    · cases e2
  | _ => cases e2⟩
end
end Ms

/-! PyS3d: repr of equal data; dict displays. -/
namespace Ms
open PySem L2
open Mi (Dv MO Sto Sl Rs bnd ME MT MA MS MF Fl MG MGs MI)
/-! ### the written text's size -/
theorem len_listText (ts : List Str) : (listText ts).length ≤ piled ts + 2 := by
  cases ts with
  | nil => exact Nat.le_refl 2
  | cons t r =>
    have e1 : listText (t :: r) = textFrom 1 (("[" : Str) ++ ("" : Str) ++ t) r ++ ("]" : Str) := rfl
    rw [e1, strLen_append, textFrom_length_pos r 1 _ (by omega), strLen_append, strLen_append, piled_cons]
    have a1 : (("[" : String) : Str).length = 1 := rfl
    have a2 : (("" : String) : Str).length = 0 := rfl
    have a3 : (("]" : String) : Str).length = 1 := rfl
    omega
theorem len_tupleText (ts : List Str) : (tupleText ts).length ≤ piled ts + 3 := by
  have e1 : tupleText ts = ("(" : Str) ++ Str.join ", " ts ++ (if ts.length == 1 then ",)" else ")" : String) := rfl
  rw [e1, strLen_append, strLen_append]
  have a1 : (("(" : String) : Str).length = 1 := rfl
  have a2 : ((if ts.length == 1 then ",)" else ")" : String) : Str).length ≤ 2 := by
    split
    · exact Nat.le_refl 2
    · exact (by decide : 1 ≤ 2)
  by_cases h : ts = []
  · subst h
    have a3 : (Str.join ", " ([] : List Str)).length = 0 := rfl
    rw [a3, piled_nil]
    omega
  · have piled_up := join_length_add ts h
    omega
theorem len_int {i : Int} (h : i.natAbs < 10 ^ 18) : ((toString i : String) : Str).length ≤ 20 := by
  by_cases h0 : 0 ≤ i
  · exact Nat.le_trans (PyProof.Rows.toString_length_le h0 (k := 18) (by decide) (by omega)) (by decide)
  · have e := PyProof.Rows.len_text_negI (n := i) (by omega)
    have q := PyProof.Rows.toString_length_le (v := 0 - i) (by omega) (k := 18) (by decide) (by omega)
    have q2 : ((Str.ofString (toString i)).length : Int) ≤ 20 := by omega
    have q3 : (Str.ofString (toString i)).length ≤ 20 := by omega
    exact q3
mutual
theorem wt_ok : ∀ (d : PyData) (n : Nat), Mi.wt d = some n → d.shown.length ≤ n ∧ d.showable = true ∧ d.hasDict = false ∧ d.depth ≤ Mi.dep d
  | .none, n, e => by
    cases e
    exact ⟨by show (4 : Nat) ≤ 5; decide, by simp [PyData.showable], by simp [PyData.hasDict], by simp [PyData.depth]⟩
  | .bool b, n, e => by
    cases e
    refine ⟨?_, by simp [PyData.showable], by simp [PyData.hasDict], by simp [PyData.depth]⟩
    cases b
    · show (5 : Nat) ≤ 5; decide
    · show (4 : Nat) ≤ 5; decide
  | .int i, n, e => by
    unfold Mi.wt at e
    split at e
    · rename_i h
      cases e
      refine ⟨?_, ?_, by simp [PyData.hasDict], by simp [PyData.depth]⟩
      · have := len_int h
        simpa [PyData.shown] using this
      · simp only [PyData.showable, decide_eq_true_eq]
        by_cases h0 : i.natAbs = 0
        · rw [h0]; decide
        · have : i.natAbs.log2 < 60 := (Nat.log2_lt h0).mpr (by omega)
          omega
    · cases e
  | .str s, n, e => by
    unfold Mi.wt at e
    split at e
    · rename_i h
      cases e
      refine ⟨?_, by simp [PyData.showable], by simp [PyData.hasDict], by simp [PyData.depth]⟩
      have := PySem.StrLaws.reprText_len s (fun c hc => by
        have z := List.all_eq_true.mp h c hc
        have z' : c < 4294967296 := of_decide_eq_true z
        exact z')
      simpa [PyData.shown, Str.length] using this
    · cases e
  | .list xs, n, e => by
    unfold Mi.wt at e
    cases ew : Mi.wts xs with
    | none => rw [ew] at e; cases e
    | some k =>
      rw [ew] at e
      cases e
      obtain ⟨h1, h2, h3, h4⟩ := wts_ok xs k ew
      have := len_listText (PyData.shownAll xs)
      refine ⟨by simp only [PyData.shown]; omega, by simp [PyData.showable, h2], by simp [PyData.hasDict, h3], by simp only [PyData.depth, Mi.dep]; omega⟩
  | .tuple xs, n, e => by
    unfold Mi.wt at e
    cases ew : Mi.wts xs with
    | none => rw [ew] at e; cases e
    | some k =>
      rw [ew] at e
      cases e
      obtain ⟨h1, h2, h3, h4⟩ := wts_ok xs k ew
      have := len_tupleText (PyData.shownAll xs)
      refine ⟨by simp only [PyData.shown]; omega, by simp [PyData.showable, h2], by simp [PyData.hasDict, h3], by simp only [PyData.depth, Mi.dep]; omega⟩
  | .dict _, n, e => nomatch e
theorem wts_ok : ∀ (ds : List PyData) (n : Nat), Mi.wts ds = some n → piled (PyData.shownAll ds) ≤ n ∧ PyData.showableAll ds = true ∧ PyData.hasDictAll ds = false ∧ PyData.depthAll ds ≤ Mi.deps ds
  | [], n, e => by
    cases e
    exact ⟨by simp [PyData.shownAll, piled_nil], by simp [PyData.showableAll], by simp [PyData.hasDictAll], by simp [PyData.depthAll]⟩
  | d :: r, n, e => by
    unfold Mi.wts at e
    split at e
    · rename_i a b ea eb
      cases e
      obtain ⟨h1, h2, h3, h4⟩ := wt_ok d a ea
      obtain ⟨i1, i2, i3, i4⟩ := wts_ok r b eb
      refine ⟨by simp only [PyData.shownAll]; rw [piled_cons]; omega, by simp [PyData.showableAll, h2, i2], by simp [PyData.hasDictAll, h3, i3], by simp only [PyData.depthAll, Mi.deps]; omega⟩
    · cases e
end
/-! ### the data -/
section
variable {K : PySem.W.Frag} {kx : Kx} {ρ : Rh} {G : Sto} {H : Hp}
mutual
theorem py_dp : ∀ (x : Dv) (v : V) (d : PyData), Mi.py G x = some d → DR K ρ H x v → Dp K H v d
  | .non, _, _, e, .non => by cases e; exact .non
  | .bl b, _, _, e, .bl _ => by cases e; exact .bl b
  | .int i, _, _, e, .int _ => by cases e; exact .int i
  | .str s, _, _, e, .str _ => by cases e; exact .str _
  | .tup xs, _, d, e, .tup h r => by
    unfold Mi.py at e
    cases ep : Mi.pys G xs with
    | none => rw [ep] at e; cases e
    | some ds =>
      rw [ep] at e
      cases e
      exact .tup h (pys_dp xs _ ds ep r)
  | .fls xs, _, d, e, .fls h n r => by
    unfold Mi.py at e
    cases ep : Mi.pys G xs with
    | none => rw [ep] at e; cases e
    | some ds =>
      rw [ep] at e
      cases e
      exact .lst (SqL.of h) (pys_dp xs _ ds ep r)
  | .scr ns, _, d, e, .scr h => by
    cases e
    exact .lst h.sq (dpInts ns)
  | .ref _, _, _, e, _ => nomatch e
theorem pys_dp : ∀ (xs : List Dv) (vs : List V) (ds : List PyData), Mi.pys G xs = some ds → DRs K ρ H xs vs → DpAll K H vs ds
  | [], _, _, e, .nil => by cases e; exact .nil
  | x :: xs, _, ds, e, .cons a b => by
    unfold Mi.pys at e
    split at e
    · rename_i d ds' e1 e2
      cases e
      exact .cons (py_dp x _ d e1 a) (pys_dp xs _ ds' e2 b)
    · cases e
end
theorem pyT_dp {x : Dv} {v : V} {d : PyData} (rl : Rl K kx ρ G H) (e : Mi.pyT G x = some d) (r : DR K ρ H x v) : Dp K H v d := by
  unfold Mi.pyT at e
  split at e
  · split at e
    · rename_i xs eh
      cases ep : Mi.pys G xs with
      | none => rw [ep] at e; cases e
      | some ds =>
        rw [ep] at e
        cases e
        cases r with
        | ref ea =>
          obtain ⟨vs, h1, r1⟩ := lst_at rl eh ea
          exact .lst (SqL.of h1) (pys_dp xs vs ds ep r1)
    · cases e
  · exact py_dp _ _ _ e r
end
def rRepr (K : PySem.W.Frag) : List V → Hp → VK → Prop := fun xs H Q => ∃ x d, xs = [x] ∧ Dp K H x d ∧ Mi.okR d ∧ Q (.str d.shown) H
theorem call_reprD {X : Cx} (hG : X.A.guards = some []) (hu : X.A.units + 64 < cLine) : CallR X (.builtin "repr") (rRepr X.K) := by
  rintro pins s σ H _ us Q I r ⟨x, d, rfl, dp, ⟨n, hn, hn2, hn3⟩, q⟩
  obtain ⟨u, eu, rx⟩ := vals1 r
  subst eu
  obtain ⟨h1, h2, h3, h4⟩ := wt_ok d n hn
  have hz : d.shown.length ≤ sizeLine := by rw [sizeLine_eq]; omega
  cases dp with
  | non =>
    cases rx
    exact PySem.P.repr_of_none ⟨.str _, H, I.tok _, ⟨_, rfl⟩, q⟩
  | bl b =>
    cases rx
    exact PySem.P.repr_of_bool ⟨.str _, H, I.tok _, ⟨_, rfl⟩, by cases b <;> exact q⟩
  | int i =>
    obtain ⟨t, rfl⟩ := rx
    exact PySem.P.repr_of_int (by simpa [PyData.showable] using h2) ⟨.str _, H, I.tok _, ⟨_, rfl⟩, q⟩
  | str z =>
    obtain ⟨t, rfl⟩ := rx
    exact PySem.P.repr_of_str ⟨.str _, H, I.tok _, ⟨_, rfl⟩, q⟩ hz
  | lst a b =>
    obtain ⟨as, rd⟩ := Dp.reads I _ _ u (.lst a b) rx
    cases rx
    exact repr_of_reads' rd h2 (PyData.noDict_hsm h3) hG (by omega) (fun _ _ e => e) (fun h' u tk k => ⟨.str _, H, I.kept (t' := tk) k, ⟨_, rfl⟩, q⟩) hz
  | tup a b =>
    obtain ⟨as, rd⟩ := Dp.reads I _ _ u (.tup a b) rx
    cases rx
    exact repr_of_reads' rd h2 (PyData.noDict_hsm h3) hG (by omega) (fun _ _ e => e) (fun h' u tk k => ⟨.str _, H, I.kept (t' := tk) k, ⟨_, rfl⟩, q⟩) hz
section
variable {X : Cx} {kx : Kx} {e a b c o : Expr} {ma mb mc me mo : ME} {pos p apos : Pos} {rest es : List Expr} {mas mks : MA}
theorem repr2 {neg : Bool} {r : R2} (hr : ∀ (z : Str) H (Q : VK), Q (.bl (!neg)) H → r (.str z) (.str z) H Q) {σ : St} {H : Hp} {Q : VK} (h : tM X.K kx (Mi.mReprEq neg ma mb) σ H Q) : tOp r (tCB (rRepr X.K) (tCons (tM X.K kx ma) tNil)) (tCB (rRepr X.K) (tCons (tM X.K kx mb) tNil)) σ H Q := by
  obtain ⟨ρ, G, δ, d, G', rl, sr, e, k⟩ := h
  obtain ⟨x, G1, e1, e⟩ := Mi.bnd_eq e
  obtain ⟨y, G2, e2, e⟩ := Mi.bnd_eq e
  split at e
  · rename_i hz
    obtain ⟨pd, p1, p2, p3⟩ := hz
    cases e
    refine ⟨ρ, G, δ, x, G1, rl, sr, e1, fun v ρ1 H1 g1 r1 d1 => ⟨v, pd, rfl, pyT_dp r1 p1 d1, p3, ρ1, G1, δ, y, _, r1, sr.gr g1, e2, fun w ρ2 H2 g2 r2 d2 => ⟨w, pd, rfl, pyT_dp r2 p2 d2, p3, ?_⟩⟩⟩
    exact hr _ _ _ (k _ ρ2 H2 (g1.trans g2) r2 (.bl _))
  · cases e
theorem r_eq (z : Str) (H : Hp) (Q : VK) (q : Q (.bl (!false)) H) : rEq (.str z) (.str z) H Q := ⟨rfl, by simpa using q⟩
theorem r_ne (z : Str) (H : Hp) (Q : VK) (q : Q (.bl (!true)) H) : rNe (.str z) (.str z) H Q := ⟨rfl, by simpa using q⟩
theorem pe_repr {p : Pos} (hG : X.A.guards = some []) (hu : X.A.units + 64 < cLine) (hm : X.mg "repr" = none) (ha : PE X a (tM X.K kx ma)) (hg : Gl X "repr" := by rfl) (he : starEach [a] X.env = (false, eval a X.env) :: starEach [] X.env := by rfl) (hpl : (backTo pos (starEach [] X.env)).any (·.1) = false := by rfl) :
    PE X (.Call (.Name "repr" p) [a] [] pos) (tCB (rRepr X.K) (tCons (tM X.K kx ma) tNil)) := pe_callB (call_reprD hG hu) hg hm (by decide +kernel) (pa_cons ha pa_nil he) (by decide) (by decide) he hpl
theorem m_reprEq {p1 p2 q1 q2 : Pos} (hG : X.A.guards = some []) (hu : X.A.units + 64 < cLine) (hm : X.mg "repr" = none) (ha : PE X a (tM X.K kx ma)) (hb : PE X b (tM X.K kx mb)) (hg : Gl X "repr" := by rfl) (he : starEach [a] X.env = (false, eval a X.env) :: starEach [] X.env := by rfl) (he2 : starEach [b] X.env = (false, eval b X.env) :: starEach [] X.env := by rfl) (hp1 : (backTo q1 (starEach [] X.env)).any (·.1) = false := by rfl) (hp2 : (backTo q2 (starEach [] X.env)).any (·.1) = false := by rfl) :
    PE X (.Compare (.Call (.Name "repr" p1) [a] [] q1) [.Eq] [.Call (.Name "repr" p2) [b] [] q2] pos) (tM X.K kx (Mi.mReprEq false ma mb)) := (pe_cmpR op_eq (pe_repr hG hu hm ha hg he hp1) (pe_repr hG hu hm hb hg he2 hp2) (nomark _)).imp fun _ _ _ h => repr2 r_eq h
theorem m_reprNe {p1 p2 q1 q2 : Pos} (hG : X.A.guards = some []) (hu : X.A.units + 64 < cLine) (hm : X.mg "repr" = none) (ha : PE X a (tM X.K kx ma)) (hb : PE X b (tM X.K kx mb)) (hg : Gl X "repr" := by rfl) (he : starEach [a] X.env = (false, eval a X.env) :: starEach [] X.env := by rfl) (he2 : starEach [b] X.env = (false, eval b X.env) :: starEach [] X.env := by rfl) (hp1 : (backTo q1 (starEach [] X.env)).any (·.1) = false := by rfl) (hp2 : (backTo q2 (starEach [] X.env)).any (·.1) = false := by rfl) :
    PE X (.Compare (.Call (.Name "repr" p1) [a] [] q1) [.NotEq] [.Call (.Name "repr" p2) [b] [] q2] pos) (tM X.K kx (Mi.mReprEq true ma mb)) := (pe_cmpR op_ne (pe_repr hG hu hm ha hg he hp1) (pe_repr hG hu hm hb hg he2 hp2) (nomark _)).imp fun _ _ _ h => repr2 r_ne h
theorem m_reprEqT {p1 p2 q1 q2 : Pos} (hG : X.A.guards = some []) (hu : X.A.units + 64 < cLine) (hm : X.mg "repr" = none) (ha : PE X a (tM X.K kx ma)) (hb : PE X b (tM X.K kx mb)) (hg : Gl X "repr" := by rfl) (he : starEach [a] X.env = (false, eval a X.env) :: starEach [] X.env := by rfl) (he2 : starEach [b] X.env = (false, eval b X.env) :: starEach [] X.env := by rfl) (hp1 : (backTo q1 (starEach [] X.env)).any (·.1) = false := by rfl) (hp2 : (backTo q2 (starEach [] X.env)).any (·.1) = false := by rfl) :
    PT X (.Compare (.Call (.Name "repr" p1) [a] [] q1) [.Eq] [.Call (.Name "repr" p2) [b] [] q2] pos) (tMT X.K kx (Mi.mTb (Mi.mReprEq false ma mb))) := (pt_cmpR op_eq (pe_repr hG hu hm ha hg he hp1) (pe_repr hG hu hm hb hg he2 hp2) (nomark _)).imp fun _ _ _ h => tTb (fun _ h => repr2 r_eq h) h
theorem m_reprNeT {p1 p2 q1 q2 : Pos} (hG : X.A.guards = some []) (hu : X.A.units + 64 < cLine) (hm : X.mg "repr" = none) (ha : PE X a (tM X.K kx ma)) (hb : PE X b (tM X.K kx mb)) (hg : Gl X "repr" := by rfl) (he : starEach [a] X.env = (false, eval a X.env) :: starEach [] X.env := by rfl) (he2 : starEach [b] X.env = (false, eval b X.env) :: starEach [] X.env := by rfl) (hp1 : (backTo q1 (starEach [] X.env)).any (·.1) = false := by rfl) (hp2 : (backTo q2 (starEach [] X.env)).any (·.1) = false := by rfl) :
    PT X (.Compare (.Call (.Name "repr" p1) [a] [] q1) [.NotEq] [.Call (.Name "repr" p2) [b] [] q2] pos) (tMT X.K kx (Mi.mTb (Mi.mReprEq true ma mb))) := (pt_cmpR op_ne (pe_repr hG hu hm ha hg he hp1) (pe_repr hG hu hm hb hg he2 hp2) (nomark _)).imp fun _ _ _ h => tTb (fun _ h => repr2 r_ne h) h
/-! ### dict displays -/
/-- the pairs' readings -/
def trs (K : PySem.W.Frag) (kx : Kx) (ps : List (ME × ME)) : List (TE × TE) := ps.map fun p => (tM K kx p.1, tM K kx p.2)
theorem pairs_go {K : PySem.W.Frag} {δ : Sl} : ∀ {ps : List (ME × ME)} {ρ : Rh} {G : Sto} {kvs : List (Mi.Key × Dv)} {G' : Sto} {σ : St} {H : Hp} {R : List (V × V) → Hp → Prop}, Rl K kx ρ G H → Sr K ρ H δ σ → Mi.mPairs ps δ G = some (kvs, G') →
    (∀ (ks : List (L2.Key × V)) ρ' H', Gr ρ H ρ' H' → Rl K kx ρ' G' H' → KR K ρ' H' kvs ks → R (ks.map fun kv => (kV kv.1, kv.2)) H') → tPairs (trs K kx ps) σ H R
  | [], ρ, G, kvs, G', σ, H, R, rl, sr, e, k => by
    cases e
    exact k [] ρ H Gr.refl rl .nil
  | (mk, mv) :: r, ρ, G, kvs, G', σ, H, R, rl, sr, e, k => by
    obtain ⟨y, G1, e1, e⟩ := Mi.bnd_eq e
    obtain ⟨x, G2, e2, e⟩ := Mi.bnd_eq e
    obtain ⟨ps', G3, e3, e⟩ := Mi.bnd_eq e
    split at e
    · rename_i ky ek
      cases e
      refine ⟨ρ, G, δ, y, G1, rl, sr, e1, fun v ρ1 H1 g1 r1 d1 => ⟨ρ1, G1, δ, x, G2, r1, sr.gr g1, e2, fun w ρ2 H2 g2 r2 d2 => pairs_go r2 (sr.gr (g1.trans g2)) e3 fun ks ρ3 H3 g3 r3 kr => ?_⟩⟩
      have ev := kOf_v ek d1
      subst ev
      exact k ((kK ky, w) :: ks) ρ3 H3 ((g1.trans g2).trans g3) r3 (.cons ⟨rfl, d2.gr g3⟩ kr)
    · cases e
theorem merge_ok {K : PySem.W.Frag} {ρ : Rh} {H : Hp} : ∀ {kvs : List (Mi.Key × Dv)} {ks : List (L2.Key × V)} {acc : List (Mi.Key × Dv)} {acc' : List (L2.Key × V)}, KR K ρ H kvs ks → KR K ρ H acc acc' → KR K ρ H (kvs.foldl (fun acc kv => Mi.put acc kv.1 kv.2) acc) (mergeK acc' ks)
  | _, _, _, _, .nil, q => q
  | (k, d) :: r, (k', v) :: r', acc, acc', .cons ⟨h1, h2⟩ t, q => by
    have h1' : k' = kK k := h1
    subst h1'
    exact merge_ok (kvs := r) (ks := r') (acc := Mi.put acc k d) (acc' := putK acc' (kK k) v) t (put_ok q h2)
theorem m_disp {keys : List (Option Expr)} {values : List Expr} {ps : List (ME × ME)} (h : PPs X pos keys values (trs X.K kx ps)) (hall : keys.all (·.isSome) = true := by rfl) (hl : keys.length = values.length := by rfl) (h0 : keys ≠ [] := by exact fun z => by cases z) (h15 : keys.length ≤ 15 := by decide) :
    PE X (.Dict keys values pos) (tM X.K kx (Mi.mDisp ps)) := (pe_disp h hall hl h0 h15).imp fun σ H Q ⟨ρ, G, δ, d, G', rl, sr, e, k⟩ => by
  intro p hp
  obtain ⟨kvs, G1, e1, e⟩ := Mi.bnd_eq e
  obtain ⟨g0, r0⟩ := rl.grow (p := p) (o := .dK []) (m := .dct []) hp fun g => .dct upd_same .nil
  refine pairs_go r0 (sr.gr g0) e1 fun ks ρ1 H1 g1 r1 kr => ?_
  split at e
  · rename_i eh
    split at e
    · rename_i hz
      cases e
      have ea : ρ1.r[G.length]? = some p := ref_gr (K := X.K) g1 (by rw [← rl.len, List.getElem?_append_right (Nat.le_refl _)]; simp)
      obtain ⟨ks0, h1, kr0⟩ := dct_at r1 eh ea
      cases kr0
      refine ⟨h1, ks, rfl, by rw [← kr.len]; exact hz, ?_⟩
      obtain ⟨g2, r2⟩ := r1.wr (o := .dK (mergeK [] ks)) (m := .dct (kvs.foldl (fun acc kv => Mi.put acc kv.1 kv.2) [])) ea fun g => .dct upd_same ((merge_ok kr .nil).imp fun _ _ q => ⟨q.1, q.2.gr g⟩)
      exact k (.ref p) _ _ ((g0.trans g1).trans g2) r2 (.ref (ref_gr (K := X.K) g2 ea))
    · cases e
  · cases e
theorem m_pnil : PPs X pos [] [] (trs X.K kx []) := pps_nil
theorem m_pcons {k v : Expr} {mk mv : ME} {ks : List (Option Expr)} {vs : List Expr} {ps : List (ME × ME)} (hk : PE X k (tM X.K kx mk)) (hv : PE X v (tM X.K kx mv)) (hr : PPs X pos ks vs (trs X.K kx ps)) : PPs X pos (some k :: ks) (v :: vs) (trs X.K kx ((mk, mv) :: ps)) := pps_cons hk hv hr
end
end Ms

/-! PyS4: statements, targets, loops, comprehensions. -/
namespace Ms
open PySem L2
open Mi (Dv MO Sto Sl Rs bnd ME MT MA MS MF Fl MG MGs MI)
/-- what follows a statement's end -/
def Ko (K : PySem.W.Frag) (kx : Kx) (ρ : Rh) (H : Hp) (f : Fl) (δ' : Sl) (G' : Sto) (D : Ends) : Prop := ∀ ρ' σ' H', Gr ρ H ρ' H' → Rl K kx ρ' G' H' → Sr K ρ' H' δ' σ' → match f with
  | .nx => D.nx σ' H'
  | .rt d => ∀ v, DR K ρ' H' d v → D.rt v H'
  | .bk => D.bk σ' H'
  | .ct => D.ct σ' H'
theorem Ko.gr {K : PySem.W.Frag} {kx : Kx} {ρ ρ1 : Rh} {H H1 : Hp} {f : Fl} {δ' : Sl} {G' : Sto} {D : Ends} (g : Gr ρ H ρ1 H1) (k : Ko K kx ρ H f δ' G' D) : Ko K kx ρ1 H1 f δ' G' D := fun ρ' σ' H' g' r s => k ρ' σ' H' (g.trans g') r s
def sM (K : PySem.W.Frag) (kx : Kx) (m : MS) : TS := fun D σ H => ∃ (ρ : Rh) (G : Sto) (δ : Sl) (f : Fl) (δ' : Sl) (G' : Sto), Rl K kx ρ G H ∧ Sr K ρ H δ σ ∧ m δ G = some (f, δ', G') ∧ Ko K kx ρ H f δ' G' D
theorem _root_.L2.PS.imp {X : Cx} {e : Stmt} {t u : TS} (h : PS X e t) (i : ∀ D σ H, u D σ H → t D σ H) : PS X e u := ⟨fun pins s σ H D I q => h.run pins s σ H D I (i D σ H q)⟩
theorem _root_.L2.PSs.imp {X : Cx} {e : List Stmt} {t u : TS} (h : PSs X e t) (i : ∀ D σ H, u D σ H → t D σ H) : PSs X e u := ⟨fun pins s σ H D I q => h.run pins s σ H D I (i D σ H q)⟩
theorem _root_.L2.PI.imp {X : Cx} {tg e : Expr} {t u : TI} (h : PI X tg e t) (i : ∀ σ H R, u σ H R → t σ H R) : PI X tg e u := ⟨fun pins s σ H R I q => h.run pins s σ H R I (i σ H R q)⟩
theorem _root_.L2.PI.or {X : Cx} {tg e : Expr} {t u : TI} (h : PI X tg e t) (h' : PI X tg e u) : PI X tg e (fun σ H R => t σ H R ∨ u σ H R) := ⟨fun pins s σ H R I q => q.elim (h.run pins s σ H R I) (h'.run pins s σ H R I)⟩
theorem _root_.L2.PG.imp {X : Cx} {e : Expr} {t u : TG} (h : PG X e t) (i : ∀ v σ H Q, u v σ H Q → t v σ H Q) : PG X e u := ⟨fun pins s σ H v w Q I r q => h.run pins s σ H v w Q I r (i v σ H Q q)⟩
theorem _root_.L2.PGs.imp {X : Cx} {e : List Expr} {t u : TGs} (h : PGs X e t) (i : ∀ v σ H Q, u v σ H Q → t v σ H Q) : PGs X e u := ⟨fun pins s σ H v w Q I r q => h.run pins s σ H v w Q I r (i v σ H Q q)⟩
/-- a target's reading; ws: the slots that it stores -/
def tG (K : PySem.W.Frag) (kx : Kx) (ws : List Nat) (g : MG) : TG := fun v σ H Q => ∃ (ρ : Rh) (G : Sto) (δ : Sl) (d : Dv) (δ' : Sl) (G' : Sto), Rl K kx ρ G H ∧ Sr K ρ H δ σ ∧ DR K ρ H d v ∧ g d δ G = some (δ', G') ∧
  ∀ ρ' σ' H', Gr ρ H ρ' H' → Rl K kx ρ' G' H' → Sr K ρ' H' δ' σ' → σ'.length = σ.length → (∀ i, i ∉ ws → σ'[i]? = σ[i]?) → Q σ' H'
def tGs (K : PySem.W.Frag) (kx : Kx) (ws : List Nat) (g : MGs) : TGs := fun vs σ H Q => ∃ (ρ : Rh) (G : Sto) (δ : Sl) (ds : List Dv) (δ' : Sl) (G' : Sto), Rl K kx ρ G H ∧ Sr K ρ H δ σ ∧ DRs K ρ H ds vs ∧ g ds δ G = some (δ', G') ∧
  ∀ ρ' σ' H', Gr ρ H ρ' H' → Rl K kx ρ' G' H' → Sr K ρ' H' δ' σ' → σ'.length = σ.length → (∀ i, i ∉ ws → σ'[i]? = σ[i]?) → Q σ' H'
section
variable {X : Cx} {kx : Kx} {e a b c o tg : Expr} {ma mb mc me mo : ME} {mt : MT} {pos p apos pos' : Pos} {st : Stmt} {rest sa sb es : List Expr} {mas mks : MA} {ms ms' : MS} {bs : List Stmt} {x y : Str}

/-! ### targets -/
theorem g_name (i : Nat) (hN : X.N.Nodup) (hi : X.N[i]? = some x := by rfl) (hx : Loc X.env.scope x := by first | exact Or.inl rfl | exact Or.inr rfl) (hf : X.fn x = true ∨ X.env.scope.names.lookup x = some .local := by first | exact .inl rfl | exact .inr rfl | assumption) : PG X (.Name x pos) (tG X.K kx [i] (Mi.gNm i)) :=
  (pg_name hN hi hx hf).imp fun v σ H Q ⟨ρ, G, δ, d, δ', G', rl, sr, dr, e, k⟩ => by
  cases e
  exact k ρ _ H Gr.refl rl (sr.set i dr) (by rw [List.length_set]) fun j hj => List.getElem?_set_ne (fun z => hj (by simp [z]))
theorem g_nil : PGs X [] (tGs X.K kx [] Mi.gNil) := pgs_nil.imp fun v σ H Q ⟨ρ, G, δ, d, δ', G', rl, sr, dr, e, k⟩ => by
  cases dr with
  | nil =>
    cases e
    exact ⟨rfl, k ρ σ H Gr.refl rl sr rfl fun _ _ => rfl⟩
  | cons _ _ => cases e
theorem g_cons {ws ws' : List Nat} {g : MG} {gs : MGs} (h1 : PG X e (tG X.K kx ws g)) (h2 : PGs X es (tGs X.K kx ws' gs)) (hs : (assignEach (e :: es) X.env).map (·.2) = assign e X.env :: (assignEach es X.env).map (·.2) := by rfl) : PGs X (e :: es) (tGs X.K kx (ws ++ ws') (Mi.gCons g gs)) :=
  (pgs_cons h1 h2 hs).imp fun v σ H Q ⟨ρ, G, δ, d, δ', G', rl, sr, dr, e, k⟩ => by
  cases dr with
  | nil => cases e
  | @cons d ds v vs d1 d2 =>
    refine ⟨v, vs, rfl, ?_⟩
    unfold Mi.gCons at e
    dsimp only at e
    split at e
    · rename_i δ1 G1 eg
      refine ⟨ρ, G, δ, d, δ1, G1, rl, sr, d1, eg, fun ρ1 σ1 H1 g1 r1 s1 l1 n1 => ⟨ρ1, G1, δ1, ds, δ', G', r1, s1, d2.gr g1, e, fun ρ2 σ2 H2 g2 r2 s2 l2 n2 => k ρ2 σ2 H2 (g1.trans g2) r2 s2 (l2.trans l1) fun i hi => ?_⟩⟩
      have h1 : i ∉ ws := fun z => hi (List.mem_append_left _ z)
      have h2 : i ∉ ws' := fun z => hi (List.mem_append_right _ z)
      exact (n2 i h2).trans (n1 i h1)
    · cases e
theorem g_tup {ws : List Nat} {gs : MGs} {n : Nat} {kk : Nat} (hc : X.calm = true) (h : PGs X es (tGs X.K kx ws gs)) (hn : (assignEach es X.env).length = n := by rfl) (hst : (assignEach es X.env).findIdx? (·.1) = none := by rfl) : PG X (.Tuple es kk pos) (tG X.K kx ws (Mi.gTup n gs)) :=
  (pg_tup hc h hn hst).imp fun v σ H Q ⟨ρ, G, δ, d, δ', G', rl, sr, dr, e, k⟩ => by
  cases dr with
  | tup h r =>
    unfold Mi.gTup at e
    dsimp only at e
    split at e
    · rename_i hz
      exact ⟨_, _, rfl, h, by rw [← r.len]; exact hz, ρ, G, δ, _, δ', G', rl, sr, r, e, k⟩
    · cases e
  | _ => cases e

/-! ### statements -/
theorem s_nil : PSs X [] (sM X.K kx Mi.mSkip) := pss_nil.imp fun D σ H ⟨ρ, G, δ, f, δ', G', rl, sr, e, k⟩ => by
  cases e
  exact k ρ σ H Gr.refl rl sr
theorem s_seq (h1 : PS X st (sM X.K kx ms)) (h2 : PSs X bs (sM X.K kx ms')) : PSs X (st :: bs) (sM X.K kx (Mi.mSeq ms ms')) := (pss_cons h1 h2).imp fun D σ H ⟨ρ, G, δ, f, δ', G', rl, sr, e, k⟩ => by
  unfold Mi.mSeq at e
  split at e
  · rename_i δ1 G1 ea
    exact ⟨ρ, G, δ, .nx, δ1, G1, rl, sr, ea, fun ρ1 σ1 H1 g r s => ⟨ρ1, G1, δ1, f, δ', G', r, s, e, k.gr g⟩⟩
  · rename_i hne
    refine ⟨ρ, G, δ, f, δ', G', rl, sr, e, fun ρ1 σ1 H1 g r s => ?_⟩
    have := k ρ1 σ1 H1 g r s
    cases f with
    | nx => exact absurd e (hne δ' G')
    | rt d => exact this
    | bk => exact this
    | ct => exact this
theorem s_one (h1 : PS X st (sM X.K kx ms)) : PSs X [st] (sM X.K kx ms) := pss_one h1
theorem s_pass : PS X (.Pass pos) (sM X.K kx Mi.mSkip) := ps_pass.imp fun D σ H ⟨ρ, G, δ, f, δ', G', rl, sr, e, k⟩ => by
  cases e
  exact k ρ σ H Gr.refl rl sr
theorem s_brk : PS X (.Break pos) (sM X.K kx Mi.mBrk) := ps_break.imp fun D σ H ⟨ρ, G, δ, f, δ', G', rl, sr, e, k⟩ => by
  cases e
  exact k ρ σ H Gr.refl rl sr
theorem s_cont : PS X (.Continue pos) (sM X.K kx Mi.mCont) := ps_continue.imp fun D σ H ⟨ρ, G, δ, f, δ', G', rl, sr, e, k⟩ => by
  cases e
  exact k ρ σ H Gr.refl rl sr
theorem s_fail : PS X st (sM X.K kx Mi.mFail) := ps_never.imp fun D σ H ⟨ρ, G, δ, f, δ', G', rl, sr, e, k⟩ => nomatch e
theorem ss_fail : PSs X bs (sM X.K kx Mi.mFail) := pss_never.imp fun D σ H ⟨ρ, G, δ, f, δ', G', rl, sr, e, k⟩ => nomatch e
theorem asg_go {ws : List Nat} {g : MG} {D : Ends} {σ : St} {H : Hp} (h : sM X.K kx (Mi.mAsg me g) D σ H) : tAsg (tM X.K kx me) (tG X.K kx ws g) D σ H := by
  obtain ⟨ρ, G, δ, f, δ', G', rl, sr, e, k⟩ := h
  unfold Mi.mAsg at e
  split at e
  · rename_i d G1 e1
    split at e
    · rename_i δ2 G2 e2
      cases e
      exact ⟨ρ, G, δ, d, G1, rl, sr, e1, fun v ρ1 H1 g1 r1 d1 => ⟨ρ1, G1, δ, d, _, _, r1, sr.gr g1, d1, e2, fun ρ2 σ2 H2 g2 r2 s2 _ _ => k ρ2 σ2 H2 (g1.trans g2) r2 s2⟩⟩
    · cases e
  · cases e
theorem s_asg {ws : List Nat} {g : MG} (he : PE X e (tM X.K kx me)) (hg : PG X tg (tG X.K kx ws g)) (hs : swapsWithSole [tg] e pos.line X.env = pure false := by rfl) (hw : swappedStores [tg] e X.env = pure none := by rfl) (h1 : (assignEach [tg] X.env).map (·.2) = [assign tg X.env] := by rfl) : PS X (.Assign [tg] e pos) (sM X.K kx (Mi.mAsg me g)) :=
  (ps_asg he hg hs hw h1).imp fun D σ H h => asg_go h
theorem s_set (i : Nat) (hN : X.N.Nodup) (he : PE X e (tM X.K kx me)) (hi : X.N[i]? = some x := by rfl) (hx : Loc X.env.scope x := by first | exact Or.inl rfl | exact Or.inr rfl) (hs : swapsWith e (some (.Name x pos')) pos.line X.env = pure false := by rfl) (hf : X.fn x = true ∨ X.env.scope.names.lookup x = some .local := by first | exact .inl rfl | exact .inr rfl | assumption) :
    PS X (.Assign [.Name x pos'] e pos) (sM X.K kx (Mi.mAsg me (Mi.gNm i))) := (ps_set hN hi hx he hs hf).imp fun D σ H ⟨ρ, G, δ, f, δ', G', rl, sr, e, k⟩ => by
  unfold Mi.mAsg at e
  split at e
  · rename_i d G1 e1
    cases e
    exact ⟨ρ, G, δ, d, _, rl, sr, e1, fun v ρ1 H1 g1 r1 d1 => k ρ1 _ H1 g1 r1 ((sr.gr g1).set i d1)⟩
  · cases e
theorem s_par (i j : Nat) {px py pt pt2 : Pos} {kt k2} (hc : X.calm = true) (hN : X.N.Nodup) (ha : PA X [a, b] (tMA X.K kx mas)) (hi : X.N[i]? = some x := by rfl) (hj : X.N[j]? = some y := by rfl) (hij : i ≠ j := by decide) (hx : X.env.scope.names.lookup x = some .local := by rfl) (hy : X.env.scope.names.lookup y = some .local := by rfl)
    (hw : swappedStores [.Tuple [.Name x px, .Name y py] kt pt] (.Tuple [a, b] k2 pt2) X.env = pure (some [x, y]) := by rfl) : PS X (.Assign [.Tuple [.Name x px, .Name y py] kt pt] (.Tuple [a, b] k2 pt2) pos) (sM X.K kx (Mi.mPar i j mas)) :=
  (ps_par hc hN hi hj hij hx hy ha hw).imp fun D σ H ⟨ρ, G, δ, f, δ', G', rl, sr, e, k⟩ => by
  unfold Mi.mPar at e
  split at e
  · rename_i u v G1 e1
    cases e
    refine ⟨ρ, G, δ, _, _, rl, sr, e1, fun vs ρ1 H1 g1 r1 d1 => ?_⟩
    cases d1 with
    | cons p q =>
      cases q with
      | cons q t =>
        cases t
        exact ⟨_, _, rfl, k ρ1 _ H1 g1 r1 (((sr.gr g1).set i p).set j q)⟩
  · cases e
theorem s_expr (he : PE X e (tM X.K kx me)) (hs : swapsWith e none pos.line X.env = pure false := by rfl) : PS X (.Expr e pos) (sM X.K kx (Mi.mExpr me)) := (ps_expr he hs).imp fun D σ H ⟨ρ, G, δ, f, δ', G', rl, sr, e, k⟩ => by
  unfold Mi.mExpr at e
  split at e
  · rename_i d G1 e1
    cases e
    exact ⟨ρ, G, δ, d, _, rl, sr, e1, fun v ρ1 H1 g1 r1 d1 => k ρ1 σ H1 g1 r1 (sr.gr g1)⟩
  · cases e
theorem s_doc {z j} {pos1 : Pos} : PS X (.Expr (.Constant (.str z) j pos1) pos) (sM X.K kx Mi.mSkip) := ps_doc.imp fun D σ H ⟨ρ, G, δ, f, δ', G', rl, sr, e, k⟩ => by
  cases e
  exact k ρ σ H Gr.refl rl sr
theorem s_ret (he : PE X e (tM X.K kx me)) : PS X (.Return (some e) pos) (sM X.K kx (Mi.mRet me)) := (ps_ret he).imp fun D σ H ⟨ρ, G, δ, f, δ', G', rl, sr, e, k⟩ => by
  unfold Mi.mRet at e
  split at e
  · rename_i d G1 e1
    cases e
    exact ⟨ρ, G, δ, d, _, rl, sr, e1, fun v ρ1 H1 g1 r1 d1 => k ρ1 σ H1 g1 r1 (sr.gr g1) v d1⟩
  · cases e
theorem s_retN : PS X (.Return none pos) (sM X.K kx Mi.mRetN) := ps_retN.imp fun D σ H ⟨ρ, G, δ, f, δ', G', rl, sr, e, k⟩ => by
  cases e
  exact k ρ σ H Gr.refl rl sr .non .non
theorem s_if {ta tb : List Stmt} (hc : PT X c (tMT X.K kx mt)) (ha : PSs X ta (sM X.K kx ms)) (hb : PSs X tb (sM X.K kx ms')) : PS X (.If c ta tb pos) (sM X.K kx (Mi.mIfS mt ms ms')) := (ps_if hc ha hb).imp fun D σ H ⟨ρ, G, δ, f, δ', G', rl, sr, e, k⟩ => by
  unfold Mi.mIfS at e
  split at e
  · rename_i G1 e1
    refine ⟨ρ, G, δ, true, G1, rl, sr, e1, fun ρ1 H1 g1 r1 => ?_⟩
    dsimp only
    rw [if_pos rfl]
    exact ⟨ρ1, G1, δ, f, δ', G', r1, sr.gr g1, e, k.gr g1⟩
  · rename_i G1 e1
    refine ⟨ρ, G, δ, false, G1, rl, sr, e1, fun ρ1 H1 g1 r1 => ?_⟩
    dsimp only
    rw [if_neg (fun z => Bool.false_ne_true z)]
    exact ⟨ρ1, G1, δ, f, δ', G', r1, sr.gr g1, e, k.gr g1⟩
  · cases e
theorem s_aug (i : Nat) {op : Operator} {r : R2} {f : Mi.B2} (hN : X.N.Nodup) (ho : OpR X (inplaceOp op) r) (hf : B2ok X kx f r) (he : PE X e (tM X.K kx me)) (hi : X.N[i]? = some x := by rfl) (hx : Loc X.env.scope x := by first | exact Or.inl rfl | exact Or.inr rfl)
    (hfn : X.fn x = true ∨ X.env.scope.names.lookup x = some .local := by first | exact .inl rfl | exact .inr rfl | assumption) : PS X (.AugAssign (.Name x pos') op e pos) (sM X.K kx (Mi.mAug i f me)) := (ps_aug (X := X) (ti := r) hN hi hx he (fun pins s σ H x y v u Q I rx ry q => ho pins s σ H x y v u Q I rx ry q)).imp fun D σ H ⟨ρ, G, δ, fl, δ', G', rl, sr, e, k⟩ => by
  unfold Mi.mAug at e
  split at e
  · rename_i d0 e0
    split at e
    · rename_i y G1 e1
      split at e
      · rename_i z G2 e2
        cases e
        obtain ⟨v, h1, h2⟩ := sr.at_ i d0 e0
        exact ⟨v, h1, ρ, G, δ, y, G1, rl, sr, e1, fun w ρ1 H1 g1 r1 d1 => hf _ _ _ _ _ ρ1 H1 v w _ e2 r1 (h2.gr g1) d1 fun u ρ2 H2 g2 r2 d2 => k ρ2 _ H2 (g1.trans g2) r2 ((sr.gr (g1.trans g2)).set i d2)⟩
      · cases e
    · cases e
  · cases e
theorem AR_len {K : PySem.W.Frag} {ρ : Rh} {H : Hp} {fs : List (String × Dv)} {fs' : List (Str × V)} (r : FR K ρ H fs fs') : fs.length = fs'.length := AR.len r
theorem s_setF {cs : List Nat} {f : String} (hf : Fok X.K kx cs f) (ho : PE X o (tM X.K kx mo)) (he : PE X e (tM X.K kx me)) (hs : swapsWith e (some (.Attribute o (Str.ofString f) pos')) pos.line X.env = pure false := by rfl) : PS X (.Assign [.Attribute o (Str.ofString f) pos'] e pos) (sM X.K kx (Mi.mSetF cs mo f me)) :=
  (ps_fld ho he hs).imp fun D σ H ⟨ρ, G, δ, fl, δ', G', rl, sr, e, k⟩ => by
  unfold Mi.mSetF at e
  split at e
  · rename_i y G1 e1
    split at e
    · rename_i h G2 e2
      split at e
      · rename_i cn fs eh
        split at e
        · rename_i hz
          obtain ⟨hz1, hz2⟩ := hz
          cases e
          refine ⟨ρ, G, δ, y, G1, rl, sr, e1, fun w ρ1 H1 g1 r1 d1 => ⟨ρ1, G1, δ, _, G2, r1, sr.gr g1, e2, fun v ρ2 H2 g2 r2 d2 => ?_⟩⟩
          cases d2 with
          | ref ea =>
            obtain ⟨dx, fs', h1, fr⟩ := ins_at r2 eh ea
            obtain ⟨g3, r3⟩ := r2.wr (o := .ins (kx.ca cn) dx (L2.putF (Str.ofString f) w fs')) (m := .ins cn (Mi.putF f y fs)) ea fun g => .ins upd_same ((fput_ok (d1.gr g2) fr).imp fun _ _ q => ⟨q.1, q.2.gr g⟩)
            exact ⟨_, _, dx, fs', rfl, h1, (hf cn hz1).1, (hf cn hz1).2, by rw [← AR_len fr]; exact hz2, k _ σ _ ((g1.trans g2).trans g3) r3 (sr.gr ((g1.trans g2).trans g3))⟩
        · cases e
      · cases e
    · cases e
  · cases e
theorem s_augF {cs : List Nat} {f : String} {op : Operator} {r : R2} {m : Mi.B2} (hf : Fok X.K kx cs f) (hop : InOp X op r) (hm : B2ok X kx m r) (ho : PE X o (tM X.K kx mo)) (he : PE X e (tM X.K kx me)) : PS X (.AugAssign (.Attribute o (Str.ofString f) pos') op e pos) (sM X.K kx (Mi.mAugF cs mo f m me)) :=
  (ps_fldaug ho he hop).imp fun D σ H ⟨ρ, G, δ, fl, δ', G', rl, sr, e, k⟩ => by
  unfold Mi.mAugF at e
  split at e
  · rename_i h G1 e1
    split at e
    · rename_i cn fs eh
      split at e
      · rename_i hc
        split at e
        · rename_i x0 ex
          split at e
          · rename_i y G2 e2
            split at e
            · rename_i z G3 e3
              split at e
              · rename_i cn' fs2 eh2
                split at e
                · rename_i hz
                  obtain ⟨hz1, hz2⟩ := hz
                  subst hz1
                  cases e
                  refine ⟨ρ, G, δ, _, G1, rl, sr, e1, fun v ρ1 H1 g1 r1 d1 => ?_⟩
                  cases d1 with
                  | ref ea =>
                    obtain ⟨dx, fs', h1, fr⟩ := ins_at r1 eh ea
                    obtain ⟨w, hw, rw'⟩ := (flook_ok (f := f) fr).1 _ ex
                    refine ⟨_, _, dx, fs', w, rfl, h1, (hf _ hc).1, (hf _ hc).2, hw, ρ1, G1, δ, y, G2, r1, sr.gr g1, e2, fun u ρ2 H2 g2 r2 d2 => ?_⟩
                    refine hm _ _ _ _ _ ρ2 H2 w u _ e3 r2 (rw'.gr g2) d2 fun q ρ3 H3 g3 r3 d3 => ?_
                    have ea3 := ref_gr (K := X.K) (g2.trans g3) ea
                    obtain ⟨dx3, fs3, h3, fr3⟩ := ins_at r3 eh2 ea3
                    obtain ⟨g4, r4⟩ := r3.wr (o := .ins (kx.ca cn') dx3 (L2.putF (Str.ofString f) q fs3)) (m := .ins cn' (Mi.putF f z fs2)) ea3 fun g => .ins upd_same ((fput_ok d3 fr3).imp fun _ _ q => ⟨q.1, q.2.gr g⟩)
                    exact ⟨dx3, fs3, h3, by rw [← AR_len fr3]; exact hz2, k _ σ _ (((g1.trans g2).trans g3).trans g4) r4 (sr.gr (((g1.trans g2).trans g3).trans g4))⟩
                · cases e
              · cases e
            · cases e
          · cases e
        · cases e
      · cases e
    · cases e
  · cases e
theorem ixN_dr {K : PySem.W.Frag} {ρ : Rh} {H : Hp} {xs : List Dv} {vs : List V} (r : DRs K ρ H xs vs) (i : Int) : Mi.ixN xs.length i = L2.ixN vs.length i := by rw [ixN_eq, r.len]
/-- xs[i] = e -/
theorem s_setI {i : Expr} {mi : ME} (ho : PE X o (tM X.K kx mo)) (hi : PE X i (tM X.K kx mi)) (he : PE X e (tM X.K kx me)) (hs : swapsWithSole [.Subscript o i pos'] e pos.line X.env = pure false := by rfl) (hw : swappedStores [.Subscript o i pos'] e X.env = pure none := by rfl) (h1 : (assignEach [.Subscript o i pos'] X.env).map (·.2) = [assign (.Subscript o i pos') X.env] := by rfl)
    (ha : ∀ v, assign (.Subscript o i pos') X.env v = (do let ov ← holding [v] (eval o X.env); let iv ← holding [v, ov] (eval i X.env); standAt pos'; holding [v, ov, iv] (setItem ov iv v); release [v, ov, iv] []) := by intro _; rfl) : PS X (.Assign [.Subscript o i pos'] e pos) (sM X.K kx (Mi.mSetI mo mi me)) :=
  (ps_asg he (pg_sub ho hi set_list ha) hs hw h1).imp fun D σ H ⟨ρ, G, δ, fl, δ', G', rl, sr, e, k⟩ => by
  unfold Mi.mSetI at e
  split at e
  · rename_i y G1 e1
    split at e
    · rename_i h G2 e2
      split at e
      · rename_i kk G3 e3
        split at e
        · rename_i xs eh
          split at e
          · rename_i j ej
            cases e
            refine ⟨ρ, G, δ, y, G1, rl, sr, e1, fun w ρ1 H1 g1 r1 d1 => ⟨ρ1, G1, δ, _, G2, r1, sr.gr g1, e2, fun v ρ2 H2 g2 r2 d2 => ⟨ρ2, G2, δ, _, G3, r2, sr.gr (g1.trans g2), e3, fun u ρ3 H3 g3 r3 d3 => ?_⟩⟩⟩
            cases d3
            cases d2 with
            | ref ea =>
              have ea3 := ref_gr (K := X.K) g3 ea
              obtain ⟨vs, h3, rv⟩ := lst_at r3 eh ea3
              obtain ⟨g4, r4⟩ := r3.wr (o := .lst (vs.set j w)) (m := .lst (xs.set j y)) ea3 fun g => .lst upd_same ((rv.set j (d1.gr (g2.trans g3))).gr g)
              exact ⟨_, vs, _, j, rfl, rfl, h3, by rw [← ixN_dr rv]; exact ej, k _ σ _ (((g1.trans g2).trans g3).trans g4) r4 (sr.gr (((g1.trans g2).trans g3).trans g4))⟩
          · cases e
        · cases e
      · cases e
    · cases e
  · cases e
/-- d[k] = e -/
theorem s_setK {i : Expr} {mi : ME} (hu : X.A.units + 1 < cLine) (ho : PE X o (tM X.K kx mo)) (hi : PE X i (tM X.K kx mi)) (he : PE X e (tM X.K kx me)) (hs : swapsWith e (some (.Subscript o i pos')) pos.line X.env = pure false := by rfl) : PS X (.Assign [.Subscript o i pos'] e pos) (sM X.K kx (Mi.mSetK mo mi me)) :=
  (ps_dput hu ho hi he hs).imp fun D σ H ⟨ρ, G, δ, fl, δ', G', rl, sr, e, k⟩ => by
  unfold Mi.mSetK at e
  split at e
  · rename_i y G1 e1
    split at e
    · rename_i h G2 e2
      split at e
      · rename_i kk G3 e3
        split at e
        · rename_i kvs ky eh ek
          split at e
          · rename_i hz
            cases e
            refine ⟨ρ, G, δ, y, G1, rl, sr, e1, fun w ρ1 H1 g1 r1 d1 => ⟨ρ1, G1, δ, _, G2, r1, sr.gr g1, e2, fun v ρ2 H2 g2 r2 d2 => ⟨ρ2, G2, δ, _, G3, r2, sr.gr (g1.trans g2), e3, fun u ρ3 H3 g3 r3 d3 => ?_⟩⟩⟩
            have eu := kOf_v ek d3
            subst eu
            cases d2 with
            | ref ea =>
              have ea3 := ref_gr (K := X.K) g3 ea
              obtain ⟨ks, h3, kr⟩ := dct_at r3 eh ea3
              obtain ⟨g4, r4⟩ := r3.wr (o := .dK (putK ks (kK ky) w)) (m := .dct (Mi.put kvs ky y)) ea3 fun g => .dct upd_same ((put_ok kr (d1.gr (g2.trans g3))).imp fun _ _ q => ⟨q.1, q.2.gr g⟩)
              exact ⟨_, _, rfl, DPut.k h3 (by rw [← AR.len kr, ← big_line]; exact hz), k _ σ _ (((g1.trans g2).trans g3).trans g4) r4 (sr.gr (((g1.trans g2).trans g3).trans g4))⟩
          · cases e
        · cases e
      · cases e
    · cases e
  · cases e
end
end Ms

/-! PyS5: loops, comprehensions, defs. -/
namespace Ms
open PySem L2
open Mi (Dv MO Sto Sl Rs bnd ME MT MA MS MF Fl MG MGs MI)
/-- an iterator gives the items ds as long as st holds of the store -/
structure Yl (K : PySem.W.Frag) (kx : Kx) (ρ0 : Rh) (H0 : Hp) (J : It) (ds : List Dv) (st : Sto → Prop) : Prop where
  stop : ∀ ρ G H, Gw ρ0 H0 ρ H → Rl K kx ρ G H → st G → J.stop ds.length H
  go : ∀ i ρ G H, Gw ρ0 H0 ρ H → Rl K kx ρ G H → st G → i < ds.length → J.go i H
  yld : ∀ i d ρ G H x H', Gw ρ0 H0 ρ H → Rl K kx ρ G H → st G → ds[i]? = some d → J.yld i H x H' → Gr ρ H ρ H' ∧ Rl K kx ρ G H' ∧ DR K ρ H' d x
def tI (K : PySem.W.Frag) (kx : Kx) (mi : MI) : TI := fun σ H R => ∃ (ρ : Rh) (G : Sto) (δ : Sl) (ds : List Dv) (st : Sto → Prop) (G' : Sto), Rl K kx ρ G H ∧ Sr K ρ H δ σ ∧ mi δ G = some ((ds, st), G') ∧
  ∀ J ρ' H', Gr ρ H ρ' H' → Rl K kx ρ' G' H' → Yl K kx ρ' H' J ds st → R J H'
section
variable {X : Cx} {kx : Kx} {e a b c o tg : Expr} {ma mb mc me mo : ME} {mt : MT} {pos p apos pos' : Pos} {st : Stmt} {rest sa sb es : List Expr} {mas mks : MA} {ms ms' : MS} {bs : List Stmt} {x y : Str}
/-! ### iterators -/
theorem yl_list {ρ0 : Rh} {H0 : Hp} {x : Dv} {ad : Addr} {ds : List Dv} (dx : DR X.K ρ0 H0 x (.ref ad)) : Yl X.K kx ρ0 H0 (Itl X.K ad) ds (fun G => Mi.lstOf G x = some ds) := by
  have rx : ∀ ρ G H, Gw ρ0 H0 ρ H → Rl X.K kx ρ G H → Mi.lstOf G x = some ds → ∃ vs, SqL X.K H ad vs ∧ DRs X.K ρ H ds vs := fun ρ G H g r s => by
    obtain ⟨a, vs, e, h, q⟩ := lstOf_at r s (dx.gw g)
    cases e
    exact ⟨vs, h, q⟩
  refine ⟨fun ρ G H g r s => ?_, fun i ρ G H g r s hi => ?_, fun i d ρ G H v H' g r s hd hy => ?_⟩
  · obtain ⟨vs, h, dr⟩ := rx ρ G H g r s
    exact ⟨vs, h, Nat.le_of_eq dr.len.symm⟩
  · obtain ⟨vs, h, dr⟩ := rx ρ G H g r s
    have hi' : i < vs.length := by rw [← dr.len]; exact hi
    exact ⟨vs, vs[i], h, List.getElem?_eq_getElem hi'⟩
  · obtain ⟨e, hv⟩ := hy
    subst e
    obtain ⟨vs, h, dr⟩ := rx ρ G _ g r s
    obtain ⟨w, hw, dw⟩ := dr.get hd
    have e2 := hv vs h
    rw [hw] at e2
    cases e2
    exact ⟨Gr.refl, r, dw⟩
theorem yl_tup {ρ0 : Rh} {H0 : Hp} {ad : Addr} {ds : List Dv} {vs : List V} {st : Sto → Prop} (h0 : SqT X.K H0 ad vs) (d0 : DRs X.K ρ0 H0 ds vs) : Yl X.K kx ρ0 H0 (Itt X.K ad) ds st := by
  refine ⟨fun ρ G H g r s => ?_, fun i ρ G H g r s hi => ?_, fun i d ρ G H v H' g r s hd hy => ?_⟩
  · exact ⟨vs, (SqT.gw g h0), Nat.le_of_eq d0.len.symm⟩
  · have hi' : i < vs.length := by rw [← d0.len]; exact hi
    exact ⟨vs, vs[i], (SqT.gw g h0), List.getElem?_eq_getElem hi'⟩
  · obtain ⟨e, hv⟩ := hy
    subst e
    obtain ⟨w, hw, dw⟩ := (d0.gw g).get hd
    have e2 := hv vs ((SqT.gw g h0))
    rw [hw] at e2
    cases e2
    exact ⟨Gr.refl, r, dw⟩
theorem yl_range {ρ0 : Rh} {H0 : Hp} {lo hi : Int} {st : Sto → Prop} : Yl X.K kx ρ0 H0 (Itr lo (hi - lo).toNat) (Mi.rng lo hi) st := by
  have hl : (Mi.rng lo hi).length = (hi - lo).toNat := by simp [Mi.rng]
  refine ⟨fun ρ G H g r s => ?_, fun i ρ G H g r s hi => ?_, fun i d ρ G H v H' g r s hd hy => ?_⟩
  · rw [hl]
    exact Nat.le_refl _
  · rw [hl] at hi
    exact hi
  · obtain ⟨e, hv⟩ := hy
    subst e hv
    have hi := (List.getElem?_eq_some_iff.mp hd).1
    rw [hl] at hi
    unfold Mi.rng at hd
    rw [List.getElem?_map, List.getElem?_range hi] at hd
    cases hd
    exact ⟨Gr.refl, r, .int _⟩
theorem i_seq (ha : PE X a (tM X.K kx ma)) : PI X tg a (tI X.K kx (Mi.iSeq ma)) := (PI.or (pi_list ha) (pi_tup ha)).imp fun σ H R ⟨ρ, G, δ, ds, st, G', rl, sr, e, k⟩ => by
  obtain ⟨x, G1, e1, e⟩ := Mi.bnd_eq e
  cases es : Mi.seqOf G1 x with
  | none => rw [es] at e; cases e
  | some xs =>
    rw [es] at e
    cases e
    cases x with
    | tup ys =>
      cases es
      refine .inr ⟨ρ, G, δ, _, _, rl, sr, e1, fun v ρ1 H1 g1 r1 d1 => ?_⟩
      cases d1 with
      | tup h r => exact ⟨_, rfl, ⟨_, h⟩, k _ ρ1 H1 g1 r1 (yl_tup h r)⟩
    | _ =>
      refine .inl ⟨ρ, G, δ, _, _, rl, sr, e1, fun v ρ1 H1 g1 r1 d1 => ?_⟩
      unfold Mi.seqOf at es
      obtain ⟨ad, vs, ev, h, r⟩ := lstOf_at r1 es d1
      subst ev
      exact ⟨ad, rfl, ⟨vs, h⟩, k _ ρ1 H1 g1 r1 (yl_list d1)⟩
theorem i_range1 {p : Pos} (hm : X.mg "range" = none) (ha : PE X a (tM X.K kx ma)) (hg : Gl X "range" := by rfl) (hs : starEach [a] X.env = (false, eval a X.env) :: starEach [] X.env := by rfl) (hs2 : starEach [a] X.env = [(false, eval a X.env)] := by rfl) : PI X tg (.Call (.Name "range" p) [a] [] pos) (tI X.K kx (Mi.iRange1 ma)) :=
  (pi_range1 hg hm (pa_cons ha pa_nil hs) hs2).imp fun σ H R ⟨ρ, G, δ, ds, st, G', rl, sr, e, k⟩ => by
  obtain ⟨x, G1, e1, e⟩ := Mi.bnd_eq e
  refine ⟨ρ, G, δ, x, G1, rl, sr, e1, fun v ρ1 H1 g1 r1 d1 => ?_⟩
  split at e
  · split at e
    · rename_i hz
      cases e
      cases d1
      refine ⟨_, rfl, hz.1, hz.2, k _ ρ1 H1 g1 r1 ?_⟩
      have := yl_range (X := X) (kx := kx) (ρ0 := ρ1) (H0 := H1) (lo := 0) (hi := ‹Int›) (st := fun _ => True)
      rw [Int.sub_zero] at this
      exact this
    · cases e
  · cases e
theorem i_range2 {p : Pos} (hm : X.mg "range" = none) (ha : PE X a (tM X.K kx ma)) (hb : PE X b (tM X.K kx mb)) (hg : Gl X "range" := by rfl) (hs : starEach [a, b] X.env = (false, eval a X.env) :: starEach [b] X.env := by rfl) (hs2 : starEach [b] X.env = (false, eval b X.env) :: starEach [] X.env := by rfl) (hs3 : starEach [a, b] X.env = [(false, eval a X.env), (false, eval b X.env)] := by rfl) (hs4 : starEach [b] X.env = [(false, eval b X.env)] := by rfl) : PI X tg (.Call (.Name "range" p) [a, b] [] pos) (tI X.K kx (Mi.iRange2 ma mb)) :=
  (pi_range2 hg hm (pa_cons ha (pa_cons hb pa_nil hs2) hs) hs3 hs4).imp fun σ H R ⟨ρ, G, δ, ds, st, G', rl, sr, e, k⟩ => by
  obtain ⟨x, G1, e1, e⟩ := Mi.bnd_eq e
  obtain ⟨y, G2, e2, e⟩ := Mi.bnd_eq e
  refine ⟨ρ, G, δ, x, G1, rl, sr, e1, fun v ρ1 H1 g1 r1 d1 => ⟨ρ1, G1, δ, y, G2, r1, sr.gr g1, e2, fun w ρ2 H2 g2 r2 d2 => ?_⟩⟩
  split at e
  · split at e
    · rename_i hz
      cases e
      cases d1
      cases d2
      exact ⟨_, _, rfl, hz, k _ ρ2 H2 (g1.trans g2) r2 yl_range⟩
    · cases e
  · cases e
theorem enumD_get : ∀ (k : Nat) (xs : List Dv) (i : Nat), (Mi.enumD k xs)[i]? = (xs[i]?).map fun d => .tup [.int ((k + i : Nat)), d]
  | k, [], i => by simp [Mi.enumD]
  | k, x :: xs, 0 => by simp [Mi.enumD]
  | k, x :: xs, i + 1 => by
    have := enumD_get (k + 1) xs i
    simp only [Mi.enumD, List.getElem?_cons_succ, this]
    congr 2
    funext d
    have e : k + 1 + i = k + (i + 1) := by omega
    rw [e]
theorem enumD_len : ∀ (k : Nat) (xs : List Dv), (Mi.enumD k xs).length = xs.length
  | k, [] => rfl
  | k, x :: xs => by simp [Mi.enumD, enumD_len (k + 1) xs]
theorem i_enum {elts : List Expr} {kk : Nat} {tpos p : Pos} (hm : X.mg "enumerate" = none) (ha : PE X a (tM X.K kx ma)) (hg : Gl X "enumerate" := by rfl) (hs : starEach [a] X.env = (false, eval a X.env) :: starEach [] X.env := by rfl) (hs2 : starEach [a] X.env = [(false, eval a X.env)] := by rfl) : PI X (.Tuple elts kk tpos) (.Call (.Name "enumerate" p) [a] [] pos) (tI X.K kx (Mi.iEnum ma)) :=
  (pi_enum hg hm (pa_cons ha pa_nil hs) hs2).imp fun σ H R ⟨ρ, G, δ, ds, st, G', rl, sr, e, k⟩ => by
  obtain ⟨x, G1, e1, e⟩ := Mi.bnd_eq e
  refine ⟨ρ, G, δ, x, G1, rl, sr, e1, fun v ρ1 H1 g1 r1 d1 => ?_⟩
  split at e
  · rename_i xs el
    cases e
    obtain ⟨ad, vs, ev, h, r⟩ := lstOf_at r1 el d1
    subst ev
    refine ⟨ad, vs, rfl, h, k _ ρ1 H1 g1 r1 ?_⟩
    have rx : ∀ ρ G H, Gw ρ1 H1 ρ H → Rl X.K kx ρ G H → Mi.lstOf G x = some xs → ∃ vs, SqL X.K H ad vs ∧ DRs X.K ρ H xs vs := fun ρ G H g r s => by
      obtain ⟨a, vs, e, h, q⟩ := lstOf_at r s (d1.gw g)
      cases e
      exact ⟨vs, h, q⟩
    refine ⟨fun ρ G H g r s => ?_, fun i ρ G H g r s hi => ?_, fun i d ρ G H v H' g r s hd hy => ?_⟩
    · obtain ⟨vs, h, dr⟩ := rx ρ G H g r s
      refine ⟨vs, h, ?_⟩
      rw [enumD_len, dr.len]
      exact Nat.le_refl _
    · obtain ⟨vs, h, dr⟩ := rx ρ G H g r s
      rw [enumD_len, dr.len] at hi
      exact ⟨vs, vs[i], h, List.getElem?_eq_getElem hi⟩
    · obtain ⟨T, w, ev, hT, eH, hv⟩ := hy
      subst ev eH
      obtain ⟨vs, h, dr⟩ := rx ρ G H g r s
      rw [enumD_get] at hd
      cases ex : xs[i]? with
      | none => rw [ex] at hd; cases hd
      | some d0 =>
        rw [ex] at hd
        cases hd
        obtain ⟨w', hw, dw⟩ := dr.get ex
        have e2 := hv vs h
        rw [hw] at e2
        cases e2
        obtain ⟨g2, r2⟩ := r.side (.tup [.int (i : Nat), w]) hT
        refine ⟨g2, r2, .tup (SqT.of upd_same) (.cons ?_ (.cons (dw.gr g2) .nil))⟩
        rw [Nat.zero_add]
        exact .int _
  · cases e
/-! ### for -/
theorem s_for {it : Expr} {mi : MI} {ws : List Nat} {g : MG} {mb : MS} (hp : PassesOwn (model X.prog X.w) X.A X.env X.xe) (hc : X.calm = true) (hi : PI X tg it (tI X.K kx mi)) (hg : PG X tg (tG X.K kx ws g)) (hb : PSs X bs (sM X.K kx mb)) (hfs : ∀ x, foldedSetIterable it X.env x = pure x := by intro _; rfl) : PS X (.For tg it bs [] pos) (sM X.K kx (Mi.mFor mi g mb)) :=
  (ps_for hp hc hi hg hb (hs := hfs)).imp fun D σ H ⟨ρ, G, δ, f, δ', G', rl, sr, e, k⟩ => by
  obtain ⟨⟨ds, st⟩, G1, e1, e⟩ := Mi.bnd_eq e
  refine ⟨ρ, G, δ, ds, st, G1, rl, sr, e1, fun J ρ1 H1 g1 r1 y => ?_⟩
  refine ⟨fun i m σ H => m = ds.length - i ∧ i ≤ ds.length ∧ ∃ ρ2 G2 δ2, Gr ρ1 H1 ρ2 H ∧ Rl X.K kx ρ2 G2 H ∧ Sr X.K ρ2 H δ2 σ ∧ Mi.mLoop g mb st (ds.drop i) δ2 G2 = some (f, δ', G'), ⟨ds.length, by simp, Nat.zero_le _, ρ1, G1, δ, Gr.refl, r1, sr.gr g1, by simpa using e⟩, ?_⟩
  rintro i m σ2 H2 ⟨rfl, hi, ρ2, G2, δ2, g2, r2, s2, el⟩
  by_cases hlt : i < ds.length
  · have ed : ds.drop i = ds[i] :: ds.drop (i + 1) := List.drop_eq_getElem_cons hlt
    rw [ed] at el
    unfold Mi.mLoop at el
    split at el
    · rename_i hst
      split at el
      · rename_i δ3 G3 eg
        refine .inr ⟨y.go i ρ2 G2 H2 g2.w r2 hst hlt, fun σ' H' => ∃ m', m' < ds.length - i ∧ (m' = ds.length - (i + 1) ∧ i + 1 ≤ ds.length ∧ ∃ ρ2 G2 δ2, Gr ρ1 H1 ρ2 H' ∧ Rl X.K kx ρ2 G2 H' ∧ Sr X.K ρ2 H' δ2 σ' ∧ Mi.mLoop g mb st (ds.drop (i + 1)) δ2 G2 = some (f, δ', G')), fun _ _ h => h, fun x H' hy => ?_⟩
        obtain ⟨gy, ry, dy⟩ := y.yld i ds[i] ρ2 G2 H2 x H' g2.w r2 hst (List.getElem?_eq_getElem hlt) hy
        refine ⟨ρ2, G2, δ2, ds[i], δ3, G3, ry, s2.gr gy, dy, eg, fun ρ3 σ3 H3 g3 r3 s3 _ _ => ?_⟩
        have ga := (g2.trans gy).trans g3
        have next : ∀ {δ4 G4}, Mi.mLoop g mb st (ds.drop (i + 1)) δ4 G4 = some (f, δ', G') → ∀ ρ4 σ4 H4, Gr ρ3 H3 ρ4 H4 → Rl X.K kx ρ4 G4 H4 → Sr X.K ρ4 H4 δ4 σ4 → ∃ m', m' < ds.length - i ∧ (m' = ds.length - (i + 1) ∧ i + 1 ≤ ds.length ∧ ∃ ρ2 G2 δ2, Gr ρ1 H1 ρ2 H4 ∧ Rl X.K kx ρ2 G2 H4 ∧ Sr X.K ρ2 H4 δ2 σ4 ∧ Mi.mLoop g mb st (ds.drop (i + 1)) δ2 G2 = some (f, δ', G')) :=
          fun {δ4 G4} h ρ4 σ4 H4 g4 r4 s4 => ⟨_, by omega, rfl, hlt, ρ4, G4, δ4, ga.trans g4, r4, s4, h⟩
        split at el
        · rename_i δ4 G4 eb
          exact ⟨ρ3, G3, δ3, .nx, δ4, G4, r3, s3, eb, fun ρ4 σ4 H4 g4 r4 s4 => next el ρ4 σ4 H4 g4 r4 s4⟩
        · rename_i δ4 G4 eb
          exact ⟨ρ3, G3, δ3, .ct, δ4, G4, r3, s3, eb, fun ρ4 σ4 H4 g4 r4 s4 => next el ρ4 σ4 H4 g4 r4 s4⟩
        · rename_i δ4 G4 eb
          cases el
          exact ⟨ρ3, G3, δ3, .bk, _, _, r3, s3, eb, fun ρ4 σ4 H4 g4 r4 s4 => k ρ4 σ4 H4 ((g1.trans ga).trans g4) r4 s4⟩
        · rename_i n1 n2 n3
          refine ⟨ρ3, G3, δ3, f, δ', G', r3, s3, el, fun ρ4 σ4 H4 g4 r4 s4 => ?_⟩
          have q := k ρ4 σ4 H4 ((g1.trans ga).trans g4) r4 s4
          cases f with
          | nx => exact absurd el (n1 _ _)
          | ct => exact absurd el (n2 _ _)
          | bk => exact absurd el (n3 _ _)
          | rt d => exact q
      · cases el
    · cases el
  · have ed : ds.drop i = [] := List.drop_eq_nil_of_le (by omega)
    rw [ed] at el
    unfold Mi.mLoop at el
    split at el
    · rename_i hst
      cases el
      have hi' : i = ds.length := by omega
      subst hi'
      exact .inl ⟨y.stop ρ2 _ H2 g2.w r2 hst, k ρ2 σ2 H2 (g1.trans g2) r2 s2⟩
    · cases el
/-! ### while -/
theorem s_while {n : Nat} {mb : MS} (hp : PassesOwn (model X.prog X.w) X.A X.env X.xe) (hc : PT X c (tMT X.K kx mt)) (hb : PSs X bs (sM X.K kx mb)) : PS X (.While c bs [] pos) (sM X.K kx (Mi.mWh mt mb n)) :=
  (ps_while hp hc hb).imp fun D σ H ⟨ρ, G, δ, f, δ', G', rl, sr, e, k⟩ => by
  refine ⟨fun m σ H' => ∃ ρ2 G2 δ2, Gr ρ H ρ2 H' ∧ Rl X.K kx ρ2 G2 H' ∧ Sr X.K ρ2 H' δ2 σ ∧ Mi.mWh mt mb m δ2 G2 = some (f, δ', G'), ⟨n, ρ, G, δ, Gr.refl, rl, sr, e⟩, ?_⟩
  rintro m σ2 H2 ⟨ρ2, G2, δ2, g2, r2, s2, el⟩
  cases m with
  | zero => cases el
  | succ m =>
    unfold Mi.mWh at el
    split at el
    · rename_i G3 et
      refine ⟨ρ2, G2, δ2, true, G3, r2, s2, et, fun ρ3 H3 g3 r3 => ?_⟩
      dsimp only
      rw [if_pos rfl]
      refine ⟨fun σ' H' => ∃ m', m' < m + 1 ∧ ∃ ρ2 G2 δ2, Gr ρ H ρ2 H' ∧ Rl X.K kx ρ2 G2 H' ∧ Sr X.K ρ2 H' δ2 σ' ∧ Mi.mWh mt mb m' δ2 G2 = some (f, δ', G'), fun _ _ h => h, ?_⟩
      split at el
      · rename_i δ4 G4 eb
        exact ⟨ρ3, G3, δ2, .nx, δ4, G4, r3, s2.gr g3, eb, fun ρ4 σ4 H4 g4 r4 s4 => ⟨m, Nat.lt_succ_self m, ρ4, G4, δ4, (g2.trans g3).trans g4, r4, s4, el⟩⟩
      · rename_i δ4 G4 eb
        exact ⟨ρ3, G3, δ2, .ct, δ4, G4, r3, s2.gr g3, eb, fun ρ4 σ4 H4 g4 r4 s4 => ⟨m, Nat.lt_succ_self m, ρ4, G4, δ4, (g2.trans g3).trans g4, r4, s4, el⟩⟩
      · rename_i δ4 G4 eb
        cases el
        exact ⟨ρ3, G3, δ2, .bk, _, _, r3, s2.gr g3, eb, fun ρ4 σ4 H4 g4 r4 s4 => k ρ4 σ4 H4 ((g2.trans g3).trans g4) r4 s4⟩
      · rename_i n1 n2 n3
        refine ⟨ρ3, G3, δ2, f, δ', G', r3, s2.gr g3, el, fun ρ4 σ4 H4 g4 r4 s4 => ?_⟩
        have q := k ρ4 σ4 H4 ((g2.trans g3).trans g4) r4 s4
        cases f with
        | nx => exact absurd el (n1 _ _)
        | ct => exact absurd el (n2 _ _)
        | bk => exact absurd el (n3 _ _)
        | rt d => exact q
    · rename_i G3 et
      cases el
      refine ⟨ρ2, G2, _, false, _, r2, s2, et, fun ρ3 H3 g3 r3 => ?_⟩
      dsimp only
      rw [if_neg (fun z => Bool.false_ne_true z)]
      exact k ρ3 σ2 H3 (g2.trans g3) r3 (s2.gr g3)
    · cases el
/-! ### comprehensions -/
theorem mt_yes : PTs X [] (tMT X.K kx Mi.tYes) := ⟨fun pins s σ H Q I h => pts_nil.run pins s σ H Q I (by
  obtain ⟨ρ, G, δ, b, G', rl, sr, e, k⟩ := h
  cases e
  exact k ρ H Gr.refl rl)⟩
theorem wipe_eq {σ σ2 : St} (hl : σ2.length = σ.length) : ∀ {vs : List Nat}, (∀ i, i ∉ vs → σ2[i]? = (L2.wipe σ vs)[i]?) → (L2.wipe σ vs).length = σ.length → L2.wipe σ2 vs = L2.wipe σ vs := by
  intro vs h hw
  refine List.ext_getElem? fun i => ?_
  by_cases hi : i ∈ vs
  · have n : ∀ (τ : St), (L2.wipe τ vs)[i]? = if i < τ.length then some none else none := by
      intro τ
      have : ∀ (us : List Nat), i ∈ us → (L2.wipe τ us)[i]? = if i < τ.length then some none else none := by
        intro us
        induction us with
        | nil => intro z; cases z
        | cons u us ih =>
          intro z
          show ((L2.wipe τ us).set u none)[i]? = _
          by_cases hu : u = i
          · subst hu
            by_cases hlt : u < τ.length
            · rw [if_pos hlt, List.getElem?_set_self (by rw [L2.wipe_length]; exact hlt)]
            · rw [if_neg hlt, List.getElem?_eq_none]
              rw [List.length_set, L2.wipe_length]
              omega
          · rw [List.getElem?_set_ne hu]
            exact ih ((List.mem_cons.mp z).elim (fun q => absurd q.symm hu) id)
      exact this vs hi
    rw [n, n, hl]
  · rw [L2.wipe_out hi]
    exact h i hi
/-- the loop of a comprehension; ws: what the target stores -/
theorem lc_go {mi : MI} {g : MG} {mt : MT} {ws vs : List Nat} {m : Bool} {σ : St} {H : Hp} {Q : VK} (hw : ∀ i ∈ ws, i ∈ vs) (h : tM X.K kx (Mi.mLc m mi g mt me vs) σ H Q) : tLc (tI X.K kx mi) (tG X.K kx ws g) (tMT X.K kx mt) (tM X.K kx me) vs σ H Q := by
  obtain ⟨ρ, G, δ, d, G', rl, sr, e, k⟩ := h
  obtain ⟨⟨ds, st⟩, G1, e1, e⟩ := Mi.bnd_eq e
  obtain ⟨zs, Gz, e2, e⟩ := Mi.bnd_eq e
  dsimp only at e2 e
  refine ⟨ρ, G, δ, ds, st, G1, rl, sr, e1, fun J ρ1 H1 g1 r1 y D hD => ?_⟩
  obtain ⟨gf, rf⟩ := r1.fill [] hD
  have nD : D ∉ ρ1.x := (r1.free hD).2
  refine ⟨fun i n H2 => n = ds.length - i ∧ i ≤ ds.length ∧ ∃ (r2 : List Addr) (G2 : Sto) (acc : List Dv) (av : List V), Gr ⟨ρ1.r, D :: ρ1.x⟩ (upd H1 D (.lst [])) ⟨r2, D :: ρ1.x⟩ (upd H2 D (.lst [])) ∧ Gw ⟨ρ1.r, D :: ρ1.x⟩ (upd H1 D (.lst [])) ⟨r2, D :: ρ1.x⟩ H2 ∧ Rl X.K kx ⟨r2, D :: ρ1.x⟩ G2 H2 ∧ H2 D = some (.lst av) ∧ DRs X.K ⟨r2, D :: ρ1.x⟩ H2 acc av ∧
    Mi.mLcLoop g mt me st (Mi.wipe δ vs) (ds.drop i) acc G2 = some (zs, Gz), ⟨ds.length, by simp, Nat.zero_le _, ρ1.r, G1, [], [], by rw [upd_upd]; exact Gr.refl, Gw.refl, rf, upd_same, .nil, by simpa using e2⟩, ?_⟩
  rintro i n H2 ⟨rfl, hi, r2, G2, acc, av, g2, w2, q2, hD2, da, el⟩
  have sr2 : Sr X.K ⟨r2, D :: ρ1.x⟩ H2 δ σ := ((sr.gr g1).gw gf).gw w2
  by_cases hlt : i < ds.length
  · have ed : ds.drop i = ds[i] :: ds.drop (i + 1) := List.drop_eq_getElem_cons hlt
    rw [ed] at el
    unfold Mi.mLcLoop at el
    split at el
    · rename_i hst
      obtain ⟨hst, hacc⟩ := hst
      split at el
      · rename_i δ3 G3 eg
        refine .inr ⟨y.go i _ G2 H2 (gf.trans w2) q2 hst hlt, fun H' => ∃ n', n' < ds.length - i ∧ (n' = ds.length - (i + 1) ∧ i + 1 ≤ ds.length ∧ ∃ (r2 : List Addr) (G2 : Sto) (acc : List Dv) (av : List V), Gr ⟨ρ1.r, D :: ρ1.x⟩ (upd H1 D (.lst [])) ⟨r2, D :: ρ1.x⟩ (upd H' D (.lst [])) ∧ Gw ⟨ρ1.r, D :: ρ1.x⟩ (upd H1 D (.lst [])) ⟨r2, D :: ρ1.x⟩ H' ∧ Rl X.K kx ⟨r2, D :: ρ1.x⟩ G2 H' ∧ H' D = some (.lst av) ∧ DRs X.K ⟨r2, D :: ρ1.x⟩ H' acc av ∧
          Mi.mLcLoop g mt me st (Mi.wipe δ vs) (ds.drop (i + 1)) acc G2 = some (zs, Gz)), fun _ h => h, fun x H' hy => ?_⟩
        obtain ⟨gy, ry, dy⟩ := y.yld i ds[i] _ G2 H2 x H' (gf.trans w2) q2 hst (List.getElem?_eq_getElem hlt) hy
        have hDr : D ∉ r2 := (q2.xt D (List.mem_cons_self ..)).2
        -- growth under the list that is being filled, its content aside
        have lift : ∀ {r r' : List Addr} {Ha Hb : Hp}, D ∉ r → (∃ us, Ha D = some (.lst us)) → Gr ⟨r, D :: ρ1.x⟩ Ha ⟨r', D :: ρ1.x⟩ Hb → Gr ⟨r, D :: ρ1.x⟩ (upd Ha D (.lst [])) ⟨r', D :: ρ1.x⟩ (upd Hb D (.lst [])) := by
          intro r r' Ha Hb hr ⟨us, hu⟩ gg
          refine ⟨gg.pre, fun z hz => ?_, fun z o ho hz => ?_, fun z xs ho => ?_, fun z o u ho => ?_⟩
          · rcases gg.new z hz with q | q
            · exact .inl q
            · refine .inr ?_
              have hzD : z ≠ D := fun w => by rw [w, hu] at q; cases q
              rw [upd_ne hzD]
              exact q
          · by_cases hzD : z = D
            · subst hzD
              rw [upd_same] at ho ⊢
              exact ho
            · rw [upd_ne hzD] at ho ⊢
              exact gg.kp z o ho hz
          · have hzD : z ≠ D := fun w => by rw [w, upd_same] at ho; cases ho
            rw [upd_ne hzD] at ho ⊢
            exact gg.tu z xs ho
          · have hzD : z ≠ D := fun w => by rw [w, upd_same] at ho; cases ho
            rw [upd_ne hzD] at ho ⊢
            exact gg.fz z o u ho
        have keepD : ∀ {r r' : List Addr} {Ha Hb : Hp} {us : List V}, D ∉ r → Ha D = some (.lst us) → Gr ⟨r, D :: ρ1.x⟩ Ha ⟨r', D :: ρ1.x⟩ Hb → Hb D = some (.lst us) := fun hr hu gg => gg.kp D _ hu hr
        refine ⟨_, G2, Mi.wipe δ vs, ds[i], δ3, G3, ry, (sr2.gr gy).wipe vs, dy, eg, fun ρ3 σ3 H3 g3 r3 s3 l3 n3 => ⟨?_, ?_⟩⟩
        · refine wipe_eq (by rw [l3, L2.wipe_length]) (fun j hj => n3 j fun z => hj (hw j z)) (L2.wipe_length σ vs)
        obtain ⟨r3', x3⟩ := ρ3
        obtain rfl : x3 = D :: ρ1.x := g3.pre.2
        have gA := gy.trans g3
        have hD3 := keepD hDr hD2 gA
        have hDr3 : D ∉ r3' := (r3.xt D (List.mem_cons_self ..)).2
        split at el
        · rename_i G4 et
          refine ⟨_, G3, δ3, true, G4, r3, s3, et, fun ρ4 H4 g4 r4 => ?_⟩
          dsimp only
          rw [if_pos rfl]
          obtain ⟨r4', x4⟩ := ρ4
          obtain rfl : x4 = D :: ρ1.x := g4.pre.2
          split at el
          · rename_i yv G5 ey
            refine ⟨_, G4, δ3, yv, G5, r4, s3.gr g4, ey, fun v ρ5 H5 g5 r5 d5 => ?_⟩
            obtain ⟨r5', x5⟩ := ρ5
            obtain rfl : x5 = D :: ρ1.x := g5.pre.2
            have gB := (gA.trans g4).trans g5
            have hD5 := keepD hDr hD2 gB
            refine ⟨av, hD5, by rw [← (da.len), ← big_line]; exact hacc, _, by omega, rfl, hlt, r5', G5, acc ++ [yv], av ++ [v], ?_⟩
            obtain ⟨gm, rm⟩ := r5.more (av ++ [v]) (List.mem_cons_self ..) hD5
            refine ⟨?_, (w2.trans gB.w).trans gm, rm, upd_same, ((da.gr gB).gw gm).app (.cons (d5.gw gm) .nil), el⟩
            rw [upd_upd]
            exact g2.trans (lift hDr ⟨av, hD2⟩ gB)
          · cases el
        · rename_i G4 et
          refine ⟨_, G3, δ3, false, G4, r3, s3, et, fun ρ4 H4 g4 r4 => ?_⟩
          dsimp only
          rw [if_neg (fun z => Bool.false_ne_true z)]
          obtain ⟨r4', x4⟩ := ρ4
          obtain rfl : x4 = D :: ρ1.x := g4.pre.2
          have gB := gA.trans g4
          exact ⟨_, by omega, rfl, hlt, r4', G4, acc, av, g2.trans (lift hDr ⟨av, hD2⟩ gB), w2.trans gB.w, r4, keepD hDr hD2 gB, da.gr gB, el⟩
        · cases el
      · cases el
    · cases el
  · have ed : ds.drop i = [] := List.drop_eq_nil_of_le (by omega)
    rw [ed] at el
    unfold Mi.mLcLoop at el
    split at el
    · rename_i hst
      cases el
      have hi' : i = ds.length := by omega
      subst hi'
      refine .inl ⟨y.stop _ _ H2 (gf.trans w2) q2 hst, ?_⟩
      have hDr : D ∉ r2 := (q2.xt D (List.mem_cons_self ..)).2
      have e' := Option.some.inj e
      -- the growth from ahead of the list
      have base : ∀ r' : List Addr, (∃ t, r' = ρ1.r ++ t) → (∀ z ∈ r', z ∈ r2 ∨ z = D) → Gr ρ1 H1 ⟨r', ρ1.x⟩ H2 := fun r' hp hs => by
        refine ⟨⟨hp, rfl⟩, fun z hz => ?_, fun z o ho hz => ?_, fun z xs ho => ?_, fun z o u ho => ?_⟩
        · rcases hs z hz with q | q
          · rcases g2.new z q with w | w
            · exact .inl w
            · by_cases hzD : z = D
              · rw [hzD]; exact .inr hD
              · rw [upd_ne hzD] at w
                exact .inr w
          · rw [q]; exact .inr hD
        · have hzD : z ≠ D := ne_of_none ho hD
          have := g2.kp z o (by rw [upd_ne hzD]; exact ho) hz
          rw [upd_ne hzD] at this
          exact this
        · have hzD : z ≠ D := ne_of_none ho hD
          have := g2.tu z xs (by rw [upd_ne hzD]; exact ho)
          rw [upd_ne hzD] at this
          exact this
        · have hzD : z ≠ D := ne_of_none ho hD
          have := g2.fz z o u (by rw [upd_ne hzD]; exact ho)
          rw [upd_ne hzD] at this
          exact this
      obtain ⟨t2, ht2⟩ := g2.pre.1
      have ht2' : r2 = ρ1.r ++ t2 := ht2
      cases m with
      | false =>
        obtain ⟨gw, rw'⟩ := q2.full
        cases e'
        exact k _ ⟨r2, ρ1.x⟩ H2 (g1.trans (base r2 ⟨t2, ht2'⟩ fun z hz => .inl hz)) rw' (.fls hD2 ⟨hDr, nD⟩ (da.gw gw))
      | true =>
        obtain ⟨gw, rw'⟩ := q2.fullM nD hD2 da
        cases e'
        refine k _ ⟨r2 ++ [D], ρ1.x⟩ H2 (g1.trans (base (r2 ++ [D]) ⟨t2 ++ [D], by rw [ht2']; simp⟩ fun z hz => ?_)) rw' (.ref ?_)
        · rcases List.mem_append.mp hz with q | q
          · exact .inl q
          · exact .inr (by simpa using q)
        · show (r2 ++ [D])[Gz.length]? = some D
          have hl : r2.length = Gz.length := q2.len
          rw [← hl, List.getElem?_append_right (Nat.le_refl _)]
          simp
    · cases el
theorem m_lc (m : Bool) {elt it : Expr} {ifs : List Expr} {scope : Scope} {own : List (Str × Nat)} {mi : MI} {g : MG} {mt : MT} {ws : List Nat} (hc : X.calm = true) (hN : X.N.Nodup) (hi : PI X tg it (tI X.K kx mi)) (ok : BlkOk X.N X.env.scope scope own) (hw : ∀ i ∈ ws, i ∈ own.map (·.2))
    (hg : ∀ (s : Shared) (H : Hp) (C : Addr) (cl : List (Str × Addr)) (fp : List Addr), PG (X.blk s H scope (compEnvC scope cl C X.env) fp) tg (tG X.K kx ws g)) (ht : ∀ (s : Shared) (H : Hp) (C : Addr) (cl : List (Str × Addr)) (fp : List Addr), PTs (X.blk s H scope (compEnvC scope cl C X.env) fp) ifs (tMT X.K kx mt))
    (he : ∀ (s : Shared) (H : Hp) (C : Addr) (cl : List (Str × Addr)) (fp : List Addr), PE (X.blk s H scope (compEnvC scope cl C X.env) fp) elt (tM X.K kx me)) (hfs : ∀ x, foldedSetIterable it X.env x = pure x := by intro _; rfl) : PE X (.ListComp elt [⟨tg, it, ifs, 0⟩] scope pos) (tM X.K kx (Mi.mLc m mi g mt me (own.map (·.2)))) :=
  (pe_lc hc hN hi ok hg ht he (hs := hfs)).imp fun σ H Q h => lc_go hw h
theorem s_setLc (i : Nat) (m : Bool) {py spos : Pos} {elt it : Expr} {ifs : List Expr} {scope : Scope} {own : List (Str × Nat)} {mi : MI} {g : MG} {mt : MT} {ws : List Nat} (hc : X.calm = true) (hN : X.N.Nodup) (hy : X.N[i]? = some y) (hyl : X.env.scope.names.lookup y = some .local) (hsw : swapsWith (.ListComp elt [⟨tg, it, ifs, 0⟩] scope pos) (some (.Name y py)) spos.line X.env = pure true)
    (hi : PI X tg it (tI X.K kx mi)) (ok : BlkOk X.N X.env.scope scope own) (hw : ∀ i ∈ ws, i ∈ own.map (·.2))
    (hg : ∀ (s : Shared) (H : Hp) (C : Addr) (cl : List (Str × Addr)) (fp : List Addr), PG (X.blk s H scope (compEnvC scope cl C X.env) fp) tg (tG X.K kx ws g)) (ht : ∀ (s : Shared) (H : Hp) (C : Addr) (cl : List (Str × Addr)) (fp : List Addr), PTs (X.blk s H scope (compEnvC scope cl C X.env) fp) ifs (tMT X.K kx mt))
    (he : ∀ (s : Shared) (H : Hp) (C : Addr) (cl : List (Str × Addr)) (fp : List Addr), PE (X.blk s H scope (compEnvC scope cl C X.env) fp) elt (tM X.K kx me)) (hfs : ∀ x, foldedSetIterable it X.env x = pure x := by intro _; rfl) : PS X (.Assign [.Name y py] (.ListComp elt [⟨tg, it, ifs, 0⟩] scope pos) spos) (sM X.K kx (Mi.mAsg (Mi.mLc m mi g mt me (own.map (·.2))) (Mi.gNm i))) :=
  (ps_setLc (i := i) hc hN hy hyl hsw hi ok hg ht he (hs := hfs)).imp fun D σ H ⟨ρ, G, δ, f, δ', G', rl, sr, e, k⟩ => by
  unfold Mi.mAsg at e
  split at e
  · rename_i d G1 e1
    cases e
    exact lc_go hw ⟨ρ, G, δ, d, _, rl, sr, e1, fun v ρ1 H1 g1 r1 d1 => k ρ1 _ H1 g1 r1 ((sr.gr g1).set i d1)⟩
  · cases e
end
end Ms

/-! PyS6: a def by its body; own classes asked for; the law's end. -/
namespace Ms
open PySem L2 PyProof.Rows
open Mi (Dv MO Sto Sl Rs bnd ME MT MA MS MF Fl MG MGs MI)
/-- the slots at the entry -/
theorem sr_start {K : PySem.W.Frag} {ρ : Rh} {H : Hp} {ds : List Dv} {vs : List V} {N : List Str} {l : Nat} (r : DRs K ρ H ds vs) (hl : N.length = vs.length + l) : Sr K ρ H (ds.map some ++ List.replicate l none) (L2.start N vs) := by
  have e : N.length - vs.length = l := by omega
  unfold L2.start
  rw [e]
  refine ⟨by simp [r.len], fun i d h => ?_⟩
  by_cases hi : i < ds.length
  · rw [List.getElem?_append_left (by simpa using hi), List.getElem?_map] at h
    cases ed : ds[i]? with
    | none => rw [ed] at h; cases h
    | some d' =>
      rw [ed] at h
      cases h
      obtain ⟨v, hv, dv⟩ := r.get ed
      refine ⟨v, ?_, dv⟩
      have hi2 : i < vs.length := by rw [← r.len]; exact hi
      rw [List.getElem?_append_left (by simpa using hi2), List.getElem?_map, hv] <;> rfl
  · rw [List.getElem?_append_right (by simpa using hi), List.getElem?_replicate] at h
    split at h <;> cases h
/-- a body that has ended is what the caller was promised -/
theorem told_end {CX : CXT} {P : Program} {w : World} {K : PySem.W.Frag} {mg : Str → Option Value} {base : Heap} {N : List Str} {qual : Str} {sc : Scope} {f : Addr} {cdv : Value} {A : Around} {outer : List Env} {s : Shared} {H : Hp} {E : XK} {Q : VK} :
    ∀ (fl : Flow) (s' : Shared), SP (cxOf CX P w K mg base N qual sc f cdv A outer s H E) [] { nx := fun _ H' => Q .non H', rt := Q } fl s' → CR CX outer P w H s Q E (.ok (.ret (match fl with | .ret v => v | _ => .none))) s'
  | .ret _, _, ⟨v, _, H', J, rv, qv⟩ => ⟨v, H', J.os, J.bare, J.base, J.hok, rv, qv⟩
  | .next, _, ⟨_, H', J, qv⟩ => ⟨V.non, H', J.os, J.bare, J.base, J.hok, rfl, qv⟩
  | .brk, _, ⟨_, _, _, no⟩ => no.elim
  | .cont, _, ⟨_, _, _, no⟩ => no.elim
/-- a def of the text is entered: its body runs from the start's slots (the library's call_fn, over the layer) -/
theorem entered {CX : CXT} {P : Program} {w : World} {K : PySem.W.Frag} {mg : Str → Option Value} {base : Heap} {k : Nat} {x qual : Str} {st : Stmt} {f : Addr} {fd : FuncData} {N ps : List Str} {A : Around} {outer : List Env} {s : Shared} {H : Hp} {args : Args} {us : List Value} {vs : List V} {Q : VK} {E : XK} {t : TS}
    (F : Fun K x qual st f fd) (S : FnScope N ps (defScope st)) (hr : Room (k + 1) A) (env : Env0 P w K mg base A outer s H) (hb : BindsTo s fd args (ps.zip us)) (r : Vals vs us) (hl : vs.length = ps.length)
    (body : ∀ cdv, Room k (A.deeper (envOfC qual (defScope st) s.heap.objs.size f cdv)) → PSs (cxOf CX P w K mg base N qual (defScope st) f cdv A outer s H E) (defBody st) t)
    (want : t { nx := fun _ H' => Q .non H', rt := Q } (L2.start N vs) H) : codeAny (model P w) A (.call (.ref f) args) (CR CX outer P w H s Q E) s := by
  have ⟨_, _, _, _, _, _, cdv, _, _, fd_is, there, named⟩ := F.ex
  subst fd_is
  have old : ∀ b o, base.get? b = some o → s.heap.get? b = some o := fun b o e => (env.bs b o e).1
  refine Att.call_fn (env.mod.kin.keeps old) (env.mod.nolimit.keeps old) there named hr.depth hb ?_ (fun s1 x => ?_) S.co S.gen S.kind
  · refine List.all_eq_true.mpr fun y hy => ?_
    rcases S.par y.1 (List.of_mem_zip (show (y.1, y.2) ∈ ps.zip us from hy)).1 with q | q <;> rw [q] <;> rfl
  · exact wpAny_mono ((body cdv (hr.deeper _)).run [] s1 _ H _ (inv_start S hr.hd env hl r x) want) told_end fun _ _ out => out
/-- a mirror's def asks for so many arguments, and is its body's end -/
theorem def_args {n l : Nat} {mb : MS} {ds : List Dv} {G : Sto} {r : Dv × Sto} (e : Mi.mDef n l mb ds G = some r) : ds.length = n := by
  unfold Mi.mDef at e
  exact Decidable.byContradiction fun z => by rw [if_neg z] at e; cases e
theorem def_body {n l : Nat} {mb : MS} {ds : List Dv} {G G' : Sto} {d : Dv} (e : Mi.mDef n l mb ds G = some (d, G')) : ∃ fl δ', mb (ds.map some ++ List.replicate l none) G = some (fl, δ', G') ∧ (fl = .nx ∧ d = .non ∨ fl = .rt d) := by
  have z := def_args e
  unfold Mi.mDef at e
  rw [if_pos z] at e
  split at e
  · rename_i δ' G2 eb
    cases e
    exact ⟨_, δ', eb, .inl ⟨rfl, rfl⟩⟩
  · rename_i d2 δ' G2 eb
    cases e
    exact ⟨_, δ', eb, .inr rfl⟩
  · cases e
/-- a def (or method) of the text does what its mirror does, if its body does -/
theorem fn_m {P : Program} {w : World} {K : PySem.W.Frag} {kx : Kx} {mg : Str → Option Value} {base : Heap} {k l : Nat} {x qual : Str} {st : Stmt} {f : Addr} {fd : FuncData} {N ps : List Str} {mb : MS} (F : Fun K x qual st f fd) (S : FnScope N ps (defScope st)) (hN : N.length = ps.length + l)
    (hbody : ∀ (cdv : Value) (A : Around) (outer : List Env) (s : Shared) (H : Hp) (E : XK), Room k (A.deeper (envOfC qual (defScope st) s.heap.objs.size f cdv)) → A.guards = some [] →
      PSs (cxOf CX0 P w K mg base N qual (defScope st) f cdv A outer s H E).nox (defBody st) (sM K kx mb)) :
    FnM P w K kx mg base (k + 1) f fd ps (Mi.mDef ps.length l mb) := by
  refine ⟨fun _ _ _ e => def_args e, fun A outer s H args us vs Q ρ G ds d G' quiet hr env hb r rl dr e q => ?_⟩
  have hl : vs.length = ps.length := dr.len ▸ def_args e
  obtain ⟨fl, δ', eb, out⟩ := def_body e
  refine entered F S hr env hb r hl (fun cdv deep => (hbody cdv A outer s H E0 deep quiet).nox) ⟨ρ, G, _, fl, δ', G', rl, sr_start dr (by rw [hN, hl]), eb, fun ρ' σ' H' g r' _ => ?_⟩
  rcases out with ⟨rfl, rfl⟩ | rfl
  · exact q _ ρ' H' g r' .non
  · exact fun v dv => q v ρ' H' g r' dv
/-! ### isinstance(x, C), C an own class, x of it -/
def mIsC (cn : Nat) (a : ME) : ME := Mi.m1 (fun x G => match x with
  | .ref h => match G[h]? with
    | some (.ins c _) => if c = cn then some (.bl true, G) else none
    | _ => none
  | _ => none) a
theorem m_isC {X : Cx} {kx : Kx} {a : Expr} {ma : ME} {pos : Pos} {cn : Nat} {y : Str} {p p2 : Pos} (c : C8.InsC X.K (kx.ca cn)) (hm : X.mg "isinstance" = none) (hmC : X.mg y = some (.ref (kx.ca cn))) (ha : PE X a (tM X.K kx ma))
    (hg : Gl X "isinstance" := by rfl) (hgC : Gl X y := by rfl) (hdy : (y == ("__debug__" : Str)) = false := by decide)
    (he : starEach [a, .Name y p2] X.env = (false, eval a X.env) :: starEach [.Name y p2] X.env := by rfl) (hpl : (backTo pos (starEach [.Name y p2] X.env)).any (·.1) = false := by rfl) (hs : starEach [.Name y p2] X.env = (false, eval (.Name y p2) X.env) :: starEach [] X.env := by rfl) :
    PE X (.Call (.Name "isinstance" p) [a, .Name y p2] [] pos) (tM X.K kx (mIsC cn ma)) := by
  refine (pe_callB (C8.call_isC c) hg hm (by decide +kernel) (pa_cons ha (pa_cons (pe_glob hgC hmC (v := .ref (kx.ca cn)) rfl hdy) pa_nil hs) he) (by decide) (by decide) he hpl).imp fun σ H Q ⟨ρ, G, δ, d, G', rl, sr, em, k⟩ => ?_
  obtain ⟨x, G1, e1, e⟩ := Mi.bnd_eq em
  refine ⟨ρ, G, δ, x, G1, rl, sr, e1, fun v ρ1 H1 g1 r1 d1 => ?_⟩
  cases x with
  | ref h =>
    dsimp only at e
    cases d1 with
    | @ref _ ad ea =>
      split at e
      · rename_i c' fs eh
        split at e
        · rename_i hc
          subst hc
          obtain ⟨dx, fs', h1, fr⟩ := ins_at r1 eh ea
          have e' := Option.some.inj e
          cases e'
          exact ⟨ad, dx, fs', rfl, h1, k _ ρ1 H1 g1 r1 (.bl true)⟩
        · exact absurd e (fun z => nomatch z)
      · exact absurd e (fun z => nomatch z)
  | _ => exact absurd e (fun z => nomatch z)

/-! ### the law's end -/
/-- what the top holds beside: tuples of ints -/
structure Held (K : PySem.W.Frag) (h : Heap) (ts : List (Addr × List Int)) : Prop where
  at_ : ∀ p ∈ ts, ∃ (o : Obj) (its : Array Value) (n : Nat), h.get? p.1 = some o ∧ o.cls = .type "tuple" ∧ o.data = .seq its n ∧ its.size ≤ sizeLine ∧ Vals (p.2.map V.int) its.toList
/-- True, and all that stood there ahead stands as it did -/
def SaysTrue (s : Shared) (r : Result) (s' : Shared) : Prop := r = .ok (.ret (.bool true)) ∧ OldK s.heap s'.heap ∧ s'.os = s.os ∧ AllBare s'.gens
/-- the law's call has said True, and all that it was given stands still: nothing old has changed -/
theorem said_true {P : Program} {w : World} {H : Hp} {s : Shared} (held : HOk P w H s.heap) (still : ∀ b u, H b = some u → ∃ ob y, u = .frz ob y) :
    ∀ (r : Result) (s' : Shared), CR CX0 [] P w H s (fun v _ => v = V.bl true) E0 r s' → SaysTrue s r s' := by
  have value : ∀ (u : Value) (s' : Shared), CE [] P w H s (fun v _ => v = V.bl true) u s' → u = .bool true ∧ OldK s.heap s'.heap ∧ s'.os = s.os ∧ AllBare s'.gens := by
    intro u s' told
    have ⟨v, H', same_os, no_gens, un, held', rv, said⟩ := told
    have ev : v = V.bl true := said
    refine ⟨by rw [ev] at rv; exact rv, OldK.of_keep fun b o there => ?_, same_os, no_gens⟩
    by_cases z : H b = none
    · exact un.keep b o there z List.not_mem_nil List.not_mem_nil
    · obtain ⟨y, eH⟩ := Option.ne_none_iff_exists'.mp z
      obtain ⟨ob, z, ey⟩ := still b y eH
      rw [ey] at eH
      have was := (held b _ eH).1
      have is := (held' b _ (un.frzs b ob z eH)).1
      exact is.trans (was.symm.trans there)
  intro r s' told
  match r, told with
  | .ok (.ret u), told =>
    obtain ⟨eu, rest⟩ := value u s' told
    exact ⟨by rw [eu], rest⟩
/-- all numbers of a script are whole: the promise of the law's def -/
theorem law_m {P : Program} {w : World} {K : PySem.W.Frag} {mg mb : Str → Option Value} {k : Nat} {fa a : Addr} {fd : FuncData} {x : Str} {kx : Kx} {mf : MF} {s₁ : Shared} {vs : List Value} {ns : List Int} {G' : Sto} {ts : List (Addr × List Int)}
    (kin : K.In s₁.heap) (hns : s₁.heap.Ns mainGlobals mg) (hb : s₁.heap.Ns builtinsNs mb) (hbb : ∀ x : Str, x ≠ "__name__" → mb x = bootBuiltins x) (nol : s₁.heap.NoLimit) (hg : s₁.gens = #[])
    (ha : s₁.heap.get? a = some { cls := .type "list", data := .seq vs.toArray }) (hi : IntsAre vs ns) (hl : ns.length ≤ sizeLine) (hr : Room k callerA) (hT : Held K s₁.heap ts)
    (hcs : kx.cs = ts.map fun p => (V.ref p.1, Dv.tup (p.2.map Dv.int)))
    (F : ∀ base : Heap, K.In base → base.Ns mainGlobals mg → FnM P w K kx mg base k fa fd [x] mf) (hbind : ∀ (s : Shared) (u : Value), BindsTo s fd ⟨[u], []⟩ [(x, u)])
    (run : mf [.scr ns] [] = some (.bl true, G')) :
    codeAny (model P w) callerA (.call (.ref fa) ⟨[.ref a], []⟩) (SaysTrue s₁) s₁ := by
  classical
  have rv := vals_ints hi
  have lenV := hi.length
  -- what is tracked: the script and the held tuples, where K does not hold them
  let TH : Addr → HO → Prop := fun b u => K.lookup b = none ∧ ((b = a ∧ u = .frz { cls := .type "list", data := .seq vs.toArray } (.lst (ns.map V.int))) ∨ ∃ p ∈ ts, p.1 = b ∧ ∃ o, s₁.heap.get? b = some o ∧ u = .frz o (.tup (p.2.map V.int)))
  have one : ∀ {b u u'}, TH b u → TH b u' → u = u' := by
    rintro b u u' ⟨_, c⟩ ⟨_, c'⟩
    rcases c with ⟨rfl, rfl⟩ | ⟨p, hp, ep, o, eo, rfl⟩ <;> rcases c' with ⟨eb, rfl⟩ | ⟨p', hp', ep', o', eo', rfl⟩
    · rfl
    · obtain ⟨o2, its, n, e1, e2, _⟩ := hT.at_ p' hp'
      rw [ep', ha] at e1
      cases e1
      exact absurd (show Value.type "list" = Value.type "tuple" from e2) (by decide)
    · obtain ⟨o2, its, n, e1, e2, _⟩ := hT.at_ p hp
      rw [ep, eb, ha] at e1
      cases e1
      exact absurd (show Value.type "list" = Value.type "tuple" from e2) (by decide)
    · obtain ⟨o1, its, n, e1, _, d1, _, v1⟩ := hT.at_ p hp
      obtain ⟨o2, its', n', e2, _, d2, _, v2⟩ := hT.at_ p' hp'
      rw [ep] at e1
      rw [ep'] at e2
      rw [eo] at e1 eo'
      cases e1
      cases eo'
      rw [eo] at e2
      cases e2
      rw [d1] at d2
      cases d2
      have i1 : IntsAre its.toList p.2 := Vals.ints v1
      have i2 : IntsAre its.toList p'.2 := Vals.ints v2
      have : p.2 = p'.2 := by rw [← i1.numsOf, ← i2.numsOf]
      rw [this]
  let H : Hp := fun b => if z : ∃ u, TH b u then some z.choose else none
  have Hs : ∀ {b u}, TH b u → H b = some u := fun {b u} t => by
    have z : ∃ u, TH b u := ⟨u, t⟩
    show (if z : ∃ u, TH b u then some z.choose else none) = some u
    rw [dif_pos z, one z.choose_spec t]
  have Ht : ∀ {b u}, H b = some u → TH b u := fun {b u} e => by
    have e' : (if z : ∃ u, TH b u then some z.choose else none) = some u := e
    split at e'
    · rename_i z
      cases e'
      exact z.choose_spec
    · cases e'
  have hok : HOk P w H s₁.heap := fun b u e => by
    obtain ⟨_, c⟩ := Ht e
    rcases c with ⟨rfl, rfl⟩ | ⟨p, hp, rfl, o, eo, rfl⟩
    · exact ⟨ha, by rw [List.length_map]; exact hl, vs, _, rv, ha⟩
    · obtain ⟨o2, its, n, e1, e2, d2, sz, v2⟩ := hT.at_ p hp
      rw [eo] at e1
      cases e1
      refine ⟨eo, ?_, its.toList, v2, ?_⟩
      · rw [v2.length, Array.length_toList]
        exact sz
      · exact ⟨o, eo, e2, n, d2⟩
  have hnK : ∀ b o, K.lookup b = some o → H b = none := fun b o e => by
    cases q : H b with
    | none => rfl
    | some u =>
      have := (Ht q).1
      rw [this] at e
      cases e
  have nodict : ∀ {b : Addr} {o : Obj} {es : Array DictEntry} {ep : Nat}, s₁.heap.get? b = some o → o.data = .dict es ep → H b = none := fun {b o es ep} e d => by
    cases q : H b with
    | none => rfl
    | some u =>
      obtain ⟨_, c⟩ := Ht q
      rcases c with ⟨rfl, rfl⟩ | ⟨p, hp, rfl, o', eo, rfl⟩
      · rw [ha] at e
        cases e
        exact absurd (show Data.seq vs.toArray _ = Data.dict es ep from d) (fun z => nomatch z)
      · obtain ⟨o2, its, n, e1, _, d2, _⟩ := hT.at_ p hp
        rw [e] at e1
        cases e1
        rw [d] at d2
        cases d2
  have ob : ∀ {b : Addr} {o : Obj}, s₁.heap.get? b = some o → H b = none → (hidT s₁.heap H).get? b = some o := fun e n => hidT_get e n
  have nsK : ∀ {b : Addr} {m : Str → Option Value}, s₁.heap.Ns b m → (hidT s₁.heap H).Ns b m := fun {b m} ⟨o, es, ep, e, d, r⟩ => ⟨o, es, ep, ob e (nodict e d), d, r⟩
  have kinb : K.In (hidT s₁.heap H) := fun b o e => ob (kin b o e) (hnK b o e)
  have hM : Mod K mg (hidT s₁.heap H) := ⟨kinb, nsK hns, ⟨mb, nsK hb, hbb⟩, let ⟨mc, h1, h2⟩ := nol; ⟨mc, nsK h1, h2⟩⟩
  have e0 : Env0 P w K mg (hidT s₁.heap H) callerA [] s₁ H :=
    ⟨rfl, hM, fun b o e => of_hidT e, Nat.le_of_eq (hidT_size _ _), trivial, fun b hb => absurd (show b ∈ ([] : List Addr) from hb) (by simp), hok, .of_eq hg⟩
  have dints : ∀ (ρ : Rh) (ms : List Int), DRs K ρ H (ms.map Dv.int) (ms.map V.int) := fun ρ ms => by
    induction ms with
    | nil => exact .nil
    | cons m ms ih => exact .cons (.int m) ih
  have rl : Rl K kx ⟨[], []⟩ [] H := by
    refine ⟨rfl, List.nodup_nil, fun h o e => by simp at e, fun q hq => ?_, fun b hb => by simp at hb⟩
    rw [hcs] at hq
    have ⟨p, hp, ep⟩ := List.mem_map.mp hq
    subst ep
    refine .tup ?_ (dints _ p.2)
    obtain ⟨o, its, n, e1, e2, d2, sz, v2⟩ := hT.at_ p hp
    cases hk : K.lookup p.1 with
    | none => exact .inl (.inr ⟨o, Hs ⟨hk, .inr ⟨p, hp, rfl, o, e1, rfl⟩⟩⟩)
    | some o' =>
      have e3 := kin _ _ hk
      rw [e1] at e3
      cases e3
      exact .inr ⟨o, its, n, hk, e2, d2, sz, v2⟩
  have sc : DR K ⟨[], []⟩ H (.scr ns) (.ref a) := by
    refine .scr ?_
    cases hk : K.lookup a with
    | none => exact .inl ⟨_, Hs ⟨hk, .inl ⟨rfl, rfl⟩⟩⟩
    | some o =>
      have e3 := kin _ _ hk
      rw [ha] at e3
      cases e3
      exact .inr ⟨_, vs.toArray, _, hk, rfl, rfl, rfl, by rw [List.size_toArray, lenV]; exact hl, by simpa using rv⟩
  have still : ∀ b u, H b = some u → ∃ ob y, u = .frz ob y := fun b u e => by
    rcases (Ht e).2 with ⟨_, z⟩ | ⟨_, _, _, _, _, z⟩ <;> exact ⟨_, _, z⟩
  exact codeAny_mono ((F _ kinb (nsK hns)).run callerA [] s₁ H ⟨[.ref a], []⟩ [.ref a] [.ref a] (fun v _ => v = .bl true) ⟨[], []⟩ [] [.scr ns] _ G' rfl hr e0 (hbind s₁ (.ref a)) (.cons rfl .nil) rl (.cons sc .nil) run fun v ρ' H' g r d => by cases d; rfl) (said_true hok still)
/-- a loose name that is a number, a tuple of numbers -/
theorem loose_int {lv : List (Str × PySem.W.WData)} {mg : Str → Option Value} {h : Heap} {x : Str} {i : Int} (L : PySem.W.LooseAre lv mg h) (e : lv.lookup x = some (.int i)) : ∃ t, mg x = some (.int i t) := by
  obtain ⟨v, h1, h2⟩ := L.val _ (PySem.W.mem_lookup e)
  cases h2
  exact ⟨_, h1⟩
theorem reads_ints {h : Heap} : ∀ {vs : List Value} {ns : List Int} {as : List Addr}, PySem.W.ReadsAllW [] (fun _ => none) h vs (ns.map PySem.W.WData.int) as → Vals (ns.map V.int) vs
  | [], [], _, _ => .nil
  | _ :: _, [], _, z => nomatch z
  | [], _ :: _, _, z => nomatch z
  | v :: vs, n :: ns, as, r => by
    rw [List.map_cons] at r
    cases r with
    | cons r1 r2 =>
      cases r1
      exact .cons ⟨_, rfl⟩ (reads_ints r2)
theorem loose_tup {K : PySem.W.Frag} {lv : List (Str × PySem.W.WData)} {mg : Str → Option Value} {h : Heap} {x : Str} {ns : List Int} (L : PySem.W.LooseAre lv mg h) (e : lv.lookup x = some (.tuple (ns.map PySem.W.WData.int))) (hz : ns.length ≤ sizeLine) :
    ∃ t, mg x = some (.ref t) ∧ Held K h [(t, ns)] := by
  obtain ⟨v, h1, h2⟩ := L.val _ (PySem.W.mem_lookup e)
  have e2 : ∀ d, d = PySem.W.WData.tuple (ns.map PySem.W.WData.int) → PySem.W.ReadsLit h v d [] → ∃ t, v = .ref t ∧ Held K h [(t, ns)] := by
    intro d hd r
    cases r <;> first | cases hd | skip
    rename_i a o vs n g1 g2 g3 g4
    have q := reads_ints g4
    refine ⟨a, rfl, ⟨fun p hp => ?_⟩⟩
    obtain rfl : p = (a, ns) := by simpa using hp
    refine ⟨o, vs, n, g1, g2, g3, ?_, q⟩
    have := q.length
    rw [List.length_map] at this
    rw [← Array.length_toList, ← this]
    exact hz
  obtain ⟨t, rfl, ht⟩ := e2 _ rfl h2
  exact ⟨t, h1, ht⟩
/-- the goal that k_head leaves -/
theorem walk_m {l : PySem.W.OpenLaw} {n k : Nat} {q : Program} {lq : Program} {loose : List Str} {lv : List (Str × PySem.W.WData)} {YP : World → Heap → Prop} {d : DefRec} {K : Params → PySem.W.Frag} {x : Str} {mf : MF}
    (hn : l.most = some n) (hn2 : n ≤ sizeLine) (hdf : d.params.defaults = []) (hr : Room k callerA) (hY : ∀ w h, YP w h → (K w.params).In h)
    (F : ∀ (w : World) (mg : Str → Option Value) (fa : Addr) (h : Heap), (K w.params).In h → h.Ns mainGlobals mg → mg d.name = some (.ref fa) → PySem.W.LooseAre lv mg h →
      ∃ (fd : FuncData) (kx : Kx) (ts : List (Addr × List Int)), Held (K w.params) h ts ∧ (kx.cs = ts.map fun p => (V.ref p.1, Dv.tup (p.2.map Dv.int))) ∧ (∀ (s : Shared) (u : Value), BindsTo s fd ⟨[u], []⟩ [(x, u)]) ∧
        ∀ base : Heap, (K w.params).In base → base.Ns mainGlobals mg → FnM l.prog w (K w.params) kx mg base k fa fd [x] mf)
    (run : ∀ ns : List Int, ns.length ≤ n → ∃ G', mf [.scr ns] [] = some (.bl true, G')) :
    PySem.W.WalkO q loose (PySem.W.XL lq lv) YP l.row.toRowW d [] (fun f vs => PySem.call f vs) := by
  refine Att.attach_call hn hdf ?_
  intro w s₀ s₁ mg mb fa _ _ _ _ _ _ ns top Y _ _ _ law_is script nums few quiet
  obtain ⟨fd, kx, ts, hT, hcs, hb, hF⟩ := F w mg fa _ (hY w _ Y) top.T.g law_is top.X.2
  have ⟨G', e⟩ := run ns few
  exact law_m (hY w _ Y) top.T.g top.T.b top.T.builtins top.T.nolimit quiet script nums (Nat.le_trans few hn2) hr hT hcs hF hb e
end Ms

/-! PyS7: what the top has left, in bundles; calls by them. -/
namespace Ms
open PySem L2 PyProof.Rows
open Mi (Dv MO Sto Sl Rs bnd ME MT MA MS MF Fl MG MGs MI)
/-- a def of the module stands under its name -/
structure Dfn (K : PySem.W.Frag) (mg : Str → Option Value) (x : Str) (st : Stmt) : Prop where
  ex : ∃ f fd, Fun K x x st f fd ∧ mg x = some (.ref f)
/-- a method m of the own class at C -/
structure Dfm (K : PySem.W.Frag) (C : Addr) (m qual : Str) (st : Stmt) : Prop where
  ex : ∃ f fd, Fun K m qual st f fd ∧ Meth K C m f
/-- the making of the class at C -/
structure Dfk (K : PySem.W.Frag) (mg : Str → Option Value) (C : Addr) (x qual : Str) (st : Stmt) : Prop where
  ex : ∃ f fd, Fun K "__init__" qual st f fd ∧ Mk K C f ∧ mg x = some (.ref C)
/-- the same with what they do -/
structure Cal (P : Program) (w : World) (K : PySem.W.Frag) (kx : Kx) (mg : Str → Option Value) (base : Heap) (k : Nat) (x : Str) (st : Stmt) (ps : List Str) (mf : MF) : Prop where
  ex : ∃ f fd, Fun K x x st f fd ∧ mg x = some (.ref f) ∧ FnM P w K kx mg base k f fd ps mf ∧ Binds K fd ps []
structure Met (P : Program) (w : World) (K : PySem.W.Frag) (kx : Kx) (mg : Str → Option Value) (base : Heap) (k cn : Nat) (m qual : Str) (st : Stmt) (ps : List Str) (mf : MF) : Prop where
  ex : ∃ f fd, Fun K m qual st f fd ∧ Cls K (kx.ca cn) ∧ Meth K (kx.ca cn) m f ∧ FnM P w K kx mg base k f fd ps mf ∧ Binds K fd ps []
structure Mak (P : Program) (w : World) (K : PySem.W.Frag) (kx : Kx) (mg : Str → Option Value) (base : Heap) (k cn : Nat) (x qual : Str) (st : Stmt) (ps : List Str) (mf : MF) : Prop where
  ex : ∃ f fd, Fun K "__init__" qual st f fd ∧ Mk K (kx.ca cn) f ∧ FnM P w K kx mg base k f fd ps mf ∧ mg x = some (.ref (kx.ca cn)) ∧ Binds K fd ps []
/-- how the arguments bind: by position alone -/
abbrev Bp (x qual : Str) (st : Stmt) (ps : List Str) : Prop := ∀ (kV doc pm : Value) (an : Option Addr) (cdv ct : Value) (us : List Value), us.length = ps.length →
  bindArgs (PySem.W.fnOf x qual (defArgs st) (defBody st) (defScope st) .none kV doc pm an cdv ct) ⟨us, []⟩ = pure (ps.zip us)
/-- n by position, ks by name -/
abbrev Bk (x qual : Str) (st : Stmt) (ps ks : List Str) (n : Nat) (ix : List Nat) : Prop := ∀ (kV doc pm : Value) (an : Option Addr) (cdv ct : Value) (us ws : List Value), us.length = n → ws.length = ks.length →
  bindArgs (PySem.W.fnOf x qual (defArgs st) (defBody st) (defScope st) .none kV doc pm an cdv ct) ⟨us, ks.zip ws⟩ = pure (ps.zip (pickU ix (us ++ ws)))
theorem _root_.L2.Fun.kbm {K : PySem.W.Frag} {x qual : Str} {st : Stmt} {f : Addr} {fd : FuncData} {ps ks : List Str} {n : Nat} {ix : List Nat} (F : Fun K x qual st f fd) (h : Bk x qual st ps ks n ix) : KBm fd ps ks n ix := by
  have ⟨_, _, kV, doc, pm, an, cdv, ct, _, e, _, _⟩ := F.ex
  subst e
  exact fun s us ws h1 h2 => .of_eq (h kV doc pm an cdv ct us ws h1 h2)
section
variable {P : Program} {w : World} {K : PySem.W.Frag} {kx : Kx} {mg : Str → Option Value} {base : Heap} {k l cn : Nat} {x m qual : Str} {st : Stmt} {N ps : List Str} {mb : MS}
/-- what is shown of a body -/
abbrev Bdy (P : Program) (w : World) (K : PySem.W.Frag) (kx : Kx) (mg : Str → Option Value) (base : Heap) (k : Nat) (N : List Str) (qual : Str) (st : Stmt) (mb : MS) : Prop :=
  ∀ (f : Addr) (cdv : Value) (A : Around) (outer : List Env) (s : Shared) (H : Hp) (E : XK), Room k (A.deeper (envOfC qual (defScope st) s.heap.objs.size f cdv)) → A.guards = some [] →
    PSs (cxOf CX0 P w K mg base N qual (defScope st) f cdv A outer s H E).nox (defBody st) (sM K kx mb)
theorem cal_of (D : Dfn K mg x st) (S : FnScope N ps (defScope st)) (hN : N.length = ps.length + l) (hb : Bp x x st ps) (b : Bdy P w K kx mg base k N x st mb) : Cal P w K kx mg base (k + 1) x st ps (Mi.mDef ps.length l mb) := by
  obtain ⟨f, fd, F, hm⟩ := D.ex
  exact ⟨f, fd, F, hm, fn_m F S hN (b f), F.binds hb⟩
theorem met_of (c : Cls K (kx.ca cn)) (D : Dfm K (kx.ca cn) m qual st) (S : FnScope N ps (defScope st)) (hN : N.length = ps.length + l) (hb : Bp m qual st ps) (b : Bdy P w K kx mg base k N qual st mb) : Met P w K kx mg base (k + 1) cn m qual st ps (Mi.mDef ps.length l mb) := by
  obtain ⟨f, fd, F, hm⟩ := D.ex
  exact ⟨f, fd, F, c, hm, fn_m F S hN (b f), F.binds hb⟩
theorem mak_of (D : Dfk K mg (kx.ca cn) x qual st) (S : FnScope N ps (defScope st)) (hN : N.length = ps.length + l) (hb : Bp "__init__" qual st ps) (b : Bdy P w K kx mg base k N qual st mb) : Mak P w K kx mg base (k + 1) cn x qual st ps (Mi.mDef ps.length l mb) := by
  obtain ⟨f, fd, F, hk, hm⟩ := D.ex
  exact ⟨f, fd, F, hk, fn_m F S hN (b f), hm, F.binds hb⟩
end
section
variable {X : Cx} {kx : Kx} {e a b c o : Expr} {ma mb mc me mo : ME} {pos p apos : Pos} {rest es : List Expr} {mas mks : MA} {k cn : Nat} {st : Stmt} {ps : List Str} {mf : MF} {x qual : Str}
theorem m_cl (c : Cal X.prog X.w X.K kx X.mg X.base k x st ps mf) (hG : X.A.guards = some []) (hr : Room k X.A) (ha : PA X (e :: es) (tMA X.K kx mas)) (hg : Gl X x := by rfl)
    (hdb : (x == ("__debug__" : Str)) = false := by decide) (he : Es X e es := by rfl) (hpl : Np X pos es := by rfl) : PE X (.Call (.Name x p) (e :: es) [] pos) (tM X.K kx (Mi.mCall mf mas)) := by
  obtain ⟨f, fd, F, hm, G, b⟩ := c.ex
  exact m_call G hG hr hm F.kp b ha hg hdb he hpl
theorem m_cl0 (c : Cal X.prog X.w X.K kx X.mg X.base k x st ps mf) (hG : X.A.guards = some []) (hr : Room k X.A) (hg : Gl X x := by rfl) (hdb : (x == ("__debug__" : Str)) = false := by decide) : PE X (.Call (.Name x p) [] [] pos) (tM X.K kx (Mi.mCall mf Mi.mNil)) := by
  obtain ⟨f, fd, F, hm, G, b⟩ := c.ex
  exact m_call0 G hG hr hm F.kp b hg hdb
theorem m_clK0 {kws : List Keyword} {ks : List Str} {ix : List Nat} (c : Cal X.prog X.w X.K kx X.mg X.base k x st ps mf) (hG : X.A.guards = some []) (hr : Room k X.A) (hb : Bk x x st ps ks 0 ix) (hl : Len mks ks.length) (hkw : PK X kws (tMA X.K kx mks)) (hg : Gl X x := by rfl)
    (hall : Ka X pos kws := by rfl) (hks : Ks X pos kws ks := by rfl) (hdb : (x == ("__debug__" : Str)) = false := by decide)
    (hpl : ((backTo pos (starEach [] X.env)).any (·.1) || (backToKw pos (keywordEach kws X.env)).any (·.1.isNone)) = false := by rfl) : PE X (.Call (.Name x p) [] kws pos) (tM X.K kx (Mi.mCallK mf ix Mi.mNil mks)) := by
  obtain ⟨f, fd, F, hm, G, b⟩ := c.ex
  exact m_callK0 G hG hr hm F.kp (F.kbm hb) hl hkw hg hall hks hdb hpl
theorem m_clK {kws : List Keyword} {ks : List Str} {n : Nat} {ix : List Nat} (c : Cal X.prog X.w X.K kx X.mg X.base k x st ps mf) (hG : X.A.guards = some []) (hr : Room k X.A) (hb : Bk x x st ps ks n ix) (hl1 : Len mas n) (hl : Len mks ks.length) (ha : PA X (e :: es) (tMA X.K kx mas)) (hkw : PK X kws (tMA X.K kx mks)) (hg : Gl X x := by rfl)
    (hall : Ka X pos kws := by rfl) (hks : Ks X pos kws ks := by rfl) (hdb : (x == ("__debug__" : Str)) = false := by decide) (he : Es X e es := by rfl)
    (hpl : ((backTo pos (starEach (e :: es) X.env)).any (·.1) || (backToKw pos (keywordEach kws X.env)).any (·.1.isNone)) = false := by rfl) : PE X (.Call (.Name x p) (e :: es) kws pos) (tM X.K kx (Mi.mCallK mf ix mas mks)) := by
  obtain ⟨f, fd, F, hm, G, b⟩ := c.ex
  exact m_callK G hG hr hm F.kp (F.kbm hb) hl1 hl ha hkw hg hall hks hdb he hpl
theorem m_mt {m : String} {pl : Sem Bool} (c : Met X.prog X.w X.K kx X.mg X.base k cn (Str.ofString m) qual st ps mf) (hG : X.A.guards = some []) (hr : Room k X.A) (ho : PE X o (tM X.K kx mo)) (ha : PA X (e :: es) (tMA X.K kx mas))
    (hst : Es X e es := by rfl) (hpl : Np X pos es := by rfl)
    (ht : eval (.Call (.Attribute o (Str.ofString m) apos) (e :: es) [] pos) X.env = (do let ov ← eval o X.env; standAt apos.atName; let (f, first) ← holding [ov] (getMethod ov (Str.ofString m) pl); callWith pos f first (backTo pos (starEach (e :: es) X.env)) (backToKw pos (keywordEach [] X.env))) := by rfl) :
    PE X (.Call (.Attribute o (Str.ofString m) apos) (e :: es) [] pos) (tM X.K kx (Mi.mMeth cn m mf mo mas)) := by
  obtain ⟨f, fd, F, hc, hm, G, b⟩ := c.ex
  exact m_meth ho hc hm G hG hr b ha hst hpl ht
theorem m_mt0 {m : String} {pl : Sem Bool} (c : Met X.prog X.w X.K kx X.mg X.base k cn (Str.ofString m) qual st ps mf) (hG : X.A.guards = some []) (hr : Room k X.A) (ho : PE X o (tM X.K kx mo))
    (ht : eval (.Call (.Attribute o (Str.ofString m) apos) [] [] pos) X.env = (do let ov ← eval o X.env; standAt apos.atName; let (f, first) ← holding [ov] (getMethod ov (Str.ofString m) pl); callWith pos f first (backTo pos (starEach [] X.env)) (backToKw pos (keywordEach [] X.env))) := by rfl) :
    PE X (.Call (.Attribute o (Str.ofString m) apos) [] [] pos) (tM X.K kx (Mi.mMeth cn m mf mo Mi.mNil)) := by
  obtain ⟨f, fd, F, hc, hm, G, b⟩ := c.ex
  exact m_meth0 ho hc hm G hG hr b ht
theorem m_mtK0 {kws : List Keyword} {ks : List Str} {ix : List Nat} {m : String} {pl : Sem Bool} (c : Met X.prog X.w X.K kx X.mg X.base k cn (Str.ofString m) qual st ps mf) (hG : X.A.guards = some []) (hr : Room k X.A) (hb : Bk (Str.ofString m) qual st ps ks 1 ix) (hl : Len mks ks.length) (ho : PE X o (tM X.K kx mo)) (hkw : PK X kws (tMA X.K kx mks))
    (hall : Ka X pos kws := by rfl) (hks : Ks X pos kws ks := by rfl)
    (hpl : ((backTo pos (starEach [] X.env)).any (·.1) || (backToKw pos (keywordEach kws X.env)).any (·.1.isNone)) = false := by rfl)
    (ht : eval (.Call (.Attribute o (Str.ofString m) apos) [] kws pos) X.env = (do let ov ← eval o X.env; standAt apos.atName; let (f, first) ← holding [ov] (getMethod ov (Str.ofString m) pl); callWith pos f first (backTo pos (starEach [] X.env)) (backToKw pos (keywordEach kws X.env))) := by rfl) :
    PE X (.Call (.Attribute o (Str.ofString m) apos) [] kws pos) (tM X.K kx (Mi.mMethK cn m mf ix mo Mi.mNil mks)) := by
  obtain ⟨f, fd, F, hc, hm, G, b⟩ := c.ex
  exact m_methK0 ho hc hm G hG hr (F.kbm hb) hl hkw hall hks hpl ht
theorem m_mk (c : Mak X.prog X.w X.K kx X.mg X.base k cn x qual st ps mf) (hG : X.A.guards = some []) (hr : Room (k + 1) X.A) (ha : PA X (e :: es) (tMA X.K kx mas)) (hg : Gl X x := by rfl)
    (hdb : (x == ("__debug__" : Str)) = false := by decide) (he : Es X e es := by rfl) (hpl : Np X pos es := by rfl) : PE X (.Call (.Name x p) (e :: es) [] pos) (tM X.K kx (Mi.mMake cn mf mas)) := by
  obtain ⟨f, fd, F, hk, G, hm, b⟩ := c.ex
  exact m_make hk G hG hr hm b ha hg hdb he hpl
/-- a tuple that the top holds -/
theorem m_globT {d : Dv} (h : ∃ t, X.mg x = some (.ref t) ∧ (V.ref t, d) ∈ kx.cs) (hg : Gl X x := by rfl) (hd : (x == ("__debug__" : Str)) = false := by decide) : PE X (.Name x pos) (tM X.K kx (Mi.mC d)) := by
  obtain ⟨t, h1, h2⟩ := h
  exact m_glob (v := .ref t) h1 rfl h2 hg hd
end
theorem u1 {A : Around} {k : Nat} (h : Room k A) : A.units + 1 < cLine := by have := h.un; omega
theorem u64 {A : Around} {k : Nat} (h : Room k A) : A.units + 64 < cLine := by have := h.un; omega
end Ms

/-! PyTw: whatever hands out a new tuple at each turn (WalksT of the library) is something to be walked. -/
namespace Ms
open PySem L2 PyProof.Rows
/-- the new tuples' items at turn i are told by out -/
def ItW (go : Nat → Hp → Prop) (out : Nat → Hp → List V → Prop) (stop : Nat → Hp → Prop) : It where
  go := go
  yld := fun i H v H' => ∃ T xs, v = .ref T ∧ H T = none ∧ H' = upd H T (.tup xs) ∧ out i H xs
  stop := stop
/-- a walk of the library at hand: at turn i of n -/
structure AtW (P : Program) (w : World) (A : Around) (e : Addr) (ch : List Addr) (tn : Nat → Heap → Prop) (h : Heap) (i n : Nat) (Pt : Nat → Array Value → Prop) : Prop where
  ex : ∃ fp wr St Mid, WalksT P w A e fp wr n Pt St Mid ∧ (∀ b ∈ wr, b ∈ ch) ∧ St i h ∧ ∀ j h', St j h' → tn j h'
theorem turn_of_walks {P : Program} {w : World} {K : PySem.W.Frag} {elts : List Expr} {kk : Nat} {tpos : Pos} {e : Addr} {ch : List Addr} {go stop : Nat → Hp → Prop} {out : Nat → Hp → List V → Prop} {tn : Nat → Heap → Prop}
    (front : e ∈ ch) (plain : ∀ i h, tn i h → ∀ b ∈ ch, ∃ o, h.get? b = some o ∧ ∀ v, o.data ≠ .cell v) (stay : ∀ i h h', tn i h → (∀ b ∈ ch, ∀ o, h.get? b = some o → h'.get? b = some o) → tn i h')
    (again : ∀ (A : Around) (i : Nat) (s : Shared) (Q E : Value → Shared → Prop), tn i s.heap → Q (.ref e) s → wpAny (model P w) A (pyIter (.ref e)) Q E s)
    (goes : ∀ X : Cx, X.prog = P → X.w = w → X.K = K → X.A.in1.handled = none → ∀ i pins σ H s, Inv X pins σ H s → tn i s.heap → go i H →
      ∃ n Pt, AtW P w X.A e ch tn s.heap i n Pt ∧ i < n ∧ ∀ vals, Pt i vals → ∃ xs, out i H xs ∧ xs.length ≤ sizeLine ∧ Vals xs vals.toList)
    (ends : ∀ X : Cx, X.prog = P → X.w = w → X.K = K → X.A.in1.handled = none → ∀ i pins σ H s, Inv X pins σ H s → tn i s.heap → stop i H → ∃ Pt, AtW P w X.A e ch tn s.heap i i Pt) :
    Turn P w K (.Tuple elts kk tpos) (ItW go out stop) ch e tn := by
  refine ⟨front, plain, stay, ?turn, ?last, again⟩
  case turn =>
    intro X eP ew eK calm i pins s σ H E I own here g
    obtain ⟨n, Pt, ⟨fp, wr, St, Mid, W, sub, now, told⟩, lt, give⟩ := goes X eP ew eK (I.ok.hd calm) i pins σ H s I here g
    refine W.item i s _ _ lt now fun T vals h1 tk pt far tup mid k1 => ⟨.ref T, rfl, ?_⟩
    refine W.go elts kk tpos i T { s with heap := h1, toks := tk } _ _ mid fun h2 next k2 => ?_
    obtain ⟨xs, ho, short, read⟩ := give vals pt
    have tup2 : h2.IsTuple T vals := tup.at fun o q => k2 T o (W.apart i T h1 mid) q
    have kept : ∀ b o, b ∉ ch → s.heap.get? b = some o → h2.get? b = some o := fun b o nb q => k2 b o (fun z => nb (sub b z)) (k1 b o (fun z => nb (sub b z)) q)
    have J : Inv X pins σ (upd H T (.tup xs)) { s with heap := h2, toks := tk } := I.turnedNew kept own far ⟨short, vals.toList, read, tup2⟩
    refine ⟨.ref T, _, J, rfl, ⟨T, xs, rfl, I.hok.fresh far, rfl, ho⟩, told _ _ next, fun b hb => ?_⟩
    obtain ⟨o, there, _⟩ := plain i s.heap here b hb
    have ne : b ≠ T := fun z => Nat.lt_irrefl _ (Nat.lt_of_lt_of_le (z ▸ Heap.lt_size there) far)
    exact (upd_ne ne).trans (own b hb).1
  case last =>
    intro X eP ew eK calm i pins s σ H E I own here g
    obtain ⟨Pt, ⟨fp, wr, St, Mid, W, sub, now, told⟩⟩ := ends X eP ew eK (I.ok.hd calm) i pins σ H s I here g
    exact W.done s _ _ now fun h1 tk k => ⟨rfl, I.turnedL (fun b o nb q => k b o (fun z => nb (sub b z)) q) own⟩
/-- cells behind the end are nobody's -/
theorem fresh_ch {X : Cx} {pins : List (Addr × Obj)} {σ : L2.St} {H : Hp} {s : Shared} {ch : List Addr} (I : Inv X pins σ H s) (far : ∀ b ∈ ch, s.heap.objs.size ≤ b) : ∀ b ∈ ch, FpOk X pins H b :=
  fun b hb => I.fpOk (far b hb) (I.hok.fresh (far b hb))
theorem two_line : 2 ≤ sizeLine := by decide
/-- an item by its place -/
theorem item_at {α : Type} {xs : List α} {i : Nat} {x y : α} (hx : xs[i]? = some x) (hy : xs.toArray[i]? = some y) : y = x := by
  rw [List.getElem?_toArray, hx] at hy
  injection hy with q
  exact q.symm
end Ms

/-! PyS8: {} ; += ; max of a tuple whose items are one and the same. -/
namespace Ms
open PySem L2 PyProof.Rows
open Mi (Dv MO Sto Sl Rs bnd ME MT MA MS MF Fl MG MGs MI)
def mDct0 : ME := fun _ G => some (.ref G.length, G ++ [.dct []])
theorem m_dct0 {X : Cx} {kx : Kx} {pos : Pos} : PE X (.Dict [] [] pos) (tM X.K kx mDct0) := pe_dnewK.imp fun σ H Q ⟨ρ, G, δ, d, G', rl, sr, e, k⟩ => by
  cases e
  intro p hp
  obtain ⟨g, r⟩ := rl.grow (p := p) (o := .dK []) (m := .dct []) hp fun g => .dct upd_same .nil
  exact k _ _ _ g r (.ref (by rw [← rl.len]; show (ρ.r ++ [p])[ρ.r.length]? = some p; rw [List.getElem?_append_right (Nat.le_refl _)]; simp))
def bAddI : Mi.B2 := fun x y G => match x, y with
  | .int i, .int j => some (.int (i + j), G)
  | _, _ => none
theorem b_addI {X : Cx} {kx : Kx} : B2ok X kx bAddI (rI0 fun i j => .int (i + j)) := by
  intro x y G d G' ρ H v w Q e rl dx dy k
  unfold bAddI at e
  split at e
  · cases e
    cases dx
    cases dy
    exact ⟨_, _, rfl, rfl, k _ ρ H Gr.refl rl (.int _)⟩
  · cases e
theorem b_addR {X : Cx} {kx : Kx} : B2ok X kx bAddI rAdd := b_addI
theorem b_subR {X : Cx} {kx : Kx} : B2ok X kx Mi.bSub rSub := b_sub

open Classical in
/-- max(t): t's items are all the same tuple of whole numbers -/
noncomputable def fMaxT : List Dv → Sto → Rs Dv
  | [.tup (x :: xs)], G => if (∀ y ∈ xs, y = x) ∧ (∃ ns : List Int, x = .tup (ns.map Dv.int)) then some (x, G) else none
  | _, _ => none
def rMaxT (K : PySem.W.Frag) : List V → Hp → VK → Prop := fun xs H Q => ∃ (a : Addr) (y : V) (ys : List V) (ns : List Int), xs = [.ref a] ∧ SqT K H a (y :: ys) ∧ (∀ z ∈ y :: ys, ∃ t, z = .ref t ∧ SqT K H t (ns.map V.int)) ∧ Q y H
theorem lex_flat (r : Nat → Bool) : ∀ (k i : Nat), Ob.lexAt (fun _ => true) r false i k = false
  | 0, _ => rfl
  | k + 1, i => by rw [Ob.lexAt_succ, if_pos rfl]; exact lex_flat r k (i + 1)
/-- > of two tuples with the same whole numbers: false (the library's order of tuples, item by item) -/
theorem same_gt {prog : Program} {w : World} {A : Around} {s : Shared} {t t' : Addr} {xs xs' : Array Value} {ns : List Int} {Q E : Value → Shared → Prop} (p : s.heap.IsTuple t xs) (p' : s.heap.IsTuple t' xs') (z : IntsAre xs.toList ns) (z' : IntsAre xs'.toList ns) (hu : A.units < cLine) (q : Q (.bool false) s) :
    wpAny (model prog w) A (richCompare .Gt (.ref t) (.ref t')) Q E s := by
  have l : xs.size = ns.length := by rw [← z.length, Array.length_toList]
  have l' : xs'.size = ns.length := by rw [← z'.length, Array.length_toList]
  have c := Ob.RcOp.tuples_gt (A := A) (s := s) (e := fun _ => true) (r := fun _ => false) p p' hu (fun j h1 h2 => by
    obtain ⟨t1, e1⟩ := PyProof.Rows.IntsAre.int_at z j xs[j] (by simp [Array.getElem?_eq_getElem h1])
    obtain ⟨t2, e2⟩ := PyProof.Rows.IntsAre.int_at z' j xs'[j] (by simp [Array.getElem?_eq_getElem h2])
    rw [e1, e2]
    have both : (ns.getD j 0 == ns.getD j 0) = true := beq_self_eq_true _
    rw [← both]
    exact SeqAt.EqAt.int_int _ _ _ _) (fun j h1 h2 no => nomatch no)
  rw [l, l', show decide (ns.length > ns.length) = false from decide_eq_false (Nat.lt_irrefl _), lex_flat] at c
  exact c _ _ _ _ q
theorem first_best : ∀ k, argBest (fun _ _ => false) k = 0
  | 0 => rfl
  | k + 1 => by rw [argBest]; exact first_best k
theorem cr_maxT {X : Cx} {k : Nat} (hc : X.calm = true) (hr : Room k X.A) : CallR X (.builtin "max") (rMaxT X.K) := by
  rintro pins s σ H _ us Q I r ⟨a, y, ys, ns, rfl, ha, hall, q⟩
  rw [Vals.ref1 r]
  obtain ⟨its, items, there, _⟩ := I.tuple ha
  have one : ∀ {u : Value}, u ∈ its → ∃ t xs, u = .ref t ∧ s.heap.IsTuple t xs ∧ IntsAre xs.toList ns := fun {u} hu => by
    obtain ⟨i, hi, ei⟩ := List.mem_iff_getElem.mp hu
    have hi' : i < (y :: ys).length := items.length ▸ hi
    obtain ⟨t, et, ht⟩ := hall _ (List.getElem_mem hi')
    obtain ⟨v, ev, rv⟩ := items.get (List.getElem?_eq_getElem hi')
    rw [List.getElem?_eq_getElem hi, ei] at ev
    cases ev
    rw [et] at rv
    obtain ⟨xs, nums, tup, _⟩ := I.tuple ht
    exact ⟨t, _, rv, tup, by simpa using (show IntsAre xs ns from Vals.ints nums)⟩
  have units : X.A.in1.units < cLine := by have := hr.un; show X.A.units + 1 < _; omega
  have flat : CmpIn X.prog X.w X.A.in1 .Gt s.heap (fun i v => its.toArray[i]? = some v) (fun _ _ => false) := fun i j u v s' Q' E' kp hu hv q' => by
    obtain ⟨t, xs, rfl, p, z⟩ := one (by simpa using Array.mem_of_getElem? hu)
    obtain ⟨t', xs', rfl, p', z'⟩ := one (by simpa using Array.mem_of_getElem? hv)
    exact same_gt (p.at fun o e => kp _ o e) (p'.at fun o e => kp _ o e) z z' units q'
  refine call_max_walkH (PySem.W.iter_tupleW (A := X.A.in1) (I.ok.hd hc) there fun s2 e W st low nw kp => ⟨_, _, _, _, _, _, _, s.heap, fun _ _ => false, rfl, W, st, low, ?_, nw, kp, flat, fun v s' pv m => ?_⟩)
  · rw [List.size_toArray, ← items.length]
    exact Nat.zero_lt_succ _
  · obtain ⟨h', tk, es, keep⟩ := PySem.W.moved_old e rfl m
    rw [first_best] at pv
    obtain ⟨u, eu, ru⟩ := items.get (i := 0) rfl
    rw [item_at eu pv, es]
    exact ⟨y, H, I.kept keep, ru, q⟩
theorem ints_dr {K : PySem.W.Frag} {ρ : Rh} {H : Hp} : ∀ {ns : List Int} {vs : List V}, DRs K ρ H (ns.map Dv.int) vs → vs = ns.map V.int
  | [], _, h => by cases h; rfl
  | n :: ns, _, h => by
    rw [List.map_cons] at h
    cases h with
    | cons a b => cases a; rw [List.map_cons, ints_dr b]
theorem f_maxT {X : Cx} {kx : Kx} : Bok X kx fMaxT (rMaxT X.K) := by
  intro xs G d G' ρ H vs Q e rl ds k
  unfold fMaxT at e
  split at e
  · rename_i x xs
    split at e
    · rename_i hz
      obtain ⟨hz, ns, ex⟩ := hz
      cases e
      subst ex
      cases ds with
      | cons a b =>
        cases b
        cases a with
        | tup h r =>
          cases r with
          | @cons _ _ v vs r1 r2 =>
            refine ⟨_, v, vs, ns, rfl, h, fun z hzm => ?_, k v ρ H Gr.refl rl r1⟩
            have one : ∀ {z : V}, DR X.K ρ H (.tup (ns.map Dv.int)) z → ∃ t, z = .ref t ∧ SqT X.K H t (ns.map V.int) := fun {z} q => by
              cases q with
              | tup h2 q2 => rw [ints_dr q2] at h2; exact ⟨_, rfl, h2⟩
            rcases List.mem_cons.mp hzm with rfl | hzm
            · exact one r1
            · obtain ⟨i, hi, ei⟩ := List.mem_iff_getElem.mp hzm
              have hl : i < xs.length := by rw [r2.len]; exact hi
              obtain ⟨w, hw, dw⟩ := r2.get (List.getElem?_eq_getElem hl)
              rw [List.getElem?_eq_getElem hi, ei] at hw
              cases hw
              rw [hz _ (List.getElem_mem hl)] at dw
              exact one dw
    · cases e
  · cases e
theorem fok1 {K : PySem.W.Frag} {kx : Kx} {c : Nat} {f : String} (h1 : Cls K (kx.ca c)) (h2 : NoAttr K (kx.ca c) (Str.ofString f)) : Fok K kx [c] f := fun d hd => by
  obtain rfl : d = c := by simpa using hd
  exact ⟨h1, h2⟩
theorem kit_own {K : PySem.W.Frag} {C : Addr} : PySem.W.kitOne K (.ref C) (.ref C) = some true := if_pos (beq_self_eq_true _)
end Ms

/-! PyZip: zip of a list and a tuple. -/
namespace Ms
open PySem L2 PyProof.Rows
open Mi (Dv MO Sto Sl Rs bnd ME MT MA MS MF Fl MG MGs MI)
/-- the pairs of the list at a and the tuple at b, as these stand at each turn -/
def Itm (K : PySem.W.Frag) (a b : Addr) : It :=
  ItW (fun i H => ∃ (xs ys : List V) (x y : V), SqL K H a xs ∧ SqT K H b ys ∧ xs[i]? = some x ∧ ys[i]? = some y)
    (fun i H vs => ∃ x y, vs = [x, y] ∧ (∀ xs, SqL K H a xs → xs[i]? = some x) ∧ ∀ ys, SqT K H b ys → ys[i]? = some y)
    (fun i H => ∃ xs ys : List V, SqL K H a xs ∧ SqT K H b ys ∧ (xs.length = i ∧ i ≤ ys.length ∨ ys.length = i ∧ i ≤ xs.length))
/-- the five cells of such a zip -/
def Zst (z TI TO i1 i2 a b : Addr) (i : Nat) (h : Heap) : Prop := (IsZip h z TI TO .none ∧ IsTupOf2 h TI (.ref i1) (.ref i2) ∧ ∃ x y, IsTupOf2 h TO x y) ∧ h.IsListIter i1 a i ∧ h.IsTupleIter i2 b i
theorem Zst.walk {P : Program} {w : World} {A : Around} {a b z TI TO i1 i2 : Addr} {i : Nat} {h : Heap} {its jts : Array Value} (no : A.in1.handled = none) (D : ZipSep2 z TI TO i1 i2 [i1, a] [i2, b]) (na : a ≠ i1) (nb : b ≠ i2) (st : Zst z TI TO i1 i2 a b i h) (p1 : h.IsList a its) (p2 : h.IsTuple b jts) :
    AtW P w A z [z, TI, TO, i1, i2] (Zst z TI TO i1 i2 a b) h i (min its.size jts.size) fun i vals => ∃ x1 x2, its[i]? = some x1 ∧ jts[i]? = some x2 ∧ vals = #[x1, x2] :=
  ⟨_, _, _, _, WalksT.zipD2 D (Draws.list no i1 a na its) (Draws.tuple no i2 b nb jts), fun c hc => by simp only [List.mem_cons, List.not_mem_nil, or_false] at hc ⊢; rcases hc with q | q | q | q <;> simp [q],
    ⟨st.1.1, st.1.2.1, st.1.2.2, ⟨st.2.1, p1⟩, ⟨st.2.2, p2⟩⟩, fun j h' z => ⟨⟨z.1, z.2.1, z.2.2.1⟩, z.2.2.2.1.1, z.2.2.2.2.1⟩⟩
theorem Zst.plain {z TI TO i1 i2 a b : Addr} (i : Nat) (h : Heap) (st : Zst z TI TO i1 i2 a b i h) (c : Addr) (hc : c ∈ [z, TI, TO, i1, i2]) : ∃ o, h.get? c = some o ∧ ∀ v, o.data ≠ .cell v := by
  obtain ⟨⟨cz, cT, _, _, cO⟩, ⟨o1, g1, _, d1⟩, o2, g2, _, d2⟩ := st
  have nf : ∀ {o : Obj} {fs : Array Value}, o.data = .fields fs → ∀ v, o.data ≠ .cell v := fun e v q => by rw [e] at q; cases q
  simp only [List.mem_cons, List.not_mem_nil, or_false] at hc
  rcases hc with q | q | q | q | q <;> subst q
  · exact ⟨_, cz, nf rfl⟩
  · exact ⟨_, cT, fun v q => nomatch q⟩
  · exact ⟨_, cO, fun v q => nomatch q⟩
  · exact ⟨o1, g1, nf d1⟩
  · exact ⟨o2, g2, nf d2⟩
theorem Zst.stay {z TI TO i1 i2 a b : Addr} (i : Nat) (h h' : Heap) (st : Zst z TI TO i1 i2 a b i h) (k : ∀ c ∈ [z, TI, TO, i1, i2], ∀ o, h.get? c = some o → h'.get? c = some o) : Zst z TI TO i1 i2 a b i h' := by
  simp only [List.forall_mem_cons] at k
  obtain ⟨kz, kT, kO, k1, k2, _⟩ := k
  obtain ⟨⟨cz, cT, x, y, cO⟩, it1, it2⟩ := st
  exact ⟨⟨kz _ cz, kT _ cT, x, y, kO _ cO⟩, it1.at k1, it2.at k2⟩
theorem turn_zipM {P : Program} {w : World} {K : PySem.W.Frag} {elts : List Expr} {kk : Nat} {tpos : Pos} {a b z TI TO i1 i2 : Addr} (D : ZipSep2 z TI TO i1 i2 [i1, a] [i2, b]) (na : a ≠ i1) (nb : b ≠ i2) :
    Turn P w K (.Tuple elts kk tpos) (Itm K a b) [z, TI, TO, i1, i2] z (Zst z TI TO i1 i2 a b) := by
  refine turn_of_walks (List.mem_cons_self ..) Zst.plain Zst.stay (fun _ _ _ _ _ st q => wpAny_pyIter_zip st.1.1 q) ?_ ?_
  · rintro X rfl rfl rfl no i pins σ H s I st ⟨xs, ys, x, y, qx, qy, hx, hy⟩
    obtain ⟨its, rx, px, _⟩ := I.list qx
    obtain ⟨jts, ry, py, _⟩ := I.tuple qy
    obtain ⟨u, eu, ru⟩ := rx.get hx
    obtain ⟨v, ev, rv⟩ := ry.get hy
    have lx := (List.getElem?_eq_some_iff.mp eu).1
    have ly := (List.getElem?_eq_some_iff.mp ev).1
    refine ⟨_, _, Zst.walk no D na nb st px.isList py, ?_, ?_⟩
    · rw [List.size_toArray, List.size_toArray, Nat.lt_min]
      exact ⟨lx, ly⟩
    · rintro vals ⟨x1, x2, e1, e2, rfl⟩
      rw [item_at eu e1, item_at ev e2]
      exact ⟨[x, y], ⟨x, y, rfl, fun l q => I.list_inj q qx ▸ hx, fun l q => I.tuple_inj q qy ▸ hy⟩, two_line, .cons ru (.cons rv .nil)⟩
  · rintro X rfl rfl rfl no i pins σ H s I st ⟨xs, ys, qx, qy, fin⟩
    obtain ⟨its, rx, px, _⟩ := I.list qx
    obtain ⟨jts, ry, py, _⟩ := I.tuple qy
    have W := Zst.walk (P := X.prog) (w := X.w) (A := X.A) no D na nb st px.isList py
    have e : min its.toArray.size jts.toArray.size = i := by
      rw [List.size_toArray, List.size_toArray, ← rx.length, ← ry.length]
      rcases fin with ⟨q, l⟩ | ⟨q, l⟩
      · rw [← q] at l ⊢; exact Nat.min_eq_left l
      · rw [← q] at l ⊢; exact Nat.min_eq_right l
    rw [e] at W
    exact ⟨_, W⟩
def iZipM (K : PySem.W.Frag) (ta : TA) : TI := fun σ H R => ta σ H fun vs H1 => ∃ a b xs ys, vs = [.ref a, .ref b] ∧ SqL K H1 a xs ∧ SqT K H1 b ys ∧ R (Itm K a b) H1
/-- zip of these two, just called -/
theorem zip_new {X : Cx} {tg : List Expr × Nat × Pos} {pins : List (Addr × Obj)} {σ : L2.St} {H : Hp} {s : Shared} {R : It → Hp → Prop} {a b : Addr} {xs ys : List V} {E : Value → Shared → Prop} (I : Inv X pins σ H s) (qx : SqL X.K H a xs) (qy : SqT X.K H b ys) (r : R (Itm X.K a b) H) :
    wpAny (model X.prog X.w) X.A (call (.type "zip") [.ref a, .ref b]) (fun v s1 => wpAny (model X.prog X.w) X.A (pyIter v) (PIE X pins σ (.Tuple tg.1 tg.2.1 tg.2.2) R) E s1) E s := by
  obtain ⟨its, _, px, _⟩ := I.list qx
  obtain ⟨jts, _, py, _⟩ := I.tuple qy
  have la : a < s.heap.objs.size := px.lt
  have lb : b < s.heap.objs.size := Heap.lt_size py.choose_spec.1
  have D := zip_sep2 (N := s.heap.objs.size) (fp1 := [a]) (fp2 := [b]) (by simpa using la) (by simpa using lb)
  refine zip_begins2 (begins_list a its.toArray) (begins_tuple b jts.toArray) px.isList py fun h' hz hT hO g1 g2 sz kp => wpAny_pyIter_zip hz ?_
  refine ⟨_, _, _, _, H, rfl, I.kept (t' := s.toks) kp, turn_zipM D (Nat.ne_of_lt la) (Nat.ne_of_lt (Nat.lt_succ_of_lt lb)), ⟨⟨hz, hT, _, _, hO⟩, ⟨_, g1, rfl, rfl⟩, ⟨_, g2, rfl, rfl⟩⟩, fresh_ch I ?_, r⟩
  simp only [List.forall_mem_cons, List.not_mem_nil, false_implies, implies_true, and_true]
  exact ⟨Nat.le_add_right _ 4, Nat.le_add_right _ 2, Nat.le_add_right _ 3, Nat.le_refl _, Nat.le_add_right _ 1⟩
theorem pi_zipM {X : Cx} {e e2 : Expr} {ta : TA} {p pos tpos : Pos} {elts : List Expr} {kk : Nat} (hg : Gl X "zip") (hm : X.mg "zip" = none) (ha : PA X [e, e2] ta)
    (hs : Es X e [e2] := by rfl) (hpl : Np X pos [e2] := by rfl) : PI X (.Tuple elts kk tpos) (.Call (.Name "zip" p) [e, e2] [] pos) (iZipM X.K ta) :=
  ⟨fun pins s σ H R I h => Call_ (ld_blt I hg hm PyProof.Rows.boot_zip (PyProof.Rows.callWith_type1 (thn (ha.run pos pins s σ H _ I h) fun us s1 ⟨vs, H1, I1, r1, a, b, xs, ys, ev, qx, qy, q⟩ => by
    subst ev
    obtain ⟨u, v, rfl, ru, rv⟩ := vals2 r1
    cases ru
    cases rv
    exact zip_new (tg := ⟨elts, kk, tpos⟩) I1 qx qy q) hs hpl))⟩
end Ms

/-! PyTm: tuple * 1, tuple * 0. -/
namespace Ms
open PySem PySem.Spec L2 PyProof.Rows
theorem mul_one (l : Addr) (items : Array Value) (n : Nat) (dd : Option Addr) (sl : Array (Option Value)) (u : Tok) (hne : items.isEmpty = false) :
    Meets (Builtin.«tuple.__mul__» ⟨[.ref l, .int 1 u], []⟩) (fun _ R s => s.heap.get? l = some { cls := .type "tuple", dict := dd, data := .seq items n, slots := sl } ∧ R (.ok (.ret (Value.ref l))) s) :=
  .of_wp fun prog w A R st both => by
    have ⟨hl, h⟩ := both
    have whole := AutoSeq1.idx_int
    cases st
    (wp_walk using wpAny_loadPart' hl)
    exact ⟨_, rfl, h⟩
theorem mul_zero (l : Addr) (items : Array Value) (n : Nat) (dd : Option Addr) (sl : Array (Option Value)) (u : Tok) (hne : items.isEmpty = false) :
    Meets (Builtin.«tuple.__mul__» ⟨[.ref l, .int 0 u], []⟩) (fun _ R s => s.heap.get? l = some { cls := .type "tuple", dict := dd, data := .seq items n, slots := sl } ∧ R (.ok (.ret (Value.ref s.heap.objs.size))) { s with heap := s.heap.push { cls := Value.type "tuple", data := Data.seq #[] } }) :=
  .of_wp fun prog w A R st both => by
    have ⟨hl, h⟩ := both
    have whole := AutoSeq1.idx_int
    cases st
    (wp_walk using wpAny_loadPart' hl)
    exact ⟨_, rfl, h⟩
def rRep01 (K : PySem.W.Frag) : R2 := fun x y H Q => ∃ l k xs, x = .ref l ∧ y = .int k ∧ SqT K H l xs ∧ xs ≠ [] ∧ ((k = 1 ∧ Q (.ref l) H) ∨ (k = 0 ∧ ∀ p, H p = none → Q (.ref p) (upd H p (.tup []))))
theorem op_rep01 {X : Cx} : OpR X (binaryOp .Mult) (rRep01 X.K) := by
  rintro pins s σ H x y v u Q I rx ry ⟨l, k, xs, rfl, rfl, hT, hne, q⟩
  obtain rfl : v = .ref l := rx
  have ⟨t, et⟩ := ry
  subst et
  have ⟨its, r, at_l, _⟩ := I.tuple hT
  obtain ⟨o, ho, hc, n, hd⟩ := at_l
  obtain ⟨cls, dd, data, sl⟩ := o
  obtain rfl : cls = .type "tuple" := hc
  obtain rfl : data = .seq its.toArray n := hd
  have nz : its ≠ [] := fun e => hne (by
    have := r.length
    rw [e] at this
    exact List.eq_nil_of_length_eq_zero this)
  have he : its.toArray.isEmpty = false := by
    cases its with
    | nil => exact absurd rfl nz
    | cons a b => rfl
  rcases q with ⟨rfl, q⟩ | ⟨rfl, q⟩
  · exact wpAny_binaryOp_repeat_ref (T := "tuple") (U := "int") (by decide) ⟨_, ho, rfl⟩ (fun s' => typeIs_int s' _ t) noFill_tuple_mul F.fills_int_mul F.slot_int_rmul repeat_tuple F.slot_int_index.lookup
      (call_meets F.slot_int_rmul (typeIs_int s _ t) F.entry_int_rmul (F.args_int_rmul_2 _ _) (int_rmul_tuple _ t l its.toArray n dd sl)
        ⟨ho, rfl, ⟨_, ho, rfl⟩, call_meets F.slot_tuple_mul ⟨_, ho, rfl⟩ F.entry_tuple_mul (F.args_tuple_mul_2 _ _) (mul_one l its.toArray n dd sl t he) ⟨ho, .ref l, H, I, rfl, q⟩⟩)
  · exact wpAny_binaryOp_repeat_ref (T := "tuple") (U := "int") (by decide) ⟨_, ho, rfl⟩ (fun s' => typeIs_int s' _ t) noFill_tuple_mul F.fills_int_mul F.slot_int_rmul repeat_tuple F.slot_int_index.lookup
      (call_meets F.slot_int_rmul (typeIs_int s _ t) F.entry_int_rmul (F.args_int_rmul_2 _ _) (int_rmul_tuple _ t l its.toArray n dd sl)
        ⟨ho, rfl, ⟨_, ho, rfl⟩, call_meets F.slot_tuple_mul ⟨_, ho, rfl⟩ F.entry_tuple_mul (F.args_tuple_mul_2 _ _) (mul_zero l its.toArray n dd sl t he) ⟨ho, .ref s.heap.objs.size, _, I.laid (t' := s.toks) (o := .tup []) (fun b ob q => Heap.get?_push_of_some _ q) (Nat.le_refl _) ⟨Nat.zero_le _, [], .nil, IsTup.new _ _⟩, rfl, q _ (I.hok.fresh (Nat.le_refl _))⟩⟩)
open Mi (Dv MO Sto Sl Rs bnd ME MT MA MS MF Fl MG MGs MI)
/-- a tuple, any number of times -/
def bMulT : Mi.B2 := fun x y G => match x, y with
  | .tup a, .int k => if a ≠ [] ∧ k = 1 then some (.tup a, G) else if a ≠ [] ∧ k = 0 then some (.tup [], G) else Mi.bMul false (.tup a) (.int k) G
  | _, _ => none
def rMulT (K : PySem.W.Frag) : R2 := fun x y H Q => rRep01 K x y H Q ∨ rMuls K x y H Q
theorem op_mulT {X : Cx} : OpR X (binaryOp .Mult) (rMulT X.K) := OpR.or op_rep01 op_muls
theorem b_mulT {X : Cx} {kx : Kx} : B2ok X kx bMulT (rMulT X.K) := by
  intro x y G d G' ρ H v w Q e rl dx dy k
  unfold bMulT at e
  split at e
  · rename_i a n
    split at e
    · rename_i hz
      cases e
      cases dx with
      | tup h r =>
        cases dy
        refine .inl ⟨_, _, _, rfl, rfl, h, fun z => hz.1 ?_, .inl ⟨hz.2, k _ ρ H Gr.refl rl (.tup h r)⟩⟩
        subst z
        cases r
        rfl
    · split at e
      · rename_i hz
        cases e
        cases dx with
        | tup h r =>
          cases dy
          refine .inl ⟨_, _, _, rfl, rfl, h, fun z => hz.1 ?_, .inr ⟨hz.2, fun p hp => ?_⟩⟩
          · subst z
            cases r
            rfl
          · obtain ⟨g, r'⟩ := rl.side (.tup []) hp
            exact k _ ρ _ g r' (.tup (SqT.of upd_same) .nil)
      · exact .inr (b_mul false _ _ _ _ _ _ _ _ _ _ e rl dx dy k)
  · cases e
/-- repr(a) == z, z a written text: known where it is so -/
noncomputable def mReprIs (neg : Bool) (z : String) (a : ME) : ME := open Classical in fun δ G => bnd (a δ G) fun x G1 => if ∃ d, Mi.pyT G1 x = some d ∧ Mi.okR d ∧ d.shown = Str.ofString z then some (.bl (!neg), G1) else none
section
variable {X : Cx} {kx : Kx} {e a b c o : Expr} {ma mb mc me mo : ME} {pos p apos : Pos} {rest es : List Expr} {mas mks : MA}
theorem reprIs {neg : Bool} {z : String} {r : R2} (hr : ∀ (z : Str) H (Q : VK), Q (.bl (!neg)) H → r (.str z) (.str z) H Q) {σ : L2.St} {H : Hp} {Q : VK} (h : tM X.K kx (mReprIs neg z ma) σ H Q) : tOp r (tCB (rRepr X.K) (tCons (tM X.K kx ma) tNil)) (tC (.str (Str.ofString z))) σ H Q := by
  obtain ⟨ρ, G, δ, d, G', rl, sr, e, k⟩ := h
  obtain ⟨x, G1, e1, e⟩ := Mi.bnd_eq e
  split at e
  · rename_i hz
    obtain ⟨pd, p1, p2, p3⟩ := hz
    cases e
    refine ⟨ρ, G, δ, x, _, rl, sr, e1, fun v ρ1 H1 g1 r1 d1 => ⟨v, pd, rfl, pyT_dp r1 p1 d1, p2, ?_⟩⟩
    rw [p3]
    exact hr _ _ _ (k _ ρ1 H1 g1 r1 (.bl _))
  · cases e
theorem m_reprIs {z : String} {j} {p1 p2 q1 : Pos} (hG : X.A.guards = some []) (hu : X.A.units + 64 < cLine) (hm : X.mg "repr" = none) (ha : PE X a (tM X.K kx ma)) (hg : Gl X "repr" := by rfl) (he : starEach [a] X.env = (false, eval a X.env) :: starEach [] X.env := by rfl) (hp1 : (backTo q1 (starEach [] X.env)).any (·.1) = false := by rfl) :
    PE X (.Compare (.Call (.Name "repr" p1) [a] [] q1) [.Eq] [.Constant (.str (Str.ofString z)) j p2] pos) (tM X.K kx (mReprIs false z ma)) := (pe_cmpR op_eq (pe_repr hG hu hm ha hg he hp1) pe_str (nomark _)).imp fun _ _ _ h => reprIs r_eq h
theorem m_reprIsT {z : String} {j} {p1 p2 q1 : Pos} (hG : X.A.guards = some []) (hu : X.A.units + 64 < cLine) (hm : X.mg "repr" = none) (ha : PE X a (tM X.K kx ma)) (hg : Gl X "repr" := by rfl) (he : starEach [a] X.env = (false, eval a X.env) :: starEach [] X.env := by rfl) (hp1 : (backTo q1 (starEach [] X.env)).any (·.1) = false := by rfl) :
    PT X (.Compare (.Call (.Name "repr" p1) [a] [] q1) [.Eq] [.Constant (.str (Str.ofString z)) j p2] pos) (tMT X.K kx (Mi.mTb (mReprIs false z ma))) := (pt_cmpR op_eq (pe_repr hG hu hm ha hg he hp1) pe_str (nomark _)).imp fun _ _ _ h => tTb (fun _ h => reprIs r_eq h) h
theorem m_reprNot {z : String} {j} {p1 p2 q1 : Pos} (hG : X.A.guards = some []) (hu : X.A.units + 64 < cLine) (hm : X.mg "repr" = none) (ha : PE X a (tM X.K kx ma)) (hg : Gl X "repr" := by rfl) (he : starEach [a] X.env = (false, eval a X.env) :: starEach [] X.env := by rfl) (hp1 : (backTo q1 (starEach [] X.env)).any (·.1) = false := by rfl) :
    PE X (.Compare (.Call (.Name "repr" p1) [a] [] q1) [.NotEq] [.Constant (.str (Str.ofString z)) j p2] pos) (tM X.K kx (mReprIs true z ma)) := (pe_cmpR op_ne (pe_repr hG hu hm ha hg he hp1) pe_str (nomark _)).imp fun _ _ _ h => reprIs r_ne h
theorem m_reprNotT {z : String} {j} {p1 p2 q1 : Pos} (hG : X.A.guards = some []) (hu : X.A.units + 64 < cLine) (hm : X.mg "repr" = none) (ha : PE X a (tM X.K kx ma)) (hg : Gl X "repr" := by rfl) (he : starEach [a] X.env = (false, eval a X.env) :: starEach [] X.env := by rfl) (hp1 : (backTo q1 (starEach [] X.env)).any (·.1) = false := by rfl) :
    PT X (.Compare (.Call (.Name "repr" p1) [a] [] q1) [.NotEq] [.Constant (.str (Str.ofString z)) j p2] pos) (tMT X.K kx (Mi.mTb (mReprIs true z ma))) := (pt_cmpR op_ne (pe_repr hG hu hm ha hg he hp1) pe_str (nomark _)).imp fun _ _ _ h => tTb (fun _ h => reprIs r_ne h) h
end
end Ms

/-! PyMk: a class made by keywords alone. -/
namespace Ms
open PySem L2 PyProof.Rows
open Mi (Dv MO Sto Sl Rs bnd ME MT MA MS MF Fl MG MGs MI)
/-- C(k = v, ..) -/
def mMakeK (c : Nat) (f : MF) (ix : List Nat) (kw : MA) : ME := fun δ G => bnd (kw δ G) fun ys G1 => bnd (f (ix.map fun i => (Dv.ref G1.length :: ys).getD i .non) (G1 ++ [.ins c []])) fun r G2 => match r with
  | .non => some (.ref G1.length, G2)
  | _ => none
section
variable {X : Cx} {kx : Kx} {e a b c o : Expr} {pos p apos : Pos} {mks : MA} {k cn : Nat} {st : Stmt} {ps : List Str} {mf : MF} {x qual : Str}
theorem m_mkK {kws : List Keyword} {ks : List Str} {ix : List Nat} (c : Mak X.prog X.w X.K kx X.mg X.base k cn x qual st ps mf) (hG : X.A.guards = some []) (hr : Room (k + 1) X.A) (hb : Bk "__init__" qual st ps ks 1 ix) (hl : Len mks ks.length) (hkw : PK X kws (tMA X.K kx mks)) (hg : Gl X x := by rfl)
    (hall : Ka X pos kws := by rfl) (hks : Ks X pos kws ks := by rfl) (hdb : (x == ("__debug__" : Str)) = false := by decide)
    (hpl : ((backTo pos (starEach [] X.env)).any (·.1) || (backToKw pos (keywordEach kws X.env)).any (·.1.isNone)) = false := by rfl) : PE X (.Call (.Name x p) [] kws pos) (tM X.K kx (mMakeK cn mf ix mks)) := ⟨fun pins s σ H Q I h => by
  obtain ⟨f, fd, F, M, G0, hm, _⟩ := c.ex
  have hkb := F.kbm hb
  obtain ⟨ρ, G, δ, d, G', rl, sr, e0, q⟩ := h
  obtain ⟨ds, G1, e1, e2⟩ := Mi.bnd_eq e0
  obtain ⟨rv, G2, e3, e4⟩ := Mi.bnd_eq e2
  refine called_by I hg hm hdb ?_
  refine PySem.W.callWith_KW0 (h₀ := X.base) I.ok.mod.kin M.kp hall (thn (hkw.run pos pins s σ H (fun vs H1 => ∃ ρ1, Gr ρ H ρ1 H1 ∧ Rl X.K kx ρ1 G1 H1 ∧ DRs X.K ρ1 H1 ds vs) I ⟨ρ, G, δ, ds, G1, rl, sr, e1, fun vs ρ1 H1 g r d => ⟨ρ1, g, r, d⟩⟩) fun us s1 ⟨vs, H1, I1, r, ρ1, g1, r1, d1⟩ => ⟨I1.kIn, ?_⟩) hpl
  rw [hks]
  have n1 : H1 s1.heap.objs.size = none := I1.hok.fresh (Nat.le_refl _)
  have n2 : H1 (s1.heap.objs.size + 1) = none := I1.hok.fresh (Nat.le_succ _)
  have ne : s1.heap.objs.size + 1 ≠ s1.heap.objs.size := Nat.succ_ne_self _
  obtain ⟨ga, ra⟩ := r1.side (.own (s1.heap.objs.size + 1)) n1
  obtain ⟨gb, rb⟩ := ra.grow (p := s1.heap.objs.size + 1) (o := .ins (kx.ca cn) s1.heap.objs.size []) (m := .ins cn []) (by rw [upd_ne ne]; exact n2) fun g => .ins upd_same .nil
  have I2 := Inv.made (C := kx.ca cn) I1
  have dd : DRs X.K (ρ1.snoc (s1.heap.objs.size + 1)) _ (.ref G1.length :: ds) (V.ref (s1.heap.objs.size + 1) :: vs) := .cons (.ref (by rw [← r1.len, List.getElem?_append_right (Nat.le_refl _)]; simp)) (d1.gr (ga.trans gb))
  have rr : Vals (V.ref (s1.heap.objs.size + 1) :: vs) (Value.ref (s1.heap.objs.size + 1) :: us) := .cons rfl r
  have hlen : us.length = ks.length := by rw [← r.length, ← d1.len]; exact hl _ _ _ _ e1
  have hb' := fun sh => hkb sh [Value.ref (s1.heap.objs.size + 1)] us rfl hlen
  refine wpAny_call (make_map (f := f) I1.kIn M.makes M.init (beq_iff_eq.mp M.fn) (codeAny_mono (G0.run _ X.stack _ _ ⟨[Value.ref (s1.heap.objs.size + 1)], ks.zip us⟩ (pickU ix (Value.ref (s1.heap.objs.size + 1) :: us)) _ (fun v H2 => v = .non ∧ Q (.ref (s1.heap.objs.size + 1)) H2) _ _ _ _ _ (guards_make hG) (hr.make (kx.ca cn) [] (ks.zip us)) (I2.env0.make (kx.ca cn) [] (ks.zip us)) (hb' _) (pick_vals rr ix) rb (pick_dr dd ix) e3 fun v ρ' H' g r qd => ?_) fun res s' hq => ?_))
  · split at e4
    · cases e4
      cases qd
      refine ⟨rfl, q _ ρ' H' (((g1.trans ga).trans gb).trans g) r (.ref ?_)⟩
      exact ref_gr (K := X.K) g (show (ρ1.snoc (s1.heap.objs.size + 1)).r[G1.length]? = some (s1.heap.objs.size + 1) by rw [← r1.len, List.getElem?_append_right (Nat.le_refl _)]; simp)
    · cases e4
  · obtain ⟨u, h1, h2⟩ := after_run I2 hq
    subst h1
    obtain ⟨v, H', I3, rv', ez, q3⟩ := h2
    subst ez
    exact ⟨rv', V.ref (s1.heap.objs.size + 1), H', I3, rfl, q3⟩⟩
end
end Ms

/-! PyS9: zip of a list and a tuple, in the mirror. -/
namespace Ms
open PySem L2
open Mi (Dv MO Sto Sl Rs bnd ME MT MA MS MF Fl MG MGs MI)
def mZip (a b : ME) : MI := fun δ G => bnd (a δ G) fun x G1 => bnd (b δ G1) fun y G2 => match Mi.lstOf G2 x, y with
  | some xs, .tup ys => some ((List.zipWith (fun p q => .tup [p, q]) xs ys, fun G' => Mi.lstOf G' x = some xs), G2)
  | _, _ => none
theorem zw_get : ∀ (xs ys : List Dv) (i : Nat) (d : Dv), (List.zipWith (fun p q => Dv.tup [p, q]) xs ys)[i]? = some d → ∃ p q, xs[i]? = some p ∧ ys[i]? = some q ∧ d = .tup [p, q]
  | [], _, i, d, h => by simp at h
  | _ :: _, [], i, d, h => by simp at h
  | x :: xs, y :: ys, 0, d, h => by
    simp at h
    exact ⟨x, y, rfl, rfl, h.symm⟩
  | x :: xs, y :: ys, i + 1, d, h => by
    simp at h
    exact zw_get xs ys i d (by simpa using h)
theorem i_zip {X : Cx} {kx : Kx} {a b : Expr} {ma mb : ME} {elts : List Expr} {kk : Nat} {tpos p pos : Pos} (hm : X.mg "zip" = none) (ha : PE X a (tM X.K kx ma)) (hb : PE X b (tM X.K kx mb)) (hg : Gl X "zip" := by rfl)
    (hs : Es X a [b] := by rfl) (hs2 : Es X b [] := by rfl) (hpl : Np X pos [b] := by rfl) :
    PI X (.Tuple elts kk tpos) (.Call (.Name "zip" p) [a, b] [] pos) (tI X.K kx (mZip ma mb)) :=
  (pi_zipM hg hm (pa_cons ha (pa_cons hb pa_nil hs2) hs) hs hpl).imp fun σ H R ⟨ρ, G, δ, ds, st, G', rl, sr, e, k⟩ => by
  obtain ⟨x, G1, e1, e⟩ := Mi.bnd_eq e
  obtain ⟨y, G2, e2, e⟩ := Mi.bnd_eq e
  refine ⟨ρ, G, δ, x, G1, rl, sr, e1, fun v ρ1 H1 g1 r1 d1 => ⟨ρ1, G1, δ, y, G2, r1, sr.gr g1, e2, fun w ρ2 H2 g2 r2 d2 => ?_⟩⟩
  split at e
  · rename_i y xs ys el
    cases e
    obtain ⟨ad, vs, ev, h, r⟩ := lstOf_at r2 el (d1.gr g2)
    subst ev
    cases d2 with
    | @tup bd ws _ hT rT =>
      refine ⟨ad, bd, vs, ws, rfl, h, hT, k _ ρ2 H2 (g1.trans g2) r2 ?_⟩
      have dx := d1.gr g2
      have rx : ∀ ρ G H, Gw ρ2 H2 ρ H → Rl X.K kx ρ G H → Mi.lstOf G x = some xs → ∃ vs, SqL X.K H ad vs ∧ DRs X.K ρ H xs vs := fun ρ G H g r s => by
        obtain ⟨a, vs, e, h, q⟩ := lstOf_at r s (dx.gw g)
        cases e
        exact ⟨vs, h, q⟩
      refine ⟨fun ρ G H g r s => ?_, fun i ρ G H g r s hi => ?_, fun i d ρ G H z H' g r s hd hy => ?_⟩
      · obtain ⟨vs, h, dr⟩ := rx ρ G H g r s
        refine ⟨vs, ws, h, SqT.gw g hT, ?_⟩
        rw [List.length_zipWith, dr.len, rT.len]
        omega
      · obtain ⟨vs, h, dr⟩ := rx ρ G H g r s
        rw [List.length_zipWith, dr.len, rT.len] at hi
        have i1 : i < vs.length := by omega
        have i2 : i < ws.length := by omega
        exact ⟨vs, ws, vs[i], ws[i], h, SqT.gw g hT, List.getElem?_eq_getElem i1, List.getElem?_eq_getElem i2⟩
      · obtain ⟨T, us, ev, hN, eH, u1, u2, eu, f1, f2⟩ := hy
        subst eu ev eH
        obtain ⟨vs, h, dr⟩ := rx ρ G H g r s
        obtain ⟨p1, q1, hp, hq, rfl⟩ := zw_get xs ys i d hd
        obtain ⟨v1, hv1, dv1⟩ := dr.get hp
        obtain ⟨v2, hv2, dv2⟩ := (rT.gw g).get hq
        have t1 := f1 vs h
        rw [hv1] at t1
        cases t1
        have t2 := f2 ws (SqT.gw g hT)
        rw [hv2] at t2
        cases t2
        obtain ⟨g3, r3⟩ := r.side (.tup [u1, u2]) hN
        exact ⟨g3, r3, .tup (SqT.of upd_same) (.cons (dv1.gr g3) (.cons (dv2.gr g3) .nil))⟩
  · cases e
end Ms

/-! PyX: three names at once; max of a list; extend by a tuple. -/
namespace Ms
open PySem PySem.Spec L2 PyProof.Rows
open Mi (Dv MO Sto Sl Rs bnd ME MT MA MS MF Fl MG MGs MI)
/-! ### a, b, c = x, y, z -/
def mPar3 (i j l : Nat) (a : MA) : MS := fun δ G => match a δ G with
  | some ([x, y, z], G1) => some (.nx, ((δ.set i (some x)).set j (some y)).set l (some z), G1)
  | _ => none
section
variable {X : Cx} {kx : Kx} {e a b c o : Expr} {ma mb mc me mo : ME} {mas : MA} {pos p apos : Pos} {x y z : Str}
theorem s_par3 (i j l : Nat) {px py pz pt pt2 : Pos} {kt k2} (hc : X.calm = true) (hN : X.N.Nodup) (ha : PA X [a, b, c] (tMA X.K kx mas)) (hi : X.N[i]? = some x := by rfl) (hj : X.N[j]? = some y := by rfl) (hl : X.N[l]? = some z := by rfl) (hij : i ≠ j := by decide) (hil : i ≠ l := by decide) (hjl : j ≠ l := by decide)
    (hx : X.env.scope.names.lookup x = some .local := by rfl) (hy : X.env.scope.names.lookup y = some .local := by rfl) (hz : X.env.scope.names.lookup z = some .local := by rfl)
    (hw : swappedStores [.Tuple [.Name x px, .Name y py, .Name z pz] kt pt] (.Tuple [a, b, c] k2 pt2) X.env = pure (some [x, y, z]) := by rfl) (hs : swapsWithSole [.Tuple [.Name x px, .Name y py, .Name z pz] kt pt] (.Tuple [a, b, c] k2 pt2) pos.line X.env = pure false := by rfl) :
    PS X (.Assign [.Tuple [.Name x px, .Name y py, .Name z pz] kt pt] (.Tuple [a, b, c] k2 pt2) pos) (sM X.K kx (mPar3 i j l mas)) :=
  (ps_par3 hc hN hi hj hl hij hil hjl hx hy hz ha hw hs).imp fun D σ H ⟨ρ, G, δ, f, δ', G', rl, sr, e, k⟩ => by
  unfold mPar3 at e
  split at e
  · rename_i u v w G1 e1
    cases e
    refine ⟨ρ, G, δ, _, _, rl, sr, e1, fun vs ρ1 H1 g1 r1 d1 => ?_⟩
    cases d1 with
    | cons p q =>
      cases q with
      | cons q t =>
        cases t with
        | cons t t2 =>
          cases t2
          exact ⟨_, _, _, rfl, k ρ1 _ H1 g1 r1 ((((sr.gr g1).set i p).set j q).set l t)⟩
  · cases e
/-! ### max of a list of whole numbers -/
def fMaxL : List Dv → Sto → Rs Dv
  | [x], G => match Mi.lstOf G x with
    | some xs => match Mi.intsOf xs with
      | some (n :: ns) => some (.int (ns.foldl max n), G)
      | _ => none
    | none => none
  | _, _ => none
theorem foldl_max_le : ∀ (ns : List Int) (n : Int), n ≤ ns.foldl max n ∧ ∀ y ∈ ns, y ≤ ns.foldl max n
  | [], n => ⟨Int.le_refl _, fun y hy => nomatch hy⟩
  | m :: ns, n => by
    obtain ⟨a, b⟩ := foldl_max_le ns (max n m)
    refine ⟨?_, fun y hy => ?_⟩
    · show n ≤ ns.foldl max (max n m)
      omega
    · have q : y = m ∨ y ∈ ns := by simpa using hy
      cases q with
      | inl q => rw [q]; show m ≤ ns.foldl max (max n m); omega
      | inr q => exact b y q
theorem foldl_max_mem : ∀ (ns : List Int) (n : Int), ns.foldl max n ∈ n :: ns
  | [], n => List.mem_cons_self ..
  | m :: ns, n => by
    have q := foldl_max_mem ns (max n m)
    show ns.foldl max (max n m) ∈ n :: m :: ns
    rcases List.mem_cons.mp q with q | q
    · rw [q]
      by_cases h : n ≤ m
      · rw [Int.max_eq_right h]; simp
      · rw [Int.max_eq_left (by omega)]; simp
    · exact List.mem_cons_of_mem _ (List.mem_cons_of_mem _ q)
theorem f_maxL : Bok X kx fMaxL (rMax X.K) := by
  intro xs G d G' ρ H vs Q e rl ds k
  unfold fMaxL at e
  split at e
  · rename_i x
    split at e
    · rename_i zs el
      split at e
      · rename_i n ns ei
        cases e
        cases ds with
        | cons a b =>
          cases b
          obtain ⟨ad, ws, ev, h, r⟩ := lstOf_at rl el a
          subst ev
          have ew := ints_of ei r
          subst ew
          refine ⟨ad, n :: ns, rfl, h, by simp, fun m hm hall => ?_⟩
          obtain ⟨a1, a2⟩ := foldl_max_le ns n
          have mm : m = ns.foldl max n := by
            have h1 := hall _ (foldl_max_mem ns n)
            have h2 : m ≤ ns.foldl max n := by
              have q : m = n ∨ m ∈ ns := by simpa using hm
              exact q.elim (fun e => e ▸ a1) (a2 m)
            omega
          rw [mm]
          exact k _ ρ H Gr.refl rl (.int _)
      · cases e
    · cases e
  · cases e
/-! ### xs.extend(t) -/
theorem ext_tup (l : Addr) (items : Array Value) (n : Nat) (b : Addr) (jtems : Array Value) (n2 : Nat) (dd : Option Addr) (sl : Array (Option Value)) (h0 : ¬(!items.isEmpty && Builtin.List.listTooLong (items.size + jtems.size)) = true) (h1 : items.size ≤ sizeLine) (h2 : items.size + jtems.size ≤ sizeLine + 1) :
    Meets (Builtin.«list.extend» ⟨[.ref l, .ref b], []⟩) (fun _ R s => s.heap.get? l = some { cls := .type "list", dict := none, data := .seq items n, slots := #[] } ∧ s.heap.get? b = some { cls := .type "tuple", dict := dd, data := .seq jtems n2, slots := sl } ∧
      R (.ok (.ret Value.none)) { s with heap := s.heap.update l (Obj.mapSeq fun x => x ++ jtems), toks := s.toks }) :=
  .of_wp fun prog w A R st hyp => by
    have ⟨hl, hb, h⟩ := hyp
    cases st
    have f1 := AutoSeq1.idx_int
    have f2 := (AutoSeq1.sub_tuple_tuple)
    have f3 := (AutoSeq1.sub_list_list)
    have f4 := AutoSeq1.sub_tuple_list
    have f5 := AutoSeq1.sub_list_tuple
    have hz' : (items ++ jtems).size ≤ sizeLine + 1 := by rw [Array.size_append]; exact h2
    (wp_walk using (wpAny_updateSeq hl rfl (hz := h1) (_hz' := hz')), wpAny_loadPart' hl, wpAny_loadPart' hb)
    exact ⟨_, rfl, h⟩
def rExtT (K : PySem.W.Frag) : V → List V → Hp → VK → Prop := fun x vs H Q => ∃ l b xs zs, x = .ref l ∧ vs = [.ref b] ∧ H l = some (.lst xs) ∧ SqT K H b zs ∧ xs.length + zs.length ≤ sizeLine ∧ Q .non (upd H l (.lst (xs ++ zs)))
/-- the list at l, a tuple at b behind it -/
theorem ext_go {pins : List (Addr × Obj)} {σ : L2.St} {H : Hp} {s : Shared} {Q : VK} {l b : Addr} {xs zs : List V} (I : Inv X pins σ H s) (hH : H l = some (.lst xs)) (hB : SqT X.K H b zs) (hz : xs.length + zs.length ≤ sizeLine) (q : Q .non (upd H l (.lst (xs ++ zs)))) :
    wpAny (model X.prog X.w) X.A (call (.builtin "list.extend") [.ref l, .ref b]) (EP X pins σ Q) X.xe s := by
  have ⟨_, its, _, mine, _, there⟩ := I.lstM hH
  have ⟨jts, more, at_b, _⟩ := I.tuple hB
  obtain ⟨⟨cls, dd, data, sl⟩, ho, hc, n2, hd⟩ := at_b
  obtain rfl : cls = .type "tuple" := hc
  obtain rfl : data = .seq jts.toArray n2 := hd
  have fits : its.toArray.size + jts.toArray.size ≤ sizeLine := by simp only [List.size_toArray, ← mine.length, ← more.length]; exact hz
  have short : ¬ (!its.toArray.isEmpty && Builtin.List.listTooLong (its.toArray.size + jts.toArray.size)) = true := fun z => by
    have too := (Bool.and_eq_true_iff.mp z).2
    rw [notLongL fits] at too
    cases too
  have laid : Inv X pins σ (upd H l (.lst (xs ++ zs))) { s with heap := s.heap.update l (Obj.mapSeq fun x => x ++ jts.toArray), toks := s.toks } :=
    I.lset (its' := its ++ jts) hH there (by simp) (mine.append more) (by rw [List.length_append]; exact hz)
  exact call_meets PySem.F.slot_list_extend ⟨_, there, rfl⟩ PySem.F.entry_list_extend (PySem.F.args_list_extend_2 _ _) (ext_tup l its.toArray _ b jts.toArray n2 dd sl short (by omega) (by omega)) ⟨there, ho, .non, _, laid, rfl, q⟩
theorem mt_extT : MtM X "list.extend" (rExtT X.K) := by
  rintro pins s σ H x vs v us Q I rx rv ⟨l, b, xs, zs, rfl, rfl, hH, hB, hz, q⟩
  obtain rfl : v = .ref l := rx
  rw [Vals.ref1 rv]
  exact ext_go I hH hB hz q
def mExtend (o a : ME) : ME := fun δ G => bnd (o δ G) fun x G1 => bnd (a δ G1) fun y G2 => match x, y with
  | .ref h, .tup zs => match G1[h]?, G2[h]? with
    | some (.lst _), some (.lst xs) => if xs.length + zs.length ≤ Mi.big then some (.non, G2.set h (.lst (xs ++ zs))) else none
    | _, _ => none
  | _, _ => none
theorem m_extend (ho : PE X o (tM X.K kx mo)) (ha : PE X a (tM X.K kx ma)) (hbase : attributeBase o "extend" X.env (eval o X.env) = eval o X.env := by rfl)
    (hfew : ((backTo pos (starEach [a] X.env)).all (fun x => !x.1) && (backToKw pos (keywordEach [] X.env)).all (fun x => x.1.isSome) && decide (([a] : List Expr).length + ([] : List Keyword).length + (if ([] : List Keyword).isEmpty then 0 else 1) < 30)) = true := by rfl)
    (hline : (apos.endLine == pos.line) = true := by rfl) (hs : starEach [a] X.env = (false, eval a X.env) :: starEach [] X.env := by rfl) (hplain : (backTo pos (starEach [] X.env)).any (·.1) = false := by rfl) :
    PE X (.Call (.Attribute o "extend" apos) [a] [] pos) (tM X.K kx (mExtend mo ma)) :=
  (pe_bm PySem.F.plainAttrs_list PySem.F.slot_list_extend PySem.F.type_list_extend mt_extT ho (pa_cons ha pa_nil hs) hbase hfew hline hs hplain).imp fun σ H Q ⟨ρ, G, δ, d, G', rl, sr, e, k⟩ => by
  obtain ⟨x, G1, e1, e⟩ := Mi.bnd_eq e
  obtain ⟨y, G2, e2, e⟩ := Mi.bnd_eq e
  refine ⟨ρ, G, δ, x, G1, rl, sr, e1, fun v ρ1 H1 g1 r1 d1 => ?_⟩
  split at e
  · rename_i h zs _
    split at e
    · rename_i z xs eh1 eh2
      split at e
      · rename_i hz
        cases e
        cases d1 with
        | @ref _ ad ea =>
          obtain ⟨vs1, h1, _⟩ := lst_at r1 eh1 ea
          refine ⟨.inl ⟨rfl, _, SqL.of h1⟩, ρ1, G1, δ, _, G2, r1, sr.gr g1, e2, fun w ρ2 H2 g2 r2 d2 => ?_⟩
          obtain ⟨vs, h2, rv⟩ := lst_at r2 eh2 (ref_gr (K := X.K) g2 ea)
          cases d2 with
          | @tup bd us zs hT rT =>
            refine ⟨ad, bd, vs, us, rfl, rfl, h2, hT, by rw [← rv.len, ← rT.len, ← big_line]; exact hz, ?_⟩
            obtain ⟨g3, r3⟩ := r2.wr (o := .lst (vs ++ us)) (m := .lst (xs ++ zs)) (ref_gr (K := X.K) g2 ea) fun g => .lst upd_same ((rv.app rT).gr g)
            exact k .non _ _ ((g1.trans g2).trans g3) r3 .non
      · cases e
    · cases e
  · cases e
end
end Ms

/-! PyC2: a comprehension with two fors. -/
namespace Ms
open PySem PySem.Spec L2 PyProof.Rows
open Mi (Dv MO Sto Sl Rs bnd ME MT MA MS MF Fl MG MGs MI)
open Classical in
noncomputable def mLc2Loop (g : MG) (t : MT) (it1 : MI) (g1 : MG) (t1 : MT) (e : ME) (vs1 : List Nat) (st : Sto → Prop) (δ : Sl) : List Dv → List Dv → Sto → Rs (List Dv)
  | [], acc, G => if st G then some (acc, G) else none
  | d :: ds, acc, G => if st G then match g d δ G with
      | some (δ1, G1) => match t δ1 G1 with
        | some (true, G2) => match it1 δ1 G2 with
          | some ((ds1, st1), G3) => match Mi.mLcLoop g1 t1 e st1 (Mi.wipe δ1 vs1) ds1 acc G3 with
            | some (acc', G4) => mLc2Loop g t it1 g1 t1 e vs1 st δ ds acc' G4
            | none => none
          | none => none
        | some (false, G2) => mLc2Loop g t it1 g1 t1 e vs1 st δ ds acc G2
        | none => none
      | none => none
    else none
/-- [e for g in it if t for g1 in it1 if t1] -/
noncomputable def mLc2 (m : Bool) (it : MI) (g : MG) (t : MT) (it1 : MI) (g1 : MG) (t1 : MT) (e : ME) (vs vs1 : List Nat) : ME := fun δ G => bnd (it δ G) fun p G1 => bnd (mLc2Loop g t it1 g1 t1 e vs1 p.2 (Mi.wipe δ vs) p.1 [] G1) fun xs G2 => some (Mi.mkL m xs G2)
theorem gr_lift {r r' xs : List Addr} {D : Addr} {Ha Hb : Hp} (hr : D ∉ r) (hu : ∃ us, Ha D = some (.lst us)) (gg : Gr ⟨r, D :: xs⟩ Ha ⟨r', D :: xs⟩ Hb) : Gr ⟨r, D :: xs⟩ (upd Ha D (.lst [])) ⟨r', D :: xs⟩ (upd Hb D (.lst [])) := by
  obtain ⟨us, hu⟩ := hu
  refine ⟨gg.pre, fun z hz => ?_, fun z o ho hz => ?_, fun z xs ho => ?_, fun z o u ho => ?_⟩
  · rcases gg.new z hz with q | q
    · exact .inl q
    · refine .inr ?_
      have hzD : z ≠ D := fun w => by rw [w, hu] at q; cases q
      rw [upd_ne hzD]
      exact q
  · by_cases hzD : z = D
    · subst hzD
      rw [upd_same] at ho ⊢
      exact ho
    · rw [upd_ne hzD] at ho ⊢
      exact gg.kp z o ho hz
  · have hzD : z ≠ D := fun w => by rw [w, upd_same] at ho; cases ho
    rw [upd_ne hzD] at ho ⊢
    exact gg.tu z xs ho
  · have hzD : z ≠ D := fun w => by rw [w, upd_same] at ho; cases ho
    rw [upd_ne hzD] at ho ⊢
    exact gg.fz z o u ho
section
variable {X : Cx} {kx : Kx} {mt mt1 : MT} {me : ME} {mi mi1 : MI} {g g1 : MG} {ws ws1 vs vs1 : List Nat}
theorem keepD2 {r r' xs : List Addr} {D : Addr} {Ha Hb : Hp} {us : List V} (hr : D ∉ r) (hu : Ha D = some (.lst us)) (gg : Gr ⟨r, D :: xs⟩ Ha ⟨r', D :: xs⟩ Hb) : Hb D = some (.lst us) := gg.kp D _ hu hr
theorem lc2_inner (hw : ∀ i ∈ ws1, i ∈ vs1) {D : Addr} {xs r1 : List Addr} {H1 : Hp} {G1 : Sto} {δ : Sl} {σ : L2.St} {ds : List Dv} {st : Sto → Prop} {acc0 zs : List Dv} {av0 : List V} {Gz : Sto} {J : It}
    (y : Yl X.K kx ⟨r1, D :: xs⟩ H1 J ds st) (rl : Rl X.K kx ⟨r1, D :: xs⟩ G1 H1) (sr : Sr X.K ⟨r1, D :: xs⟩ H1 δ σ) (hD : H1 D = some (.lst av0)) (da0 : DRs X.K ⟨r1, D :: xs⟩ H1 acc0 av0)
    (e2 : Mi.mLcLoop g1 mt1 me st (Mi.wipe δ vs1) ds acc0 G1 = some (zs, Gz)) {Nx : Hp → Prop}
    (fin : ∀ r5 H5 av, Gr ⟨r1, D :: xs⟩ (upd H1 D (.lst [])) ⟨r5, D :: xs⟩ (upd H5 D (.lst [])) → Gw ⟨r1, D :: xs⟩ H1 ⟨r5, D :: xs⟩ H5 → Rl X.K kx ⟨r5, D :: xs⟩ Gz H5 → H5 D = some (.lst av) → DRs X.K ⟨r5, D :: xs⟩ H5 zs av → Nx H5) :
    ∃ W1 : Nat → Nat → Hp → Prop, (∃ m, W1 0 m H1) ∧ ∀ j k H, W1 j k H → (J.stop j H ∧ Nx H) ∨ (J.go j H ∧ ∃ Nx1 : Hp → Prop, (∀ H', Nx1 H' → ∃ k', k' < k ∧ W1 (j + 1) k' H') ∧ ∀ x H', J.yld j H x H' →
      tG X.K kx ws1 g1 x (L2.wipe σ vs1) H' fun σ3 H5 => L2.wipe σ3 vs1 = L2.wipe σ vs1 ∧ tMT X.K kx mt1 σ3 H5 fun b H6 => if b = true then tM X.K kx me σ3 H6 fun y H7 => ∃ acc, H7 D = some (.lst acc) ∧ acc.length < sizeLine ∧ Nx1 (upd H7 D (.lst (acc ++ [y]))) else Nx1 H6) := by
  refine ⟨fun i n H2 => n = ds.length - i ∧ i ≤ ds.length ∧ ∃ (r2 : List Addr) (G2 : Sto) (acc : List Dv) (av : List V), Gr ⟨r1, D :: xs⟩ (upd H1 D (.lst [])) ⟨r2, D :: xs⟩ (upd H2 D (.lst [])) ∧ Gw ⟨r1, D :: xs⟩ H1 ⟨r2, D :: xs⟩ H2 ∧ Rl X.K kx ⟨r2, D :: xs⟩ G2 H2 ∧ H2 D = some (.lst av) ∧ DRs X.K ⟨r2, D :: xs⟩ H2 acc av ∧
    Mi.mLcLoop g1 mt1 me st (Mi.wipe δ vs1) (ds.drop i) acc G2 = some (zs, Gz), ⟨ds.length, by simp, Nat.zero_le _, r1, G1, acc0, av0, Gr.refl, Gw.refl, rl, hD, da0, by simpa using e2⟩, ?_⟩
  rintro i n H2 ⟨rfl, hi, r2, G2, acc, av, g2, w2, q2, hD2, da, el⟩
  have sr2 : Sr X.K ⟨r2, D :: xs⟩ H2 δ σ := sr.gw w2
  by_cases hlt : i < ds.length
  · have ed : ds.drop i = ds[i] :: ds.drop (i + 1) := List.drop_eq_getElem_cons hlt
    rw [ed] at el
    unfold Mi.mLcLoop at el
    split at el
    · rename_i hst
      obtain ⟨hst, hacc⟩ := hst
      split at el
      · rename_i δ3 G3 eg
        refine .inr ⟨y.go i _ G2 H2 w2 q2 hst hlt, fun H' => ∃ n', n' < ds.length - i ∧ (n' = ds.length - (i + 1) ∧ i + 1 ≤ ds.length ∧ ∃ (r2 : List Addr) (G2 : Sto) (acc : List Dv) (av : List V), Gr ⟨r1, D :: xs⟩ (upd H1 D (.lst [])) ⟨r2, D :: xs⟩ (upd H' D (.lst [])) ∧ Gw ⟨r1, D :: xs⟩ H1 ⟨r2, D :: xs⟩ H' ∧ Rl X.K kx ⟨r2, D :: xs⟩ G2 H' ∧ H' D = some (.lst av) ∧ DRs X.K ⟨r2, D :: xs⟩ H' acc av ∧
          Mi.mLcLoop g1 mt1 me st (Mi.wipe δ vs1) (ds.drop (i + 1)) acc G2 = some (zs, Gz)), fun _ h => h, fun x H' hy => ?_⟩
        obtain ⟨gy, ry, dy⟩ := y.yld i ds[i] _ G2 H2 x H' w2 q2 hst (List.getElem?_eq_getElem hlt) hy
        have hDr : D ∉ r2 := (q2.xt D (List.mem_cons_self ..)).2
        refine ⟨_, G2, Mi.wipe δ vs1, ds[i], δ3, G3, ry, (sr2.gr gy).wipe vs1, dy, eg, fun ρ3 σ3 H3 g3 r3 s3 l3 n3 => ⟨?_, ?_⟩⟩
        · refine wipe_eq (by rw [l3, L2.wipe_length]) (fun j hj => n3 j fun z => hj (hw j z)) (L2.wipe_length σ vs1)
        obtain ⟨r3', x3⟩ := ρ3
        obtain rfl : x3 = D :: xs := g3.pre.2
        have gA := gy.trans g3
        split at el
        · rename_i G4 et
          refine ⟨_, G3, δ3, true, G4, r3, s3, et, fun ρ4 H4 g4 r4 => ?_⟩
          dsimp only
          rw [if_pos rfl]
          obtain ⟨r4', x4⟩ := ρ4
          obtain rfl : x4 = D :: xs := g4.pre.2
          split at el
          · rename_i yv G5 ey
            refine ⟨_, G4, δ3, yv, G5, r4, s3.gr g4, ey, fun v ρ5 H5 g5 r5 d5 => ?_⟩
            obtain ⟨r5', x5⟩ := ρ5
            obtain rfl : x5 = D :: xs := g5.pre.2
            have gB := (gA.trans g4).trans g5
            have hD5 := keepD2 hDr hD2 gB
            refine ⟨av, hD5, by rw [← (da.len), ← big_line]; exact hacc, _, by omega, rfl, hlt, r5', G5, acc ++ [yv], av ++ [v], ?_⟩
            obtain ⟨gm, rm⟩ := r5.more (av ++ [v]) (List.mem_cons_self ..) hD5
            refine ⟨?_, (w2.trans gB.w).trans gm, rm, upd_same, ((da.gr gB).gw gm).app (.cons (d5.gw gm) .nil), el⟩
            rw [upd_upd]
            exact g2.trans (gr_lift hDr ⟨av, hD2⟩ gB)
          · cases el
        · rename_i G4 et
          refine ⟨_, G3, δ3, false, G4, r3, s3, et, fun ρ4 H4 g4 r4 => ?_⟩
          dsimp only
          rw [if_neg (fun z => Bool.false_ne_true z)]
          obtain ⟨r4', x4⟩ := ρ4
          obtain rfl : x4 = D :: xs := g4.pre.2
          have gB := gA.trans g4
          exact ⟨_, by omega, rfl, hlt, r4', G4, acc, av, g2.trans (gr_lift hDr ⟨av, hD2⟩ gB), w2.trans gB.w, r4, keepD2 hDr hD2 gB, da.gr gB, el⟩
        · cases el
      · cases el
    · cases el
  · have ed : ds.drop i = [] := List.drop_eq_nil_of_le (by omega)
    rw [ed] at el
    unfold Mi.mLcLoop at el
    split at el
    · rename_i hst
      cases el
      have hi' : i = ds.length := by omega
      subst hi'
      exact .inl ⟨y.stop _ _ H2 w2 q2 hst, fin r2 H2 av g2 w2 q2 hD2 da⟩
    · cases el
theorem lc2_go {m : Bool} {σ : L2.St} {H : Hp} {Q : VK} (hw : ∀ i ∈ ws, i ∈ vs) (hw1 : ∀ i ∈ ws1, i ∈ vs1) (h : tM X.K kx (mLc2 m mi g mt mi1 g1 mt1 me vs vs1) σ H Q) :
    tLc2 (tI X.K kx mi) (tG X.K kx ws g) (tMT X.K kx mt) (tI X.K kx mi1) (tG X.K kx ws1 g1) (tMT X.K kx mt1) (tM X.K kx me) vs vs1 σ H Q := by
  obtain ⟨ρ, G, δ, d, G', rl, sr, e, k⟩ := h
  obtain ⟨⟨ds, st⟩, G1, e1, e⟩ := Mi.bnd_eq e
  obtain ⟨zs, Gz, e2, e⟩ := Mi.bnd_eq e
  dsimp only at e2 e
  refine ⟨ρ, G, δ, ds, st, G1, rl, sr, e1, fun J ρ1 H1 g1' r1 y D hD => ?_⟩
  obtain ⟨gf, rf⟩ := r1.fill [] hD
  have nD : D ∉ ρ1.x := (r1.free hD).2
  refine ⟨fun i n H2 => n = ds.length - i ∧ i ≤ ds.length ∧ ∃ (r2 : List Addr) (G2 : Sto) (acc : List Dv) (av : List V), Gr ⟨ρ1.r, D :: ρ1.x⟩ (upd H1 D (.lst [])) ⟨r2, D :: ρ1.x⟩ (upd H2 D (.lst [])) ∧ Gw ⟨ρ1.r, D :: ρ1.x⟩ (upd H1 D (.lst [])) ⟨r2, D :: ρ1.x⟩ H2 ∧ Rl X.K kx ⟨r2, D :: ρ1.x⟩ G2 H2 ∧ H2 D = some (.lst av) ∧ DRs X.K ⟨r2, D :: ρ1.x⟩ H2 acc av ∧
    mLc2Loop g mt mi1 g1 mt1 me vs1 st (Mi.wipe δ vs) (ds.drop i) acc G2 = some (zs, Gz), ⟨ds.length, by simp, Nat.zero_le _, ρ1.r, G1, [], [], by rw [upd_upd]; exact Gr.refl, Gw.refl, rf, upd_same, .nil, by simpa using e2⟩, ?_⟩
  rintro i n H2 ⟨rfl, hi, r2, G2, acc, av, g2, w2, q2, hD2, da, el⟩
  have sr2 : Sr X.K ⟨r2, D :: ρ1.x⟩ H2 δ σ := ((sr.gr g1').gw gf).gw w2
  by_cases hlt : i < ds.length
  · have ed : ds.drop i = ds[i] :: ds.drop (i + 1) := List.drop_eq_getElem_cons hlt
    rw [ed] at el
    unfold mLc2Loop at el
    split at el
    · rename_i hst
      split at el
      · rename_i δ3 G3 eg
        refine .inr ⟨y.go i _ G2 H2 (gf.trans w2) q2 hst hlt, fun H' => ∃ n', n' < ds.length - i ∧ (n' = ds.length - (i + 1) ∧ i + 1 ≤ ds.length ∧ ∃ (r2 : List Addr) (G2 : Sto) (acc : List Dv) (av : List V), Gr ⟨ρ1.r, D :: ρ1.x⟩ (upd H1 D (.lst [])) ⟨r2, D :: ρ1.x⟩ (upd H' D (.lst [])) ∧ Gw ⟨ρ1.r, D :: ρ1.x⟩ (upd H1 D (.lst [])) ⟨r2, D :: ρ1.x⟩ H' ∧ Rl X.K kx ⟨r2, D :: ρ1.x⟩ G2 H' ∧ H' D = some (.lst av) ∧ DRs X.K ⟨r2, D :: ρ1.x⟩ H' acc av ∧
          mLc2Loop g mt mi1 g1 mt1 me vs1 st (Mi.wipe δ vs) (ds.drop (i + 1)) acc G2 = some (zs, Gz)), fun _ h => h, fun x H' hy => ?_⟩
        obtain ⟨gy, ry, dy⟩ := y.yld i ds[i] _ G2 H2 x H' (gf.trans w2) q2 hst (List.getElem?_eq_getElem hlt) hy
        have hDr : D ∉ r2 := (q2.xt D (List.mem_cons_self ..)).2
        refine ⟨_, G2, Mi.wipe δ vs, ds[i], δ3, G3, ry, (sr2.gr gy).wipe vs, dy, eg, fun ρ3 σ3 H3 g3 r3 s3 l3 n3 => ⟨?_, ?_⟩⟩
        · refine wipe_eq (by rw [l3, L2.wipe_length]) (fun j hj => n3 j fun z => hj (hw j z)) (L2.wipe_length σ vs)
        obtain ⟨r3', x3⟩ := ρ3
        obtain rfl : x3 = D :: ρ1.x := g3.pre.2
        have gA := gy.trans g3
        split at el
        · rename_i G4 et
          refine ⟨_, G3, δ3, true, G4, r3, s3, et, fun ρ4 H4 g4 r4 => ?_⟩
          dsimp only
          rw [if_pos rfl]
          obtain ⟨r4', x4⟩ := ρ4
          obtain rfl : x4 = D :: ρ1.x := g4.pre.2
          split at el
          · rename_i ds1 st1 G5 ey
            refine ⟨_, G4, δ3, ds1, st1, G5, r4, s3.gr g4, ey, fun J1 ρ5 H5 g5 r5 y1 => ?_⟩
            obtain ⟨r5', x5⟩ := ρ5
            obtain rfl : x5 = D :: ρ1.x := g5.pre.2
            have gB := (gA.trans g4).trans g5
            have hD5 := keepD2 hDr hD2 gB
            split at el
            · rename_i acc' G6 ei
              exact lc2_inner hw1 y1 r5 ((s3.gr g4).gr g5) hD5 (da.gr gB) ei fun r6 H6 av6 ga gb rc hD6 da6 => ⟨_, by omega, rfl, hlt, r6, G6, acc', av6, (g2.trans (gr_lift hDr ⟨av, hD2⟩ gB)).trans ga, (w2.trans gB.w).trans gb, rc, hD6, da6, el⟩
            · cases el
          · cases el
        · rename_i G4 et
          refine ⟨_, G3, δ3, false, G4, r3, s3, et, fun ρ4 H4 g4 r4 => ?_⟩
          dsimp only
          rw [if_neg (fun z => Bool.false_ne_true z)]
          obtain ⟨r4', x4⟩ := ρ4
          obtain rfl : x4 = D :: ρ1.x := g4.pre.2
          have gB := gA.trans g4
          exact ⟨_, by omega, rfl, hlt, r4', G4, acc, av, g2.trans (gr_lift hDr ⟨av, hD2⟩ gB), w2.trans gB.w, r4, keepD2 hDr hD2 gB, da.gr gB, el⟩
        · cases el
      · cases el
    · cases el
  · have ed : ds.drop i = [] := List.drop_eq_nil_of_le (by omega)
    rw [ed] at el
    unfold mLc2Loop at el
    split at el
    · rename_i hst
      cases el
      have hi' : i = ds.length := by omega
      subst hi'
      refine .inl ⟨y.stop _ _ H2 (gf.trans w2) q2 hst, ?_⟩
      have hDr : D ∉ r2 := (q2.xt D (List.mem_cons_self ..)).2
      have e' := Option.some.inj e
      -- the growth from ahead of the list
      have base : ∀ r' : List Addr, (∃ t, r' = ρ1.r ++ t) → (∀ z ∈ r', z ∈ r2 ∨ z = D) → Gr ρ1 H1 ⟨r', ρ1.x⟩ H2 := fun r' hp hs => by
        refine ⟨⟨hp, rfl⟩, fun z hz => ?_, fun z o ho hz => ?_, fun z xs ho => ?_, fun z o u ho => ?_⟩
        · rcases hs z hz with q | q
          · rcases g2.new z q with w | w
            · exact .inl w
            · by_cases hzD : z = D
              · rw [hzD]; exact .inr hD
              · rw [upd_ne hzD] at w
                exact .inr w
          · rw [q]; exact .inr hD
        · have hzD : z ≠ D := ne_of_none ho hD
          have := g2.kp z o (by rw [upd_ne hzD]; exact ho) hz
          rw [upd_ne hzD] at this
          exact this
        · have hzD : z ≠ D := ne_of_none ho hD
          have := g2.tu z xs (by rw [upd_ne hzD]; exact ho)
          rw [upd_ne hzD] at this
          exact this
        · have hzD : z ≠ D := ne_of_none ho hD
          have := g2.fz z o u (by rw [upd_ne hzD]; exact ho)
          rw [upd_ne hzD] at this
          exact this
      obtain ⟨t2, ht2⟩ := g2.pre.1
      have ht2' : r2 = ρ1.r ++ t2 := ht2
      cases m with
      | false =>
        obtain ⟨gw, rw'⟩ := q2.full
        cases e'
        exact k _ ⟨r2, ρ1.x⟩ H2 (g1'.trans (base r2 ⟨t2, ht2'⟩ fun z hz => .inl hz)) rw' (.fls hD2 ⟨hDr, nD⟩ (da.gw gw))
      | true =>
        obtain ⟨gw, rw'⟩ := q2.fullM nD hD2 da
        cases e'
        refine k _ ⟨r2 ++ [D], ρ1.x⟩ H2 (g1'.trans (base (r2 ++ [D]) ⟨t2 ++ [D], by rw [ht2']; simp⟩ fun z hz => ?_)) rw' (.ref ?_)
        · rcases List.mem_append.mp hz with q | q
          · exact .inl q
          · exact .inr (by simpa using q)
        · show (r2 ++ [D])[Gz.length]? = some D
          have hl : r2.length = Gz.length := q2.len
          rw [← hl, List.getElem?_append_right (Nat.le_refl _)]
          simp
    · cases el
theorem m_lc2 (m : Bool) {elt it tg it1 tg1 : Expr} {ifs ifs1 : List Expr} {scope : Scope} {own : List (Str × Nat)} {pos : Pos} (hc : X.calm = true) (hN : X.N.Nodup) (hi : PI X tg it (tI X.K kx mi)) (ok : BlkOk X.N X.env.scope scope own) (hw : ∀ i ∈ ws, i ∈ own.map (·.2)) (hw1 : ∀ i ∈ ws1, i ∈ vs1) (hv : ∀ i ∈ vs1, i ∈ own.map (·.2))
    (hg : ∀ (s : Shared) (H : Hp) (C : Addr) (cl : List (Str × Addr)) (fp : List Addr), PG (X.blk s H scope (compEnvC scope cl C X.env) fp) tg (tG X.K kx ws g)) (ht : ∀ (s : Shared) (H : Hp) (C : Addr) (cl : List (Str × Addr)) (fp : List Addr), PTs (X.blk s H scope (compEnvC scope cl C X.env) fp) ifs (tMT X.K kx mt))
    (hi1 : ∀ (s : Shared) (H : Hp) (C : Addr) (cl : List (Str × Addr)) (fp : List Addr), PI (X.blk s H scope (compEnvC scope cl C X.env) fp) tg1 it1 (tI X.K kx mi1))
    (hg1 : ∀ (s : Shared) (H : Hp) (C : Addr) (cl : List (Str × Addr)) (fp : List Addr), PG (X.blk s H scope (compEnvC scope cl C X.env) fp) tg1 (tG X.K kx ws1 g1)) (ht1 : ∀ (s : Shared) (H : Hp) (C : Addr) (cl : List (Str × Addr)) (fp : List Addr), PTs (X.blk s H scope (compEnvC scope cl C X.env) fp) ifs1 (tMT X.K kx mt1))
    (he : ∀ (s : Shared) (H : Hp) (C : Addr) (cl : List (Str × Addr)) (fp : List Addr), PE (X.blk s H scope (compEnvC scope cl C X.env) fp) elt (tM X.K kx me)) (hfs : ∀ x, foldedSetIterable it X.env x = pure x := by intro _; rfl) (hfs1 : ∀ env x, foldedSetIterable it1 env x = pure x := by intro _ _; rfl) :
    PE X (.ListComp elt [⟨tg, it, ifs, 0⟩, ⟨tg1, it1, ifs1, 0⟩] scope pos) (tM X.K kx (mLc2 m mi g mt mi1 g1 mt1 me (own.map (·.2)) vs1)) :=
  (pe_lc2 hc hN hi ok hv hg ht hi1 hg1 ht1 he (hs := hfs) (hs1 := hfs1)).imp fun σ H Q h => lc2_go hw hw1 h
theorem s_setLc2 (i : Nat) (m : Bool) {y : Str} {py spos : Pos} {elt it tg it1 tg1 : Expr} {ifs ifs1 : List Expr} {scope : Scope} {own : List (Str × Nat)} {pos : Pos} (hc : X.calm = true) (hN : X.N.Nodup) (hy : X.N[i]? = some y) (hyl : X.env.scope.names.lookup y = some .local) (hsw : swapsWith (.ListComp elt [⟨tg, it, ifs, 0⟩, ⟨tg1, it1, ifs1, 0⟩] scope pos) (some (.Name y py)) spos.line X.env = pure true)
    (hi : PI X tg it (tI X.K kx mi)) (ok : BlkOk X.N X.env.scope scope own) (hw : ∀ i ∈ ws, i ∈ own.map (·.2)) (hw1 : ∀ i ∈ ws1, i ∈ vs1) (hv : ∀ i ∈ vs1, i ∈ own.map (·.2))
    (hg : ∀ (s : Shared) (H : Hp) (C : Addr) (cl : List (Str × Addr)) (fp : List Addr), PG (X.blk s H scope (compEnvC scope cl C X.env) fp) tg (tG X.K kx ws g)) (ht : ∀ (s : Shared) (H : Hp) (C : Addr) (cl : List (Str × Addr)) (fp : List Addr), PTs (X.blk s H scope (compEnvC scope cl C X.env) fp) ifs (tMT X.K kx mt))
    (hi1 : ∀ (s : Shared) (H : Hp) (C : Addr) (cl : List (Str × Addr)) (fp : List Addr), PI (X.blk s H scope (compEnvC scope cl C X.env) fp) tg1 it1 (tI X.K kx mi1))
    (hg1 : ∀ (s : Shared) (H : Hp) (C : Addr) (cl : List (Str × Addr)) (fp : List Addr), PG (X.blk s H scope (compEnvC scope cl C X.env) fp) tg1 (tG X.K kx ws1 g1)) (ht1 : ∀ (s : Shared) (H : Hp) (C : Addr) (cl : List (Str × Addr)) (fp : List Addr), PTs (X.blk s H scope (compEnvC scope cl C X.env) fp) ifs1 (tMT X.K kx mt1))
    (he : ∀ (s : Shared) (H : Hp) (C : Addr) (cl : List (Str × Addr)) (fp : List Addr), PE (X.blk s H scope (compEnvC scope cl C X.env) fp) elt (tM X.K kx me)) (hfs : ∀ x, foldedSetIterable it X.env x = pure x := by intro _; rfl) (hfs1 : ∀ env x, foldedSetIterable it1 env x = pure x := by intro _ _; rfl) :
    PS X (.Assign [.Name y py] (.ListComp elt [⟨tg, it, ifs, 0⟩, ⟨tg1, it1, ifs1, 0⟩] scope pos) spos) (sM X.K kx (Mi.mAsg (mLc2 m mi g mt mi1 g1 mt1 me (own.map (·.2)) vs1) (Mi.gNm i))) :=
  (ps_setLc2 (i := i) hc hN hy hyl hsw hi ok hv hg ht hi1 hg1 ht1 he (hs := hfs) (hs1 := hfs1)).imp fun D σ H ⟨ρ, G, δ, f, δ', G', rl, sr, e, k⟩ => by
  unfold Mi.mAsg at e
  split at e
  · rename_i d G1 e1
    cases e
    exact lc2_go hw hw1 ⟨ρ, G, δ, d, _, rl, sr, e1, fun v ρ1 H1 g1 r1 d1 => k ρ1 _ H1 g1 r1 ((sr.gr g1).set i d1)⟩
  · cases e
end
end Ms

/-! PyU: a list is unpacked. -/
namespace Ms
open PySem PySem.Spec L2 PyProof.Rows
open Mi (Dv MO Sto Sl Rs bnd ME MT MA MS MF Fl MG MGs MI)
def gUnL (n : Nat) (g : MGs) : MG := fun d δ G => match Mi.lstOf G d with
  | some xs => if xs.length = n then g xs δ G else none
  | none => none
section
variable {X : Cx} {kx : Kx} {es : List Expr} {pos : Pos}
theorem g_unl {ws : List Nat} {gs : MGs} {n : Nat} {kk : Nat} (hc : X.calm = true) (h : PGs X es (tGs X.K kx ws gs)) (hn : (assignEach es X.env).length = n := by rfl) (hst : (assignEach es X.env).findIdx? (·.1) = none := by rfl) : PG X (.Tuple es kk pos) (tG X.K kx ws (gUnL n gs)) :=
  (pg_unl hc h hn hst).imp fun v σ H Q ⟨ρ, G, δ, d, δ', G', rl, sr, dr, e, k⟩ => by
  unfold gUnL at e
  split at e
  · rename_i xs hx
    split at e
    · rename_i hz
      obtain ⟨a, vs, e1, h1, q⟩ := lstOf_at rl hx dr
      exact ⟨a, vs, e1, h1, by rw [← q.len]; exact hz, ρ, G, δ, _, δ', G', rl, sr, q, e, k⟩
    · cases e
  · cases e
end
end Ms

/-! PyR: a repr is kept. -/
namespace Ms
open PySem PySem.Spec L2 PyProof.Rows
open Mi (Dv MO Sto Sl Rs bnd ME MT MA MS MF Fl MG MGs MI)
open Classical in
noncomputable def txt (d : PyData) : String := if h : ∃ s : String, Str.ofString s = d.shown then h.choose else ""
theorem txt_ok {d : PyData} (h : ∃ s : String, Str.ofString s = d.shown) : Str.ofString (txt d) = d.shown := by
  unfold txt
  rw [dif_pos h]
  exact h.choose_spec
open Classical in
noncomputable def mReprK (a : ME) : ME := fun δ G => bnd (a δ G) fun x G1 => match Mi.pyT G1 x with
  | some d => if Mi.okR d ∧ Str.ofString (txt d) = d.shown then some (.str (txt d), G1) else none
  | none => none
section
variable {X : Cx} {kx : Kx} {e a b c o : Expr} {ma mb mc me mo : ME} {pos p apos : Pos}
theorem m_reprK {p : Pos} (hG : X.A.guards = some []) (hu : X.A.units + 64 < cLine) (hm : X.mg "repr" = none) (ha : PE X a (tM X.K kx ma)) (hg : Gl X "repr" := by rfl) (he : starEach [a] X.env = (false, eval a X.env) :: starEach [] X.env := by rfl) (hpl : (backTo pos (starEach [] X.env)).any (·.1) = false := by rfl) :
    PE X (.Call (.Name "repr" p) [a] [] pos) (tM X.K kx (mReprK ma)) := (pe_repr hG hu hm ha hg he hpl).imp fun σ H Q ⟨ρ, G, δ, d, G', rl, sr, e, k⟩ => by
  obtain ⟨x, G1, e1, e⟩ := Mi.bnd_eq e
  split at e
  · rename_i pd p1
    split at e
    · rename_i hz
      cases e
      refine ⟨ρ, G, δ, x, _, rl, sr, e1, fun v ρ1 H1 g1 r1 d1 => ⟨v, pd, rfl, pyT_dp r1 p1 d1, hz.1, ?_⟩⟩
      rw [← hz.2]
      exact k _ ρ1 H1 g1 r1 (.str _)
    · cases e
  · cases e
end
end Ms

/-! PyZt: zip of two tuples, by the library's own rule (RZ.pi_zipA). -/
namespace Ms
open PySem L2 PyProof.Rows
open Mi (Dv MO Sto Sl Rs bnd ME MT MA MS MF Fl MG MGs MI)
def mZipT (a b : ME) : MI := fun δ G => bnd (a δ G) fun x G1 => bnd (b δ G1) fun y G2 => match x, y with
  | .tup xs, .tup ys => some ((List.zipWith (fun p q => .tup [p, q]) xs ys, fun _ => True), G2)
  | _, _ => none
theorem i_zipT {X : Cx} {kx : Kx} {a b : Expr} {ma mb : ME} {elts : List Expr} {kk : Nat} {tpos p pos : Pos} (hm : X.mg "zip" = none) (ha : PE X a (tM X.K kx ma)) (hb : PE X b (tM X.K kx mb)) (hg : Gl X "zip" := by rfl)
    (hs : Es X a [b] := by rfl) (hs2 : Es X b [] := by rfl) (hpl : Np X pos [b] := by rfl) :
    PI X (.Tuple elts kk tpos) (.Call (.Name "zip" p) [a, b] [] pos) (tI X.K kx (mZipT ma mb)) :=
  (RZ.pi_zipA hg hm (pa_cons ha (pa_cons hb pa_nil hs2) hs) hs hpl).imp fun σ H R ⟨ρ, G, δ, ds, st, G', rl, sr, e, k⟩ => by
  obtain ⟨x, G1, e1, e⟩ := Mi.bnd_eq e
  obtain ⟨y, G2, e2, e⟩ := Mi.bnd_eq e
  refine ⟨ρ, G, δ, x, G1, rl, sr, e1, fun v ρ1 H1 g1 r1 d1 => ⟨ρ1, G1, δ, y, G2, r1, sr.gr g1, e2, fun w ρ2 H2 g2 r2 d2 => ?_⟩⟩
  split at e
  · rename_i xs ys _
    cases e
    cases d1.gr g2 with
    | @tup ad vs _ hS rS =>
    cases d2 with
    | @tup bd ws _ hT rT =>
      refine ⟨ad, bd, vs, ws, rfl, .inr ⟨hS, hT, k _ ρ2 H2 (g1.trans g2) r2 ?_⟩⟩
      refine ⟨fun ρ G H g r s => ?_, fun i ρ G H g r s hi => ?_, fun i d ρ G H z H' g r s hd hy => ?_⟩
      · have h := SqT.gw g hS
        have dr := rS.gw g
        refine ⟨vs, ws, h, SqT.gw g hT, ?_⟩
        rw [List.length_zipWith, dr.len, rT.len]
        omega
      · have h := SqT.gw g hS
        have dr := rS.gw g
        rw [List.length_zipWith, dr.len, rT.len] at hi
        have i1 : i < vs.length := by omega
        have i2 : i < ws.length := by omega
        exact ⟨vs, ws, vs[i], ws[i], h, SqT.gw g hT, List.getElem?_eq_getElem i1, List.getElem?_eq_getElem i2⟩
      · obtain ⟨T, u1, u2, ev, hN, eH, f1, f2⟩ := hy
        subst ev eH
        have h := SqT.gw g hS
        have dr := rS.gw g
        obtain ⟨p1, q1, hp, hq, rfl⟩ := zw_get xs ys i d hd
        obtain ⟨v1, hv1, dv1⟩ := dr.get hp
        obtain ⟨v2, hv2, dv2⟩ := (rT.gw g).get hq
        have t1 := f1 vs h
        rw [hv1] at t1
        cases t1
        have t2 := f2 ws (SqT.gw g hT)
        rw [hv2] at t2
        cases t2
        obtain ⟨g3, r3⟩ := r.side (.tup [u1, u2]) hN
        exact ⟨g3, r3, .tup (SqT.of upd_same) (.cons (dv1.gr g3) (.cons (dv2.gr g3) .nil))⟩
  · cases e
end Ms

/-! PyI: in, not in; xs.pop(i); sorted; list(range(n)); max of a tuple of whole numbers. -/
namespace Ms
open PySem PySem.Spec L2 PyProof.Rows
open Mi (Dv MO Sto Sl Rs bnd ME MT MA MS MF Fl MG MGs MI)
/-! ### x in xs -/
def bIn (neg : Bool) : Mi.B2
  | .int i, y, G => match Mi.seqOf G y with
    | some xs => match Mi.intsOf xs with
      | some zs => some (.bl (decide (i ∈ zs) != neg), G)
      | none => none
    | none => none
  | _, _, _ => none
theorem inV_int (i : Int) : ∀ zs : List Int, inV (.int i) (zs.map V.int) = decide (i ∈ zs)
  | [] => by simp [inV]
  | z :: zs => by
    have h := inV_int i zs
    unfold inV at h ⊢
    rw [List.map_cons, List.any_cons, h]
    by_cases c : z = i
    · subst c
      simp [eqV]
    · have c' : ¬ i = z := fun q => c q.symm
      simp [eqV, c, c']
theorem b_in {X : Cx} {kx : Kx} (neg : Bool) : B2ok X kx (bIn neg) (rIn X.K neg) := by
  intro x y G d G' ρ H v w Q e rl dx dy k
  unfold bIn at e
  split at e
  · rename_i i
    split at e
    · rename_i xs hx
      split at e
      · rename_i zs hz
        cases e
        cases dx
        obtain ⟨a, vs, ew, hs, dr⟩ := seqOf_at rl hx dy
        have ev := ints_of hz dr
        subst ev
        refine ⟨a, zs.map V.int, ew, hs, rfl, by rw [List.all_map]; exact List.all_eq_true.mpr fun z _ => rfl, ?_⟩
        rw [inV_int]
        have := k (.bl (decide (i ∈ zs) != neg)) ρ H Gr.refl rl (.bl _)
        cases neg
        · simpa using this
        · simpa using this
      · cases e
    · cases e
  · cases e
/-! ### sorted -/
def srt (ns : List Int) : List Int := ns.mergeSort fun a b => decide (a ≤ b)
theorem srt_perm (ns : List Int) : (srt ns).Perm ns := List.mergeSort_perm ns _
theorem srt_pw (ns : List Int) : (srt ns).Pairwise (· ≤ ·) := by
  have := List.pairwise_mergeSort (le := fun a b : Int => decide (a ≤ b)) (fun a b c h1 h2 => by simp at h1 h2 ⊢; omega) (fun a b => by simp; omega) ns
  exact this.imp fun h => by simpa using h
theorem srt_uniq {ns ms : List Int} (p : ms.Perm ns) (w : ms.Pairwise (· ≤ ·)) : ms = srt ns :=
  List.Perm.eq_of_pairwise (fun a b _ _ h1 h2 => Int.le_antisymm h1 h2) w (srt_pw ns) (p.trans (srt_perm ns).symm)
def fSorted (m : Bool) : List Dv → Sto → Rs Dv
  | [x], G => match Mi.lstOf G x with
    | some xs => match Mi.intsOf xs with
      | some ns => some (Mi.mkL m ((srt ns).map Dv.int) G)
      | none => none
    | none => none
  | _, _ => none
theorem drs_ints {K : PySem.W.Frag} {ρ : Rh} {H : Hp} : ∀ ns : List Int, DRs K ρ H (ns.map Dv.int) (ns.map V.int)
  | [] => .nil
  | n :: ns => .cons (.int n) (drs_ints ns)
theorem f_sorted {X : Cx} {kx : Kx} (m : Bool) : Bok X kx (fSorted m) (rSortedI X.K) := by
  intro xs G d G' ρ H vs Q e rl ds k
  unfold fSorted at e
  split at e
  · rename_i x
    split at e
    · rename_i ys hy
      split at e
      · rename_i ns hn
        have e' := Option.some.inj e
        cases ds with
        | cons a b =>
          cases b
          obtain ⟨p, us, ev, hs, dr⟩ := lstOf_at rl hy a
          have eu := ints_of hn dr
          subst ev eu
          refine ⟨p, ns, rfl, hs, fun ns' q pm pw hq => ?_⟩
          rw [srt_uniq pm pw]
          refine mkL_ok (m := m) rl (drs_ints (srt ns)) ?_ q hq
          rw [e']
          exact fun z ρ' H' g r w => k z ρ' H' g r w
      · cases e
    · cases e
  · cases e
/-! ### max of a tuple of whole numbers -/
def fMaxTI : List Dv → Sto → Rs Dv
  | [.tup xs], G => match Mi.intsOf xs with
    | some (n :: ns) => some (.int (ns.foldl max n), G)
    | _ => none
  | _, _ => none
def rMaxTI (K : PySem.W.Frag) : List V → Hp → VK → Prop := fun vs H Q => ∃ (a : Addr) (n : Int) (ns : List Int), vs = [V.ref a] ∧ SqT K H a ((n :: ns).map V.int) ∧ Q (.int (ns.foldl max n)) H
theorem reads_is {h : Heap} : ∀ {vs : List Value} {ns : List Int}, IntsAre vs ns → ReadsAll h vs (ns.map PyData.int) []
  | [], [], _ => .nil
  | _ :: _, _ :: _, hi => by
    cases hi
    rename_i h
    exact .cons (.int _ _) (reads_is h)
theorem cr_maxTI {X : Cx} {k : Nat} (hc : X.calm = true) (hr : Room k X.A) : CallR X (.builtin "max") (rMaxTI X.K) := by
  rintro pins s σ H _ us Q I r ⟨a, n, ns, rfl, ha, q⟩
  have ⟨its, r1, p1, _⟩ := I.tuple ha
  rw [Vals.ref1 r]
  have hi := r1.ints
  have hu : X.A.units + 1 + PyData.depthAll (.int n :: ns.map PyData.int) < cLine := by
    have h0 : ∀ ns : List Int, PyData.depthAll (ns.map PyData.int) = 0 := fun ns => by
      induction ns with
      | nil => simp [PyData.depthAll]
      | cons n ns ih => simp [PyData.depthAll, PyData.depth, ih]
    have := h0 (n :: ns)
    rw [List.map_cons] at this
    rw [this]
    have := hr.un
    omega
  have ra := reads_is (h := s.heap) hi
  refine PySem.W.max_tuple_data (I.ok.hd hc) p1 (x := .int n) (xs := ns.map PyData.int) ra ⟨fun x hx y hy => ?_, fun x hx => ?_⟩ hu fun i v h' tk bs hv rd kp => ?_
  · have one : ∀ {z : PyData}, z ∈ (PyData.int n :: ns.map PyData.int) → ∃ m, z = .int m := fun {z} hz => by
      have w : z ∈ (n :: ns).map PyData.int := hz
      obtain ⟨m, _, em⟩ := List.mem_map.mp w
      exact ⟨m, em.symm⟩
    obtain ⟨m1, rfl⟩ := one hx
    obtain ⟨m2, rfl⟩ := one hy
    rfl
  · rcases List.mem_cons.mp hx with rfl | hx
    · exact fun z => nomatch z
    · obtain ⟨m, _, rfl⟩ := List.mem_map.mp hx
      exact fun z => nomatch z
  · rw [PySem.W.maxD_ints] at rd
    cases rd with
    | int _ t => exact ⟨.int _, H, I.kept (t' := tk) kp, ⟨_, rfl⟩, q⟩
theorem f_maxTI {X : Cx} {kx : Kx} : Bok X kx fMaxTI (rMaxTI X.K) := by
  intro xs G d G' ρ H vs Q e rl ds k
  unfold fMaxTI at e
  split at e
  · rename_i ys
    split at e
    · rename_i n ns hn
      cases e
      cases ds with
      | cons a b =>
        cases b
        cases a with
        | @tup ad ws _ hT rT =>
          have ev := ints_of hn rT
          subst ev
          exact ⟨_, n, ns, rfl, hT, k _ ρ H Gr.refl rl (.int _)⟩
    · cases e
  · cases e
/-! ### int(flag) -/
def fIntB : List Dv → Sto → Rs Dv
  | [.bl b], G => some (.int (if b then 1 else 0), G)
  | _, _ => none
theorem f_intB {X : Cx} {kx : Kx} : Bok X kx fIntB (fun xs H Q => (∃ i, xs = [.int i] ∧ Q (.int i) H) ∨ ∃ k, xs = [.bl k] ∧ Q (.int (if k then 1 else 0)) H) := by
  intro xs G d G' ρ H vs Q e rl ds k
  unfold fIntB at e
  split at e
  · cases e
    cases ds with
    | cons a b =>
      cases b
      cases a
      exact .inr ⟨_, rfl, k _ ρ H Gr.refl rl (.int _)⟩
  · cases e
/-! ### xs.pop(i), list(range(n)) -/
def mPopAt (o a : ME) : ME := fun δ G => bnd (o δ G) fun x G1 => bnd (a δ G1) fun y G2 => match x, y with
  | .ref h, .int i => match G1[h]?, G2[h]? with
    | some (.lst _), some (.lst xs) => match Mi.ixN xs.length i with
      | some k => match xs[k]? with
        | some z => if xs.length ≤ Mi.big then some (z, G2.set h (.lst (xs.eraseIdx k))) else none
        | none => none
      | none => none
    | _, _ => none
  | _, _ => none
theorem six {n : Nat} {i : Int} {k : Nat} (hn : n ≤ Mi.big) (h : Mi.ixN n i = some k) : seqIndex? i n = some k ∧ -(2 ^ 63) ≤ i ∧ i < 2 ^ 63 := by
  unfold Mi.ixN at h
  have hb : Mi.big = 16777216 := rfl
  rw [hb] at hn
  split at h
  · split at h
    · rename_i h1 h2
      cases h
      refine ⟨?_, by omega, by omega⟩
      unfold seqIndex?
      simp only [show ¬ i < 0 by omega, if_false]
      rw [if_pos (by simp; omega)]
    · cases h
  · split at h
    · rename_i h1 h2
      cases h
      refine ⟨?_, by omega, by omega⟩
      unfold seqIndex?
      simp only [show i < 0 by omega, if_true]
      rw [if_pos (by simp; omega)]
    · cases h
section
variable {X : Cx} {kx : Kx} {e a b c o : Expr} {ma mb mc me mo : ME} {pos p apos : Pos}
theorem m_popAt (ho : PE X o (tM X.K kx mo)) (ha : PE X a (tM X.K kx ma)) (hbase : attributeBase o "pop" X.env (eval o X.env) = eval o X.env := by rfl)
    (hfew : ((backTo pos (starEach [a] X.env)).all (fun x => !x.1) && (backToKw pos (keywordEach [] X.env)).all (fun x => x.1.isSome) && decide (([a] : List Expr).length + ([] : List Keyword).length + (if ([] : List Keyword).isEmpty then 0 else 1) < 30)) = true := by rfl)
    (hline : (apos.endLine == pos.line) = true := by rfl) (hs : starEach [a] X.env = (false, eval a X.env) :: starEach [] X.env := by rfl) (hplain : (backTo pos (starEach [] X.env)).any (·.1) = false := by rfl) :
    PE X (.Call (.Attribute o "pop" apos) [a] [] pos) (tM X.K kx (mPopAt mo ma)) :=
  (pe_bm PySem.F.plainAttrs_list PySem.F.slot_list_pop PySem.F.type_list_pop mt_popAt ho (pa_cons ha pa_nil hs) hbase hfew hline hs hplain).imp fun σ H Q ⟨ρ, G, δ, d, G', rl, sr, e, k⟩ => by
  obtain ⟨x, G1, e1, e⟩ := Mi.bnd_eq e
  obtain ⟨y, G2, e2, e⟩ := Mi.bnd_eq e
  refine ⟨ρ, G, δ, x, G1, rl, sr, e1, fun v ρ1 H1 g1 r1 d1 => ?_⟩
  split at e
  · rename_i h i _
    split at e
    · rename_i z xs eh1 eh2
      split at e
      · rename_i kk hk
        split at e
        · rename_i y ey
          split at e
          · rename_i hb
            cases e
            cases d1 with
            | @ref _ ad ea =>
              obtain ⟨vs1, h1, _⟩ := lst_at r1 eh1 ea
              refine ⟨.inl ⟨rfl, _, SqL.of h1⟩, ρ1, G1, δ, _, G2, r1, sr.gr g1, e2, fun w ρ2 H2 g2 r2 d2 => ?_⟩
              obtain ⟨vs, h2, rv⟩ := lst_at r2 eh2 (ref_gr (K := X.K) g2 ea)
              cases d2
              obtain ⟨u, hu, du⟩ := rv.get ey
              obtain ⟨q1, q2, q3⟩ := six hb hk
              refine ⟨ad, vs, i, kk, u, rfl, rfl, h2, q2, q3, by rw [← rv.len]; exact q1, hu, ?_⟩
              have rd : DRs X.K ρ2 H2 (xs.eraseIdx kk) (vs.eraseIdx kk) := by
                rw [List.eraseIdx_eq_take_drop_succ, List.eraseIdx_eq_take_drop_succ]
                exact (rv.take _).app (rv.drop _)
              obtain ⟨g3, r3⟩ := r2.wr (o := .lst (vs.eraseIdx kk)) (m := .lst (xs.eraseIdx kk)) (ref_gr (K := X.K) g2 ea) fun g => .lst upd_same (rd.gr g)
              exact k u _ _ ((g1.trans g2).trans g3) r3 (du.gr g3)
          · cases e
        · cases e
      · cases e
    · cases e
  · cases e
theorem m_listR1 (m : Bool) {p p2 pos2 : Pos} (hc : X.calm = true) (hm : X.mg "list" = none) (hm2 : X.mg "range" = none) (ha : PE X a (tM X.K kx ma)) (hg : Gl X "list" := by rfl) (hg2 : Gl X "range" := by rfl)
    (na : starEach [a] X.env = (false, eval a X.env) :: starEach [] X.env := by rfl) (nr : starEach [Expr.Call (.Name "range" p2) [a] [] pos2] X.env = (false, eval (Expr.Call (.Name "range" p2) [a] [] pos2) X.env) :: starEach [] X.env := by rfl) :
    PE X (.Call (.Name "list" p) [.Call (.Name "range" p2) [a] [] pos2] [] pos) (tM X.K kx (Mi.m1 (Mi.uListR m) ma)) :=
  (pe_listRg hc hg hm (prg_1 hg2 hm2 ha na) nr).imp fun σ H Q ⟨ρ, G, δ, d, G', rl, sr, e, k⟩ => by
  obtain ⟨x, G1, e1, e⟩ := Mi.bnd_eq e
  refine ⟨ρ, G, δ, x, G1, rl, sr, e1, fun v ρ1 H1 g1 r1 d1 => ?_⟩
  unfold Mi.uListR at e
  split at e
  · split at e
    · rename_i hz
      obtain ⟨z3, z4, z5⟩ := hz
      have e' := Option.some.inj e
      cases d1
      refine ⟨_, rfl, ⟨by decide, by decide, z3, z4, by simpa using z5⟩, mkL_ok (m := m) r1 rng_ok ?_⟩
      rw [e']
      exact fun z ρ' H' g r q => k z ρ' H' (g1.trans g) r q
    · cases e
  · cases e
end
end Ms

/-! PyEn: enumerate of a tuple, by the library's enumerate over anything that begins (Begins) and draws (Draws). -/
namespace PySem
/-- enumerate(v) without a start is enumerate(v, 0), as far as its __new__ goes -/
theorem enumB_meets {v : Value} {o : Obj} {Hv : Heap → Prop} (B : Begins v o Hv) :
    Meets (Builtin.«enumerate.__new__» ⟨[.type "enumerate", v], []⟩) (fun _ R s => Hv s.heap ∧
      R (.ok (.ret (.ref (s.heap.push o).objs.size))) { s with heap := (s.heap.push o).push { cls := .type "enumerate", data := .fields #[.none, .bool false, .ref s.heap.objs.size, rawInt 0, .none, .none] } }) :=
  .of_wp fun prog w A R s both => by
    have ⟨begun, fin⟩ := both
    cases s with | mk hp g d tk os =>
    have is_sub := sub_enumerate
    have first : ∀ {A' : Around} {Q E : Value → Shared → Prop}, Q (.ref hp.objs.size) ⟨hp.push o, g, d, tk, os⟩ → wpAny (model prog w) A' (pyIter v) Q E ⟨hp, g, d, tk, os⟩ := B.iter _ _ _ _ _ _ begun
    wp_walk using first
    exact wpAny_stack_any fun st => wpAny_pure (by
      split
      · rename_i c _ _ _ _ _
        cases (c == Value.type "enumerate") <;> (wp_walk using first; exact ⟨_, rfl, fin⟩)
      · wp_walk using first
        exact ⟨_, rfl, fin⟩)
theorem enumB_call {prog : Program} {w : World} {A : Around} {E Q : Value → Shared → Prop} {s : Shared} {v : Value} {o : Obj} {Hv : Heap → Prop} (B : Begins v o Hv) (begun : Hv s.heap)
    (then_ : ∀ h', IsEnum h' (s.heap.objs.size + 1) s.heap.objs.size 0 .none → h'.get? s.heap.objs.size = some o → (∀ b ob, s.heap.get? b = some ob → h'.get? b = some ob) → Q (.ref (s.heap.objs.size + 1)) { s with heap := h' }) :
    wpAny (model prog w) A (call (.type "enumerate") [v]) Q E s := by
  have end_ : (s.heap.push o).objs.size = s.heap.objs.size + 1 := Heap.size_push ..
  have made : IsEnum ((s.heap.push o).push ⟨.type "enumerate", none, .fields #[.none, .bool false, .ref s.heap.objs.size, rawInt 0, .none, .none], #[]⟩) (s.heap.objs.size + 1) s.heap.objs.size 0 .none := end_ ▸ Heap.get?_push_size (s.heap.push o) rfl
  refine callType_new F.called_enumerate (by decide) (F.typeCall_enumerate_1 _) (F.newCall_enumerate_1 _) (fun obj => F.args_object_init_2 obj _) F.entry_enumerate_new (enumB_meets B) ⟨begun, ?_⟩
  rw [show (Value.ref (s.heap.push o).objs.size) = .ref (s.heap.objs.size + 1) by rw [end_]]
  exact ⟨⟨_, made, rfl⟩, then_ _ made (Heap.get?_push_of_some _ (Heap.get?_push_size _ B.free)) fun b ob q => Heap.get?_push_of_some _ (Heap.get?_push_of_some _ q)⟩
end PySem
namespace Ms
open PySem PySem.Spec L2 PyProof.Rows
open Mi (Dv MO Sto Sl Rs bnd ME MT MA MS MF Fl MG MGs MI)
/-- the tuple at a stands still, each item in a new pair with its number -/
def Ien (K : PySem.W.Frag) (a : Addr) : It :=
  ItW (fun i H => ∃ (xs : List V) (x : V), SqT K H a xs ∧ xs[i]? = some x)
    (fun i H vs => ∃ x, vs = [.int (i : Nat), x] ∧ ∀ xs, SqT K H a xs → xs[i]? = some x)
    (fun i H => ∃ xs : List V, SqT K H a xs ∧ xs.length = i)
/-- its two cells -/
def Est (e it a : Addr) (i : Nat) (h : Heap) : Prop := (∃ old, IsEnum h e it (0 + (i : Int)) old) ∧ h.IsTupleIter it a i
theorem Est.walk {P : Program} {w : World} {A : Around} {a e it : Addr} {i : Nat} {h : Heap} {its : Array Value} (no : A.in1.handled = none) (ne : e ≠ it) (na : a ≠ it) (nae : a ≠ e) (st : Est e it a i h) (p : h.IsTuple a its) :
    AtW P w A e [e, it] (Est e it a) h i its.size fun i vals => ∃ t x, its[i]? = some x ∧ vals = #[.int (0 + (i : Int)) t, x] :=
  ⟨_, _, _, _, WalksT.enumFrom 0 (Draws.tuple no it a na its) e ne (by simp only [List.mem_cons, List.not_mem_nil, or_false]; exact fun q => q.elim ne (Ne.symm nae)) (List.mem_cons_self ..), fun _ q => q, ⟨st.1, st.2, p⟩, fun j h' z => ⟨z.1, z.2.1⟩⟩
theorem turn_enT {P : Program} {w : World} {K : PySem.W.Frag} {elts : List Expr} {kk : Nat} {tpos : Pos} (a e it : Addr) (ne : e ≠ it) (na : a ≠ it) (nae : a ≠ e) : Turn P w K (.Tuple elts kk tpos) (Ien K a) [e, it] e (Est e it a) := by
  refine turn_of_walks (List.mem_cons_self ..) ?_ ?_ (fun _ _ _ _ _ st q => wpAny_pyIter_enum st.1.choose_spec q) ?_ ?_
  · rintro i h ⟨⟨old, ce⟩, o, co, _, fs⟩ b hb
    have here : b = e ∨ b = it := by simpa using hb
    cases here with
    | inl q => exact ⟨_, q ▸ ce, fun v z => by cases z⟩
    | inr q => exact ⟨o, q ▸ co, fun v z => by rw [fs] at z; cases z⟩
  · rintro i h h' ⟨⟨old, ce⟩, ci⟩ k
    exact ⟨⟨old, k e (List.mem_cons_self ..) _ ce⟩, ci.at (k it (List.mem_cons_of_mem _ (List.mem_cons_self ..)))⟩
  · rintro X rfl rfl rfl no i pins σ H s I st ⟨xs, x, qx, hx⟩
    obtain ⟨its, rx, px, _⟩ := I.tuple qx
    obtain ⟨u, eu, ru⟩ := rx.get hx
    refine ⟨_, _, Est.walk no ne na nae st px, by rw [List.size_toArray]; exact (List.getElem?_eq_some_iff.mp eu).1, ?_⟩
    rintro vals ⟨t, y, ey, rfl⟩
    rw [item_at eu ey]
    exact ⟨[.int (i : Nat), x], ⟨x, rfl, fun l q => I.tuple_inj q qx ▸ hx⟩, two_line, .cons ⟨t, by rw [Int.zero_add]⟩ (.cons ru .nil)⟩
  · rintro X rfl rfl rfl no i pins σ H s I st ⟨xs, qx, ends⟩
    obtain ⟨its, rx, px, _⟩ := I.tuple qx
    have W := Est.walk (P := X.prog) (w := X.w) (A := X.A) no ne na nae st px
    rw [List.size_toArray, ← rx.length, ends] at W
    exact ⟨_, W⟩
def iEnT (K : PySem.W.Frag) (ta : TA) : TI := fun σ H R => ta σ H fun vs H1 => ∃ a xs, vs = [.ref a] ∧ SqT K H1 a xs ∧ R (Ien K a) H1
/-- enumerate of this tuple, just called -/
theorem enum_new {X : Cx} {tg : List Expr × Nat × Pos} {pins : List (Addr × Obj)} {σ : L2.St} {H : Hp} {s : Shared} {R : It → Hp → Prop} {a : Addr} {xs : List V} {E : Value → Shared → Prop} (I : Inv X pins σ H s) (qx : SqT X.K H a xs) (r : R (Ien X.K a) H) :
    wpAny (model X.prog X.w) X.A (call (.type "enumerate") [.ref a]) (fun v s1 => wpAny (model X.prog X.w) X.A (pyIter v) (PIE X pins σ (.Tuple tg.1 tg.2.1 tg.2.2) R) E s1) E s := by
  obtain ⟨its, _, px, _⟩ := I.tuple qx
  have la : a < s.heap.objs.size := Heap.lt_size px.choose_spec.1
  refine enumB_call (begins_tuple a its.toArray) px fun h' ce ci kp => wpAny_pyIter_enum ce ?_
  refine ⟨_, _, _, _, H, rfl, I.kept (t' := s.toks) kp, turn_enT a _ s.heap.objs.size (Nat.succ_ne_self _) (Nat.ne_of_lt la) (Nat.ne_of_lt (Nat.lt_succ_of_lt la)), ⟨⟨_, ce⟩, _, ci, rfl, rfl⟩, fresh_ch I ?_, r⟩
  simp only [List.forall_mem_cons, List.not_mem_nil, false_implies, implies_true, and_true]
  exact ⟨Nat.le_succ _, Nat.le_refl _⟩
theorem pi_enT {X : Cx} {e : Expr} {ta : TA} {p pos tpos : Pos} {elts : List Expr} {kk : Nat} (hg : Gl X "enumerate") (hm : X.mg "enumerate" = none) (ha : PA X [e] ta) (hs : Es X e [] := by rfl) :
    PI X (.Tuple elts kk tpos) (.Call (.Name "enumerate" p) [e] [] pos) (iEnT X.K ta) :=
  ⟨fun pins s σ H R I h => Call_ (ld_blt I hg hm boot_enumerate (PyProof.Rows.callWith_type1 (thn (ha.run pos pins s σ H _ I h) fun us s1 ⟨vs, H1, I1, r1, a, xs, ev, qx, q⟩ => by
    subst ev
    rw [Vals.ref1 r1]
    exact enum_new (tg := ⟨elts, kk, tpos⟩) I1 qx q) hs rfl))⟩
def iEnumT (a : ME) : MI := fun δ G => bnd (a δ G) fun x G1 => match x with
  | .tup xs => some ((Mi.enumD 0 xs, fun _ => True), G1)
  | _ => none
theorem i_enumT {X : Cx} {kx : Kx} {a : Expr} {ma : ME} {elts : List Expr} {kk : Nat} {tpos p pos : Pos} (hm : X.mg "enumerate" = none) (ha : PE X a (tM X.K kx ma)) (hg : Gl X "enumerate" := by rfl) (hs : Es X a [] := by rfl) : PI X (.Tuple elts kk tpos) (.Call (.Name "enumerate" p) [a] [] pos) (tI X.K kx (iEnumT ma)) :=
  (pi_enT hg hm (pa_cons ha pa_nil hs) hs).imp fun σ H R ⟨ρ, G, δ, ds, st, G', rl, sr, e, k⟩ => by
  obtain ⟨x, G1, e1, e⟩ := Mi.bnd_eq e
  refine ⟨ρ, G, δ, x, G1, rl, sr, e1, fun v ρ1 H1 g1 r1 d1 => ?_⟩
  split at e
  · rename_i xs
    cases e
    cases d1 with
    | @tup ad vs _ hT rT =>
    refine ⟨ad, vs, rfl, hT, k _ ρ1 H1 g1 r1 ?_⟩
    refine ⟨fun ρ G H g r s => ?_, fun i ρ G H g r s hi => ?_, fun i d ρ G H v H' g r s hd hy => ?_⟩
    · refine ⟨vs, SqT.gw g hT, ?_⟩
      rw [enumD_len, rT.len]
    · rw [enumD_len, rT.len] at hi
      exact ⟨vs, vs[i], SqT.gw g hT, List.getElem?_eq_getElem hi⟩
    · obtain ⟨T, us, ev, hT', eH, w, eu, hv⟩ := hy
      subst eu ev eH
      have h := SqT.gw g hT
      have dr := rT.gw g
      rw [enumD_get] at hd
      cases ex : xs[i]? with
      | none => rw [ex] at hd; cases hd
      | some d0 =>
        rw [ex] at hd
        cases hd
        obtain ⟨w', hw, dw⟩ := dr.get ex
        have t1 := hv vs h
        rw [hw] at t1
        cases t1
        obtain ⟨g3, r3⟩ := r.side (.tup [.int (i : Nat), w]) hT'
        refine ⟨g3, r3, .tup (SqT.of upd_same) (.cons ?_ (.cons (dw.gr g3) .nil))⟩
        have e0 : ((0 + i : Nat) : Int) = (i : Nat) := by rw [Nat.zero_add]
        first
        | exact .int _
        | (rw [e0]; exact .int _)
  · cases e
end Ms

/-! PySw: an item of a list as a target among others. -/
namespace Ms
open PySem PySem.Spec L2 PyProof.Rows
open Mi (Dv MO Sto Sl Rs bnd ME MT MA MS MF Fl MG MGs MI)
def gSubI (o i : ME) : MG := fun d δ G => match o δ G with
  | some (.ref h, G2) => match i δ G2 with
    | some (.int k, G3) => match G3[h]? with
      | some (.lst xs) => match Mi.ixN xs.length k with
        | some j => some (δ, G3.set h (.lst (xs.set j d)))
        | none => none
      | _ => none
    | _ => none
  | _ => none
/-- two lists by their handles, one behind the other -/
def bAddL (m : Bool) : Mi.B2
  | .ref h, .ref h2, G => match G[h]?, G[h2]? with
    | some (.lst a), some (.lst b) => if a.length + b.length ≤ Mi.big then some (Mi.mkL m (a ++ b) G) else none
    | _, _ => none
  | _, _, _ => none
theorem b_addL {X : Cx} {kx : Kx} (m : Bool) : B2ok X kx (bAddL m) (rAdds X.K) := by
  intro x y G d G' ρ H v w Q e rl dx dy k
  unfold bAddL at e
  split at e
  · split at e
    · rename_i a b ha hb
      split at e
      · rename_i hz
        have e' := Option.some.inj e
        cases dx with
        | ref ea =>
          cases dy with
          | ref eb =>
            obtain ⟨vs, h1, r1⟩ := lst_at rl ha ea
            obtain ⟨us, h2, r2⟩ := lst_at rl hb eb
            refine .inr (.inr ⟨_, _, _, _, rfl, rfl, h1, h2, ?_, ?_⟩)
            · rw [← r1.len, ← r2.len, ← big_line]
              exact hz
            · refine mkL_ok (m := m) rl (r1.app r2) ?_
              rw [e']
              exact k
      · cases e
    · cases e
  · cases e
section
variable {X : Cx} {kx : Kx} {o i : Expr} {mo mi : ME} {pos' : Pos}
theorem g_subI (ho : PE X o (tM X.K kx mo)) (hi : PE X i (tM X.K kx mi))
    (ha : ∀ v, assign (.Subscript o i pos') X.env v = (do let ov ← holding [v] (eval o X.env); let iv ← holding [v, ov] (eval i X.env); standAt pos'; holding [v, ov, iv] (setItem ov iv v); release [v, ov, iv] []) := by intro _; rfl) : PG X (.Subscript o i pos') (tG X.K kx [] (gSubI mo mi)) :=
  (pg_sub ho hi set_list ha).imp fun w σ H Q ⟨ρ, G, δ, y, δ', G', rl, sr, d1, e, k⟩ => by
  unfold gSubI at e
  split at e
  · rename_i h G2 e2
    split at e
    · rename_i kk G3 e3
      split at e
      · rename_i xs eh
        split at e
        · rename_i j ej
          cases e
          refine ⟨ρ, G, δ, _, G2, rl, sr, e2, fun v ρ2 H2 g2 r2 d2 => ⟨ρ2, G2, δ, _, G3, r2, sr.gr g2, e3, fun u ρ3 H3 g3 r3 d3 => ?_⟩⟩
          cases d3
          cases d2 with
          | ref ea =>
            have ea3 := ref_gr (K := X.K) g3 ea
            obtain ⟨vs, h3, rv⟩ := lst_at r3 eh ea3
            obtain ⟨g4, r4⟩ := r3.wr (o := .lst (vs.set j w)) (m := .lst (xs.set j y)) ea3 fun g => .lst upd_same ((rv.set j (d1.gr (g2.trans g3))).gr g)
            exact ⟨_, vs, _, j, rfl, rfl, h3, by rw [← ixN_dr rv]; exact ej, k _ σ _ ((g2.trans g3).trans g4) r4 (sr.gr ((g2.trans g3).trans g4)) rfl fun _ _ => rfl⟩
        · cases e
      · cases e
    · cases e
  · cases e
end
end Ms

/-! PyDc: a copy of a dict. -/
namespace Ms
open PySem PySem.Spec L2 PyProof.Rows
open Mi (Dv MO Sto Sl Rs bnd ME MT MA MS MF Fl MG MGs MI)
def fDict : List Dv → Sto → Rs Dv
  | [.ref h], G => match G[h]? with
    | some (.dct kvs) => some (.ref G.length, G ++ [.dct kvs])
    | _ => none
  | _, _ => none
theorem f_dict {X : Cx} {kx : Kx} : Bok X kx fDict (fun xs H Q => ∃ (a : Addr) (kvs : List (L2.Key × V)), xs = [.ref a] ∧ Rd H a (.dK kvs) ∧ ∀ p, H p = none → Q (.ref p) (upd H p (.dK kvs))) := by
  intro xs G d G' ρ H vs Q e rl ds k
  unfold fDict at e
  split at e
  · rename_i h
    split at e
    · rename_i kvs eh
      cases e
      cases ds with
      | cons a b =>
        cases b
        cases a with
        | ref ea =>
          obtain ⟨ks, h1, kr⟩ := dct_at rl eh ea
          refine ⟨_, ks, rfl, .of h1, fun p hp => ?_⟩
          obtain ⟨g, r⟩ := rl.grow (p := p) (o := .dK ks) (m := .dct kvs) hp fun g => .dct upd_same (kr.imp fun _ _ q => ⟨q.1, q.2.gr g⟩)
          refine k (.ref p) _ _ g r (.ref ?_)
          rw [← rl.len, List.getElem?_append_right (Nat.le_refl _)]
          simp
    · cases e
  · cases e
end Ms

/-! PyEx: defs that may raise, raise C(), try .. except C. -/
namespace Ms
open PySem L2 PyProof.Rows
open Mi (Dv MO Sto Sl Rs bnd ME MT MA MS MF Fl MG MGs MI)
/-- an end: a statement's own, or an exception of the class c -/
inductive Fx where
  | fl (f : Fl)
  | ex (c : Nat)
inductive Rx where
  | ok (d : Dv)
  | ex (c : Nat)
abbrev MSX := Sl → Sto → Option (Fx × Sl × Sto)
abbrev MEX := Sl → Sto → Option (Rx × Sto)
abbrev MFX := List Dv → Sto → Option (Rx × Sto)
def xLift (m : MS) : MSX := fun δ G => match m δ G with
  | some (f, δ', G') => some (.fl f, δ', G')
  | none => none
def xSeq (a b : MSX) : MSX := fun δ G => match a δ G with
  | some (.fl .nx, δ1, G1) => b δ1 G1
  | r => r
def xIf (t : MT) (a b : MSX) : MSX := fun δ G => match t δ G with
  | some (true, G1) => a δ G1
  | some (false, G1) => b δ G1
  | none => none
def xRaise (c : Nat) : MSX := fun δ G => some (.ex c, δ, G)
def xExpr (e : MEX) : MSX := fun δ G => match e δ G with
  | some (.ok _, G1) => some (.fl .nx, δ, G1)
  | some (.ex c, G1) => some (.ex c, δ, G1)
  | none => none
def xRet (e : MEX) : MSX := fun δ G => match e δ G with
  | some (.ok d, G1) => some (.fl (.rt d), δ, G1)
  | some (.ex c, G1) => some (.ex c, δ, G1)
  | none => none
def xMeth (c : Nat) (m : String) (f : MFX) (o : ME) (a : MA) : MEX := fun δ G => match o δ G with
  | some (.ref h, G1) => match G1[h]? with
    | some (.ins c' fs) => if c' = c ∧ fs.lookup m = none then (match a δ G1 with
      | some (xs, G2) => f (.ref h :: xs) G2
      | none => none) else none
    | _ => none
  | _ => none
def xMethK (c : Nat) (m : String) (f : MFX) (ix : List Nat) (o : ME) (kw : MA) : MEX := fun δ G => match o δ G with
  | some (.ref h, G1) => match G1[h]? with
    | some (.ins c' fs) => if c' = c ∧ fs.lookup m = none then (match kw δ G1 with
      | some (ys, G2) => f (ix.map fun i => (.ref h :: ys).getD i .non) G2
      | none => none) else none
    | _ => none
  | _ => none
def xDef (n l : Nat) (b : MSX) : MFX := fun xs G => if xs.length = n then match b (xs.map some ++ List.replicate l none) G with
  | some (.fl .nx, _, G') => some (.ok .non, G')
  | some (.fl (.rt d), _, G') => some (.ok d, G')
  | some (.ex c, _, G') => some (.ex c, G')
  | _ => none else none
/-- try: b; except C: s -/
def mTry (c : Nat) (b : MSX) (s : MS) : MS := fun δ G => match b δ G with
  | some (.fl f, δ', G') => some (f, δ', G')
  | some (.ex c', δ', G') => if c' = c then s δ' G' else none
  | none => none
/-! ### readings -/
def KoX (K : PySem.W.Frag) (kx : Kx) (ρ : Rh) (H : Hp) (r : Fx) (δ' : Sl) (G' : Sto) (W : WX) (D : Ends) : Prop := match r with
  | .fl f => Ko K kx ρ H f δ' G' D
  | .ex c => ∀ ρ' σ' H', Gr ρ H ρ' H' → Rl K kx ρ' G' H' → Sr K ρ' H' δ' σ' → W (.ref (kx.ca c)) none σ' H'
theorem KoX.gr {K : PySem.W.Frag} {kx : Kx} {ρ ρ1 : Rh} {H H1 : Hp} {r : Fx} {δ' : Sl} {G' : Sto} {W : WX} {D : Ends} (g : Gr ρ H ρ1 H1) (k : KoX K kx ρ H r δ' G' W D) : KoX K kx ρ1 H1 r δ' G' W D := by
  cases r with
  | fl f => exact Ko.gr g k
  | ex c => exact fun ρ' σ' H' g' r s => k ρ' σ' H' (g.trans g') r s
def sX (K : PySem.W.Frag) (kx : Kx) (W : WX) (m : MSX) : TS := fun D σ H => ∃ (ρ : Rh) (G : Sto) (δ : Sl) (r : Fx) (δ' : Sl) (G' : Sto), Rl K kx ρ G H ∧ Sr K ρ H δ σ ∧ m δ G = some (r, δ', G') ∧ KoX K kx ρ H r δ' G' W D
def KeX (K : PySem.W.Frag) (kx : Kx) (ρ : Rh) (H : Hp) (r : Rx) (G' : Sto) (Q : VK) (E : XK) : Prop := match r with
  | .ok d => ∀ v ρ' H', Gr ρ H ρ' H' → Rl K kx ρ' G' H' → DR K ρ' H' d v → Q v H'
  | .ex c => ∀ ρ' H', Gr ρ H ρ' H' → Rl K kx ρ' G' H' → E (.ref (kx.ca c)) none H'
theorem KeX.gr {K : PySem.W.Frag} {kx : Kx} {ρ ρ1 : Rh} {H H1 : Hp} {r : Rx} {G' : Sto} {Q : VK} {E : XK} (g : Gr ρ H ρ1 H1) (q : KeX K kx ρ H r G' Q E) : KeX K kx ρ1 H1 r G' Q E := by
  cases r with
  | ok d => exact fun v ρ' H' g' r d => q v ρ' H' (g.trans g') r d
  | ex c => exact fun ρ' H' g' r => q ρ' H' (g.trans g') r
def tX (K : PySem.W.Frag) (kx : Kx) (W : WX) (m : MEX) : TE := fun σ H Q => ∃ (ρ : Rh) (G : Sto) (δ : Sl) (r : Rx) (G' : Sto), Rl K kx ρ G H ∧ Sr K ρ H δ σ ∧ m δ G = some (r, G') ∧ KeX K kx ρ H r G' Q (WE W σ)
/-- the def at f does what the mirror's function mf does, or raises what that raises -/
structure FnX (P : Program) (w : World) (K : PySem.W.Frag) (kx : Kx) (mg : Str → Option Value) (base : Heap) (k : Nat) (f : Addr) (fd : FuncData) (ps : List Str) (mf : MFX) : Prop where
  ar : ∀ ds G r, mf ds G = some r → ds.length = ps.length
  run : ∀ (A : Around) (outer : List Env) (s : Shared) (H : Hp) (args : Args) (us : List Value) (vs : List V) (Q : VK) (E : XK) (ρ : Rh) (G : Sto) (ds : List Dv) (r : Rx) (G' : Sto), A.guards = some [] → Room k A → Env0 P w K mg base A outer s H →
    BindsTo s fd args (ps.zip us) → Vals vs us → Rl K kx ρ G H → DRs K ρ H ds vs → mf ds G = some (r, G') → KeX K kx ρ H r G' Q E →
    codeAny (model P w) A (.call (.ref f) args) (CR (L2.CX P w) outer P w H s Q E) s
theorem FnX.mono {P : Program} {w : World} {K : PySem.W.Frag} {kx : Kx} {mg : Str → Option Value} {base : Heap} {j k : Nat} {f : Addr} {fd : FuncData} {ps : List Str} {mf : MFX} (F : FnX P w K kx mg base j f fd ps mf) (h : j ≤ k) : FnX P w K kx mg base k f fd ps mf :=
  ⟨F.ar, fun A outer s H args us vs Q E ρ G ds d G' hG hr => F.run A outer s H args us vs Q E ρ G ds d G' hG (hr.mono h)⟩
/-- a statement that lets nothing out does so in a context that would take something -/
theorem _root_.L2.PS.nox {X : Cx} {st : Stmt} {t : TS} (h : PS X.nox st t) : PS X st t := by
  constructor
  intro pins s σ H D inv read
  have ran := h.run pins s σ H D (inv.wish fun _ _ => False) read
  apply wpAny_mono ran
  · intro flow after ended
    exact ended.unwish
  · intro _ _ impossible
    exact impossible.elim
/-- a class of the text that is an exception's is met by an except clause that names it -/
theorem exm_self {K : PySem.W.Frag} {S : Addr} (below : PySem.W.subIn K (.ref S) (.type "BaseException") = some true) (own : (PySem.W.clsIn K S).isSome = true) (kind : PySem.W.typeIn K (.ref S) = some (.type "type")) (itself : PySem.W.subIn K (.ref S) (.ref S) = some true) : PySem.W.exmOne K (.ref S) (.ref S) = some true := by
  simp only [PySem.W.exmOne, PySem.W.kitCls, PySem.W.kitOne, below, own, kind, itself, beq_self_eq_true, Bool.and_self, if_true, Bool.true_and]
section
variable {X : Cx} {W : WX} {kx : Kx} {e a b c o : Expr} {ma mb mc me mo : ME} {mt : MT} {pos p apos pos' : Pos} {st : Stmt} {rest es : List Expr} {mas mks : MA} {ms : MS} {m1 m2 : MSX} {mx : MEX} {bs ta tb : List Stmt} {k cn : Nat} {f : Addr} {fd : FuncData} {ps : List Str} {mf : MFX} {x : Str}
/-! ### statements -/
theorem x_lift (h : PS X.nox st (sM X.K kx ms)) : PS X st (sX X.K kx W (xLift ms)) := h.nox.imp fun D σ H ⟨ρ, G, δ, r, δ', G', rl, sr, e, k⟩ => by
  unfold xLift at e
  split at e
  · rename_i f δ1 G1 e1
    cases e
    exact ⟨ρ, G, δ, f, _, _, rl, sr, e1, k⟩
  · cases e
theorem xs_lift (h : PSs X.nox bs (sM X.K kx ms)) : PSs X bs (sX X.K kx W (xLift ms)) := h.nox.imp fun D σ H ⟨ρ, G, δ, r, δ', G', rl, sr, e, k⟩ => by
  unfold xLift at e
  split at e
  · rename_i f δ1 G1 e1
    cases e
    exact ⟨ρ, G, δ, f, _, _, rl, sr, e1, k⟩
  · cases e
theorem x_one (h : PS X st (sX X.K kx W m1)) : PSs X [st] (sX X.K kx W m1) := pss_one h
theorem x_seq (h1 : PS X st (sX X.K kx W m1)) (h2 : PSs X bs (sX X.K kx W m2)) : PSs X (st :: bs) (sX X.K kx W (xSeq m1 m2)) := (pss_cons h1 h2).imp fun D σ H ⟨ρ, G, δ, f, δ', G', rl, sr, e, k⟩ => by
  unfold xSeq at e
  split at e
  · rename_i δ1 G1 ea
    exact ⟨ρ, G, δ, .fl .nx, δ1, G1, rl, sr, ea, fun ρ1 σ1 H1 g r s => ⟨ρ1, G1, δ1, f, δ', G', r, s, e, k.gr g⟩⟩
  · rename_i hne
    refine ⟨ρ, G, δ, f, δ', G', rl, sr, e, ?_⟩
    cases f with
    | ex c => exact k
    | fl f =>
      intro ρ1 σ1 H1 g r s
      have := k ρ1 σ1 H1 g r s
      cases f with
      | nx => exact absurd e (hne δ' G')
      | rt d => exact this
      | bk => exact this
      | ct => exact this
theorem x_if (hc : PT X.nox c (tMT X.K kx mt)) (ha : PSs X ta (sX X.K kx W m1)) (hb : PSs X tb (sX X.K kx W m2)) : PS X (.If c ta tb pos) (sX X.K kx W (xIf mt m1 m2)) := (ps_if hc.nox ha hb).imp fun D σ H ⟨ρ, G, δ, f, δ', G', rl, sr, e, k⟩ => by
  unfold xIf at e
  split at e
  · rename_i G1 e1
    refine ⟨ρ, G, δ, true, G1, rl, sr, e1, fun ρ1 H1 g1 r1 => ?_⟩
    dsimp only
    rw [if_pos rfl]
    exact ⟨ρ1, G1, δ, f, δ', G', r1, sr.gr g1, e, k.gr g1⟩
  · rename_i G1 e1
    refine ⟨ρ, G, δ, false, G1, rl, sr, e1, fun ρ1 H1 g1 r1 => ?_⟩
    dsimp only
    rw [if_neg (fun z => Bool.false_ne_true z)]
    exact ⟨ρ1, G1, δ, f, δ', G', r1, sr.gr g1, e, k.gr g1⟩
  · cases e
theorem x_expr (he : PE X e (tX X.K kx W mx)) (hs : swapsWith e none pos.line X.env = pure false := by rfl) : PS X (.Expr e pos) (sX X.K kx W (xExpr mx)) := (ps_expr he hs).imp fun D σ H ⟨ρ, G, δ, f, δ', G', rl, sr, e, k⟩ => by
  unfold xExpr at e
  split at e
  · rename_i d G1 e1
    cases e
    exact ⟨ρ, G, δ, .ok d, _, rl, sr, e1, fun v ρ1 H1 g1 r1 d1 => k ρ1 σ H1 g1 r1 (sr.gr g1)⟩
  · rename_i c G1 e1
    cases e
    exact ⟨ρ, G, δ, .ex c, _, rl, sr, e1, fun ρ1 H1 g1 r1 => k ρ1 σ H1 g1 r1 (sr.gr g1)⟩
  · cases e
theorem x_ret (he : PE X e (tX X.K kx W mx)) : PS X (.Return (some e) pos) (sX X.K kx W (xRet mx)) := (ps_ret he).imp fun D σ H ⟨ρ, G, δ, f, δ', G', rl, sr, e, k⟩ => by
  unfold xRet at e
  split at e
  · rename_i d G1 e1
    cases e
    exact ⟨ρ, G, δ, .ok d, _, rl, sr, e1, fun v ρ1 H1 g1 r1 d1 => k ρ1 σ H1 g1 r1 (sr.gr g1) v d1⟩
  · rename_i c G1 e1
    cases e
    exact ⟨ρ, G, δ, .ex c, _, rl, sr, e1, fun ρ1 H1 g1 r1 => k ρ1 σ H1 g1 r1 (sr.gr g1)⟩
  · cases e
/-! ### raise C() -/
def bmExc : List Value := [.type "Exception", .type "BaseException", .type "object"]
/-- C is an exception class of the program without own __init__, below Exception -/
structure Xc (K : PySem.W.Frag) (mg : Str → Option Value) (C : Addr) (x : Str) : Prop where
  g : mg x = some (.ref C)
  q : PySem.W.excIn K C bmExc "Exception.__new__" = true
  k : PySem.W.keepIn K (.ref C) = true
  s : PySem.W.subIn K (.ref C) (.type "BaseException") = some true
  t : PySem.W.typeIn K (.ref C) = some (.type "type")
  m : PySem.W.exmOne K (.ref C) (.ref C) = some true
theorem pmk_own0 {C : Addr} (T : Xc X.K X.mg C x) (hg : Gl X x) (hdb : (x == ("__debug__" : Str)) = false := by decide) : PMk X (.Call (.Name x p) [] [] pos) (fun _ H Q => Q (.ref C) none H) := by
  intro pins s σ H Q I h
  refine called_by I hg T.g hdb ?_
  refine PySem.W.callWith_K0 I.kIn T.k ?_
  show wpAny _ _ (call (.ref C) []) _ _ _
  obtain ⟨bm, N, nm, qn, bs, hdct, sn, sub, ab, col, dd, k0, k1, k2, k3, k5, mN, hC, hN, hni, TT⟩ := exc_obj I.kIn T.q
  refine wpAny_call_exc_subT PySem.F.excBase_Exception TT hC hN hni (fun h' e hm => ?_) (Nat.zero_le _)
  exact mk_of I hm (raises_own T.s T.t) h (I.hok.gone hm.new)
theorem x_raise (hc : X.calm = true) (tk : Takes X W) (T : Xc X.K X.mg (kx.ca cn) x) (hg : Gl X x := by rfl) (hdb : (x == ("__debug__" : Str)) = false := by decide) : PS X (.Raise (some (.Call (.Name x p) [] [] pos)) none pos') (sX X.K kx W (xRaise cn)) :=
  (ps_raise hc tk (pmk_own0 T hg hdb)).imp fun D σ H ⟨ρ, G, δ, f, δ', G', rl, sr, e, k⟩ => by
  cases e
  exact k ρ σ H Gr.refl rl sr
/-! ### calls of methods that may raise -/
theorem run_x {pins : List (Addr × Obj)} {σ : L2.St} {H : Hp} {s : Shared} {Q : VK} {us : List Value} {vs : List V} {kw : List (Str × Value)} {ws : List Value} {ρ : Rh} {G : Sto} {ds : List Dv} {r : Rx} {G' : Sto} (F : FnX X.prog X.w X.K kx X.mg X.base k f fd ps mf) (hG : X.A.guards = some []) (hr : Room k X.A) (tk : Takes X W)
    (I : Inv X pins σ H s) (hb : BindsTo s fd ⟨us, kw⟩ (ps.zip ws)) (rv : Vals vs ws) (rl : Rl X.K kx ρ G H) (dr : DRs X.K ρ H ds vs) (e : mf ds G = some (r, G'))
    (q : KeX X.K kx ρ H r G' Q (WE W σ)) :
    wpAny (model X.prog X.w) X.A (call (.ref f) us kw) (EP X pins σ Q) X.xe s := by
  refine wpAny_call (codeAny_mono (F.run X.A X.stack s H ⟨us, kw⟩ ws vs Q (WE W σ) ρ G ds r G' hG hr I.env0 hb rv rl dr e q) fun res s' h => ?_)
  match res, h with
  | .error e, out => exact passAt tk σ pins H s e s' I out
  | .ok (.ret u), back => exact I.after back
theorem x_meth {m : String} {pl : Sem Bool} (ho : PE X.nox o (tM X.K kx mo)) (hc : Cls X.K (kx.ca cn)) (hm : Meth X.K (kx.ca cn) (Str.ofString m) f) (F : FnX X.prog X.w X.K kx X.mg X.base k f fd ps mf) (hG : X.A.guards = some []) (hr : Room k X.A) (tk : Takes X W) (hb : Binds X.K fd ps []) (ha : PA X (e :: es) (tMA X.K kx mas))
    (hst : Es X e es := by rfl) (hpl : Np X pos es := by rfl)
    (ht : eval (.Call (.Attribute o (Str.ofString m) apos) (e :: es) [] pos) X.env = (do let ov ← eval o X.env; standAt apos.atName; let (f, first) ← holding [ov] (getMethod ov (Str.ofString m) pl); callWith pos f first (backTo pos (starEach (e :: es) X.env)) (backToKw pos (keywordEach [] X.env))) := by rfl) :
    PE X (.Call (.Attribute o (Str.ofString m) apos) (e :: es) [] pos) (tX X.K kx W (xMeth cn m mf mo mas)) := ⟨fun pins s σ H Q I h => by
  obtain ⟨ρ, G, δ, d, G', rl, sr, e0, q⟩ := h
  unfold xMeth at e0
  split at e0
  · rename_i h G1 e1
    refine PySem.W.methodCall_KW (pl := pl) (thn (ho.nox.run pins s σ H (fun v H1 => ∃ ρ1, Gr ρ H ρ1 H1 ∧ Rl X.K kx ρ1 G1 H1 ∧ DR X.K ρ1 H1 (.ref h) v) I ⟨ρ, G, δ, _, G1, rl, sr, e1, fun v ρ1 H1 g r d => ⟨ρ1, g, r, d⟩⟩) fun u s1 ⟨v, H1, I1, rx, ρ1, g1, r1, d1⟩ => ?_) ht
    split at e0
    · rename_i c' fs eh
      split at e0
      · rename_i hz
        obtain ⟨hz1, hz2⟩ := hz
        subst hz1
        split at e0
        · rename_i ds G2 e3
          cases d1 with
          | @ref _ ad ea =>
            obtain ⟨dx, fs', h1, fr⟩ := ins_at r1 eh ea
            obtain rfl : u = Value.ref ad := rx
            refine getmeth_ok I1 h1 hc hm ((flook_ok fr).2 hz2) ?_
            refine PySem.W.callWith_K (first := [.ref ad]) (h₀ := X.base) I.ok.mod.kin hm.kp (thn (ha.run pos pins s1 σ H1 (fun vs H2 => ∃ ρ2, Gr ρ1 H1 ρ2 H2 ∧ Rl X.K kx ρ2 G2 H2 ∧ DRs X.K ρ2 H2 ds vs) I1 ⟨ρ1, G1, δ, ds, G2, r1, sr.gr g1, e3, fun vs ρ2 H2 g r d => ⟨ρ2, g, r, d⟩⟩) fun us s2 ⟨vs, H2, I2, r, ρ2, g2, r2, d2⟩ => ⟨I2.kIn, ?_⟩) hst hpl
            have dd : DRs X.K ρ2 H2 (.ref h :: ds) (.ref ad :: vs) := .cons ((DR.ref ea).gr g2) d2
            have rr : Vals (V.ref ad :: vs) (Value.ref ad :: us) := .cons rfl r
            have hb' := hb s2 (Value.ref ad :: us) I2.kIn (lenOf (F.ar _ _ _ e0) dd rr)
            rw [List.append_nil] at hb'
            exact run_x F hG hr tk I2 hb' rr r2 dd e0 (q.gr (g1.trans g2))
        · cases e0
      · cases e0
    · cases e0
  · cases e0⟩
theorem x_meth0 {m : String} {pl : Sem Bool} (ho : PE X.nox o (tM X.K kx mo)) (hc : Cls X.K (kx.ca cn)) (hm : Meth X.K (kx.ca cn) (Str.ofString m) f) (F : FnX X.prog X.w X.K kx X.mg X.base k f fd ps mf) (hG : X.A.guards = some []) (hr : Room k X.A) (tk : Takes X W) (hb : Binds X.K fd ps [])
    (ht : eval (.Call (.Attribute o (Str.ofString m) apos) [] [] pos) X.env = (do let ov ← eval o X.env; standAt apos.atName; let (f, first) ← holding [ov] (getMethod ov (Str.ofString m) pl); callWith pos f first (backTo pos (starEach [] X.env)) (backToKw pos (keywordEach [] X.env))) := by rfl) :
    PE X (.Call (.Attribute o (Str.ofString m) apos) [] [] pos) (tX X.K kx W (xMeth cn m mf mo Mi.mNil)) := ⟨fun pins s σ H Q I h => by
  obtain ⟨ρ, G, δ, d, G', rl, sr, e0, q⟩ := h
  unfold xMeth at e0
  split at e0
  · rename_i h G1 e1
    refine PySem.W.methodCall_KW (pl := pl) (thn (ho.nox.run pins s σ H (fun v H1 => ∃ ρ1, Gr ρ H ρ1 H1 ∧ Rl X.K kx ρ1 G1 H1 ∧ DR X.K ρ1 H1 (.ref h) v) I ⟨ρ, G, δ, _, G1, rl, sr, e1, fun v ρ1 H1 g r d => ⟨ρ1, g, r, d⟩⟩) fun u s1 ⟨v, H1, I1, rx, ρ1, g1, r1, d1⟩ => ?_) ht
    split at e0
    · rename_i c' fs eh
      split at e0
      · rename_i hz
        obtain ⟨hz1, hz2⟩ := hz
        subst hz1
        have e4 : mf [.ref h] G1 = some (d, G') := e0
        cases d1 with
        | @ref _ ad ea =>
          obtain ⟨dx, fs', h1, fr⟩ := ins_at r1 eh ea
          obtain rfl : u = Value.ref ad := rx
          refine getmeth_ok I1 h1 hc hm ((flook_ok fr).2 hz2) ?_
          have dd : DRs X.K ρ1 H1 [.ref h] [.ref ad] := .cons (.ref ea) .nil
          have rr : Vals [V.ref ad] [Value.ref ad] := .cons rfl .nil
          have hb' := hb s1 [Value.ref ad] I1.kIn (lenOf (F.ar _ _ _ e4) dd rr)
          exact PySem.W.callWith_K0 (first := [.ref ad]) I1.kIn hm.kp (run_x (us := [.ref ad]) F hG hr tk I1 hb' rr r1 dd e4 (q.gr g1))
      · cases e0
    · cases e0
  · cases e0⟩
/-- o.m(k = v, ..) -/
theorem x_methK0 {kws : List Keyword} {ks : List Str} {ix : List Nat} {m : String} {pl : Sem Bool} (ho : PE X.nox o (tM X.K kx mo)) (hc : Cls X.K (kx.ca cn)) (hm : Meth X.K (kx.ca cn) (Str.ofString m) f) (F : FnX X.prog X.w X.K kx X.mg X.base k f fd ps mf) (hG : X.A.guards = some []) (hr : Room k X.A) (tk : Takes X W) (hb : KBm fd ps ks 1 ix) (hl : Len mks ks.length) (hkw : PK X kws (tMA X.K kx mks))
    (hall : Ka X pos kws := by rfl) (hks : Ks X pos kws ks := by rfl)
    (hpl : ((backTo pos (starEach [] X.env)).any (·.1) || (backToKw pos (keywordEach kws X.env)).any (·.1.isNone)) = false := by rfl)
    (ht : eval (.Call (.Attribute o (Str.ofString m) apos) [] kws pos) X.env = (do let ov ← eval o X.env; standAt apos.atName; let (f, first) ← holding [ov] (getMethod ov (Str.ofString m) pl); callWith pos f first (backTo pos (starEach [] X.env)) (backToKw pos (keywordEach kws X.env))) := by rfl) :
    PE X (.Call (.Attribute o (Str.ofString m) apos) [] kws pos) (tX X.K kx W (xMethK cn m mf ix mo mks)) := ⟨fun pins s σ H Q I h => by
  obtain ⟨ρ, G, δ, d, G', rl, sr, e0, q⟩ := h
  unfold xMethK at e0
  split at e0
  · rename_i h G1 e1
    refine PySem.W.methodCall_KW (pl := pl) (thn (ho.nox.run pins s σ H (fun v H1 => ∃ ρ1, Gr ρ H ρ1 H1 ∧ Rl X.K kx ρ1 G1 H1 ∧ DR X.K ρ1 H1 (.ref h) v) I ⟨ρ, G, δ, _, G1, rl, sr, e1, fun v ρ1 H1 g r d => ⟨ρ1, g, r, d⟩⟩) fun u s1 ⟨v, H1, I1, rx, ρ1, g1, r1, d1⟩ => ?_) ht
    split at e0
    · rename_i c' fs eh
      split at e0
      · rename_i hz
        obtain ⟨hz1, hz2⟩ := hz
        subst hz1
        split at e0
        · rename_i ds G2 e3
          cases d1 with
          | @ref _ ad ea =>
            obtain ⟨dx, fs', h1, fr⟩ := ins_at r1 eh ea
            obtain rfl : u = Value.ref ad := rx
            refine getmeth_ok I1 h1 hc hm ((flook_ok fr).2 hz2) ?_
            refine PySem.W.callWith_KW0 (first := [.ref ad]) (h₀ := X.base) I.ok.mod.kin hm.kp hall (thn (hkw.run pos pins s1 σ H1 (fun vs H2 => ∃ ρ2, Gr ρ1 H1 ρ2 H2 ∧ Rl X.K kx ρ2 G2 H2 ∧ DRs X.K ρ2 H2 ds vs) I1 ⟨ρ1, _, δ, ds, G2, r1, sr.gr g1, e3, fun vs ρ2 H2 g r d => ⟨ρ2, g, r, d⟩⟩) fun us s2 ⟨vs, H2, I2, r, ρ2, g2, r2, d2⟩ => ⟨I2.kIn, ?_⟩) hpl
            rw [hks]
            have hlen : us.length = ks.length := by rw [← r.length, ← d2.len]; exact hl _ _ _ _ e3
            have dd : DRs X.K ρ2 H2 (.ref h :: ds) (.ref ad :: vs) := .cons ((DR.ref ea).gr g2) d2
            have rr : Vals (V.ref ad :: vs) (Value.ref ad :: us) := .cons rfl r
            have hb' := hb s2 [Value.ref ad] us rfl hlen
            exact run_x (us := [.ref ad]) F hG hr tk I2 hb' (pick_vals rr ix) r2 (pick_dr dd ix) e0 (q.gr (g1.trans g2))
        · cases e0
      · cases e0
    · cases e0
  · cases e0⟩
/-! ### try -/
theorem takes0 {X : Cx} : Takes X fun _ _ _ _ => False := fun u s' ⟨_, _, _, _, _, _, _, _, _, _, _, _, _, _, _, _, z⟩ => False.elim z
theorem s_try {np : Pos} {b₀ : Stmt} {body suite : List Stmt} (hs : X.stack = X.env :: X.outer) (hf : X.env.frame = some X.env.locals) (T : Xc X.K X.mg (kx.ca cn) x)
    (hb : ∀ (W : WX) (pn : List (Addr × Obj)) (xe : Value → Shared → Prop), Takes (X.tr pn xe) W → PSs (X.tr pn xe) body (sX X.K kx W m1))
    (hsu : ∀ (a : Addr) (pn : List (Addr × Obj)), PSs (X.suite a pn) (b₀ :: suite) (sM X.K kx ms)) (hg : Gl X x := by rfl) (hdb : (x == ("__debug__" : Str)) = false := by decide) :
    PS X (.Try body [.ExceptHandler (some (.Name x np)) none (b₀ :: suite) pos'] [] [] pos) (sM X.K kx (mTry cn m1 ms)) :=
  (ps_try_only (ts := fun _ _ _ => sM X.K kx ms) (tb := fun W => sX X.K kx W m1) (c := .ref (kx.ca cn)) hs hf ⟨hg, hdb, .inl T.g⟩ takes0 (fun W pn xe tk _ => hb W pn xe tk) (fun a oe cls d pn _ _ => hsu a _)).imp fun D σ H ⟨ρ, G, δ, f, δ', G', rl, sr, e, k⟩ => by
  unfold mTry at e
  split at e
  · rename_i f1 δ1 G1 e1
    cases e
    exact ⟨ρ, G, δ, .fl _, _, _, rl, sr, e1, k⟩
  · rename_i c' δ1 G1 e1
    split at e
    · rename_i hcc
      subst hcc
      refine ⟨ρ, G, δ, .ex _, δ1, G1, rl, sr, e1, fun ρ1 σ1 H1 g1 r1 s1 => ⟨true, T.m, fun _ a _ => ⟨ρ1, G1, δ1, f, δ', G', r1, s1, e, k.gr g1⟩, fun z => absurd z (by decide)⟩⟩
    · cases e
  · cases e
end
/-- the same of a mirror's def that may raise -/
theorem xdef_args {n l : Nat} {mb : MSX} {ds : List Dv} {G : Sto} {r : Rx × Sto} (e : xDef n l mb ds G = some r) : ds.length = n := by
  unfold xDef at e
  exact Decidable.byContradiction fun z => by rw [if_neg z] at e; cases e
theorem xdef_body {n l : Nat} {mb : MSX} {ds : List Dv} {G G' : Sto} {r : Rx} (e : xDef n l mb ds G = some (r, G')) :
    ∃ fx δ', mb (ds.map some ++ List.replicate l none) G = some (fx, δ', G') ∧ ((fx = .fl .nx ∧ r = .ok .non) ∨ (∃ d, fx = .fl (.rt d) ∧ r = .ok d) ∨ ∃ c, fx = .ex c ∧ r = .ex c) := by
  have z := xdef_args e
  unfold xDef at e
  rw [if_pos z] at e
  split at e
  · rename_i δ' G2 eb
    cases e
    exact ⟨_, δ', eb, .inl ⟨rfl, rfl⟩⟩
  · rename_i d δ' G2 eb
    cases e
    exact ⟨_, δ', eb, .inr (.inl ⟨d, rfl, rfl⟩)⟩
  · rename_i c δ' G2 eb
    cases e
    exact ⟨_, δ', eb, .inr (.inr ⟨c, rfl, rfl⟩)⟩
  · cases e
/-- a def (or method) of the text that may raise -/
theorem fn_x {P : Program} {w : World} {K : PySem.W.Frag} {kx : Kx} {mg : Str → Option Value} {base : Heap} {k l : Nat} {x qual : Str} {st : Stmt} {f : Addr} {fd : FuncData} {N ps : List Str} {mb : MSX} (F : Fun K x qual st f fd) (S : FnScope N ps (defScope st)) (hN : N.length = ps.length + l)
    (hbody : ∀ (cdv : Value) (A : Around) (outer : List Env) (s : Shared) (H : Hp) (E : XK), Room k (A.deeper (envOfC qual (defScope st) s.heap.objs.size f cdv)) → A.guards = some [] →
      Takes (cxOf (L2.CX P w) P w K mg base N qual (defScope st) f cdv A outer s H E) (fun cls d _ H => E cls d H) →
      PSs (cxOf (L2.CX P w) P w K mg base N qual (defScope st) f cdv A outer s H E) (defBody st) (sX K kx (fun cls d _ H => E cls d H) mb)) :
    FnX P w K kx mg base (k + 1) f fd ps (xDef ps.length l mb) := by
  refine ⟨fun _ _ _ e => xdef_args e, fun A outer s H args us vs Q E ρ G ds r G' quiet hr env hb rv rl dr e q => ?_⟩
  have hl : vs.length = ps.length := dr.len ▸ xdef_args e
  obtain ⟨fx, δ', eb, out⟩ := xdef_body e
  refine entered F S hr env hb rv hl (fun cdv deep => hbody cdv A outer s H E deep quiet (takes_of rfl rfl rfl rfl)) ⟨ρ, G, _, fx, δ', G', rl, sr_start dr (by rw [hN, hl]), eb, ?_⟩
  rcases out with ⟨rfl, rfl⟩ | ⟨d, rfl, rfl⟩ | ⟨c, rfl, rfl⟩
  · exact fun ρ' σ' H' g r' _ => q _ ρ' H' g r' .non
  · exact fun ρ' σ' H' g r' _ v dv => q v ρ' H' g r' dv
  · exact fun ρ' σ' H' g r' _ => q ρ' H' g r'
/-! ### bundles -/
structure MetX (P : Program) (w : World) (K : PySem.W.Frag) (kx : Kx) (mg : Str → Option Value) (base : Heap) (k cn : Nat) (m qual : Str) (st : Stmt) (ps : List Str) (mf : MFX) : Prop where
  ex : ∃ f fd, Fun K m qual st f fd ∧ Cls K (kx.ca cn) ∧ Meth K (kx.ca cn) m f ∧ FnX P w K kx mg base k f fd ps mf ∧ Binds K fd ps []
abbrev BdyX (P : Program) (w : World) (K : PySem.W.Frag) (kx : Kx) (mg : Str → Option Value) (base : Heap) (k : Nat) (N : List Str) (qual : Str) (st : Stmt) (mb : MSX) : Prop :=
  ∀ (f : Addr) (cdv : Value) (A : Around) (outer : List Env) (s : Shared) (H : Hp) (E : XK), Room k (A.deeper (envOfC qual (defScope st) s.heap.objs.size f cdv)) → A.guards = some [] →
    Takes (cxOf (L2.CX P w) P w K mg base N qual (defScope st) f cdv A outer s H E) (fun cls d _ H => E cls d H) →
    PSs (cxOf (L2.CX P w) P w K mg base N qual (defScope st) f cdv A outer s H E) (defBody st) (sX K kx (fun cls d _ H => E cls d H) mb)
theorem mex_of {P : Program} {w : World} {K : PySem.W.Frag} {kx : Kx} {mg : Str → Option Value} {base : Heap} {k l cn : Nat} {m qual : Str} {st : Stmt} {N ps : List Str} {mb : MSX} (c : Cls K (kx.ca cn)) (D : Dfm K (kx.ca cn) m qual st) (S : FnScope N ps (defScope st)) (hN : N.length = ps.length + l) (hb : Bp m qual st ps)
    (b : BdyX P w K kx mg base k N qual st mb) : MetX P w K kx mg base (k + 1) cn m qual st ps (xDef ps.length l mb) := by
  obtain ⟨f, fd, F, hm⟩ := D.ex
  exact ⟨f, fd, F, c, hm, fn_x F S hN (b f), F.binds hb⟩
section
variable {X : Cx} {W : WX} {kx : Kx} {e o : Expr} {mo : ME} {pos p apos : Pos} {es : List Expr} {mas mks : MA} {k cn : Nat} {st : Stmt} {ps : List Str} {mf : MFX} {qual : Str}
theorem x_mt {m : String} {pl : Sem Bool} (c : MetX X.prog X.w X.K kx X.mg X.base k cn (Str.ofString m) qual st ps mf) (hG : X.A.guards = some []) (hr : Room k X.A) (tk : Takes X W) (ho : PE X.nox o (tM X.K kx mo)) (ha : PA X (e :: es) (tMA X.K kx mas))
    (hst : Es X e es := by rfl) (hpl : Np X pos es := by rfl)
    (ht : eval (.Call (.Attribute o (Str.ofString m) apos) (e :: es) [] pos) X.env = (do let ov ← eval o X.env; standAt apos.atName; let (f, first) ← holding [ov] (getMethod ov (Str.ofString m) pl); callWith pos f first (backTo pos (starEach (e :: es) X.env)) (backToKw pos (keywordEach [] X.env))) := by rfl) :
    PE X (.Call (.Attribute o (Str.ofString m) apos) (e :: es) [] pos) (tX X.K kx W (xMeth cn m mf mo mas)) := by
  obtain ⟨f, fd, F, hc, hm, G, b⟩ := c.ex
  exact x_meth ho hc hm G hG hr tk b ha hst hpl ht
theorem x_mt0 {m : String} {pl : Sem Bool} (c : MetX X.prog X.w X.K kx X.mg X.base k cn (Str.ofString m) qual st ps mf) (hG : X.A.guards = some []) (hr : Room k X.A) (tk : Takes X W) (ho : PE X.nox o (tM X.K kx mo))
    (ht : eval (.Call (.Attribute o (Str.ofString m) apos) [] [] pos) X.env = (do let ov ← eval o X.env; standAt apos.atName; let (f, first) ← holding [ov] (getMethod ov (Str.ofString m) pl); callWith pos f first (backTo pos (starEach [] X.env)) (backToKw pos (keywordEach [] X.env))) := by rfl) :
    PE X (.Call (.Attribute o (Str.ofString m) apos) [] [] pos) (tX X.K kx W (xMeth cn m mf mo Mi.mNil)) := by
  obtain ⟨f, fd, F, hc, hm, G, b⟩ := c.ex
  exact x_meth0 ho hc hm G hG hr tk b ht
theorem x_mtK0 {kws : List Keyword} {ks : List Str} {ix : List Nat} {m : String} {pl : Sem Bool} (c : MetX X.prog X.w X.K kx X.mg X.base k cn (Str.ofString m) qual st ps mf) (hG : X.A.guards = some []) (hr : Room k X.A) (tk : Takes X W) (hb : Bk (Str.ofString m) qual st ps ks 1 ix) (hl : Len mks ks.length) (ho : PE X.nox o (tM X.K kx mo)) (hkw : PK X kws (tMA X.K kx mks))
    (hall : Ka X pos kws := by rfl) (hks : Ks X pos kws ks := by rfl)
    (hpl : ((backTo pos (starEach [] X.env)).any (·.1) || (backToKw pos (keywordEach kws X.env)).any (·.1.isNone)) = false := by rfl)
    (ht : eval (.Call (.Attribute o (Str.ofString m) apos) [] kws pos) X.env = (do let ov ← eval o X.env; standAt apos.atName; let (f, first) ← holding [ov] (getMethod ov (Str.ofString m) pl); callWith pos f first (backTo pos (starEach [] X.env)) (backToKw pos (keywordEach kws X.env))) := by rfl) :
    PE X (.Call (.Attribute o (Str.ofString m) apos) [] kws pos) (tX X.K kx W (xMethK cn m mf ix mo mks)) := by
  obtain ⟨f, fd, F, hc, hm, G, b⟩ := c.ex
  exact x_methK0 ho hc hm G hG hr tk (F.kbm hb) hl hkw hall hks hpl ht
end
end Ms

/-! PyEq: a == b, instances of a class without an __eq__ of its own. -/
namespace Ms
open PySem L2 PyProof.Rows
open Mi (Dv MO Sto Sl Rs bnd ME MT MA MS MF Fl MG MGs MI)
/-- the class at C: right under object, without an __eq__ or a __ne__ of its own -/
structure EqC (K : PySem.W.Frag) (C : Addr) : Prop where
  ex : ∃ (nm q : Str) (N : Addr) (bs : List Value) (sn : List Str) (sub : List Value) (ab : Bool) (col : Option Bool) (dd : Option Addr) (k0 k1 k2 k3 k5 : Option Value),
    K.lookup C = some (excClassObj nm q C N bs [.type "object"] true sn sub ab col dd k0 k1 k2 k3 k5 "object.__new__") ∧ PySem.W.nsOkIn K N = true ∧ PySem.W.nsIn K N "__eq__" = some none ∧ PySem.W.nsIn K N "__ne__" = some none
theorem EqC.inst {K : PySem.W.Frag} {C x dx : Addr} {h : Heap} {mA : Str → Option Value} (c : EqC K C) (k : K.In h) (o : ObjM h x dx C mA) : h.CmpInst x C [.type "object"] := by
  rcases c.ex with ⟨nm, q, N, bs, sn, sub, ab, col, dd, k0, k1, k2, k3, k5, at_, ok, noEq, noNe⟩
  exact ⟨_, nm, q, N, bs, true, sn, sub, ab, col, dd, k0, k1, k2, k3, k5, _, _, o.obj, rfl, k _ _ at_, .of_isNs (PySem.W.isNs_of_in k ok), PySem.W.nsMap_none_of_in k ok noEq, PySem.W.nsMap_none_of_in k ok noNe⟩
/-- two instances of the class c -/
def bEqO (c : Nat) : Mi.B2 := fun x y G => match x, y with
  | .ref a, .ref b => match G[a]?, G[b]? with
    | some (.ins c1 _), some (.ins c2 _) => if c1 = c ∧ c2 = c then some (.bl (decide (a = b)), G) else none
    | _, _ => none
  | _, _ => none
def rEqO (C : Addr) : R2 := fun x y H Q => ∃ a b dx fs dy fs', x = .ref a ∧ y = .ref b ∧ H a = some (.ins C dx fs) ∧ H b = some (.ins C dy fs') ∧ Q (.bl (decide (a = b))) H
section
variable {X : Cx} {kx : Kx}
theorem op_eqO {C : Addr} (c : EqC X.K C) (hu : X.A.units + 64 < cLine) : OpR X (compareOp .Eq) (rEqO C) := fun pins s σ H x y v u Q inv rx ry ⟨a, b, dx, fs, dy, fs', ex, ey, ha, hb, done⟩ => by
  subst ex ey
  cases rx
  cases ry
  rcases ins_get inv.hok ha with ⟨_, oa, _⟩
  rcases ins_get inv.hok hb with ⟨_, ob, _⟩
  have ca := c.inst inv.kIn oa
  have cb := c.inst inv.kIn ob
  rcases s with ⟨hp, gs, dr, tk, os⟩
  by_cases same : a = b
  · subst same
    rw [decide_eq_true rfl] at done
    exact compareOp_eq_same PySem.F.cmp_object ca (by omega) ⟨.bl true, H, inv, rfl, done⟩
  · rw [decide_eq_false same] at done
    exact compareOp_eq_other PySem.F.cmp_object PySem.F.cmp_object ca cb same (by omega) ⟨.bl false, H, inv, rfl, done⟩
theorem b_eqO (c : Nat) : B2ok X kx (bEqO c) (rEqO (kx.ca c)) := by
  intro x y G d G' ρ H v w Q e rl dx dy k
  cases x with
  | ref a =>
    cases y with
    | ref b =>
      unfold bEqO at e
      dsimp only at e
      split at e
      · rename_i c1 f1 c2 f2 e1 e2
        split at e
        · rename_i hc
          obtain ⟨hc1, hc2⟩ := hc
          subst hc1
          subst hc2
          cases e
          cases dx with
          | @ref _ p ea =>
            cases dy with
            | @ref _ p2 eb =>
              obtain ⟨d1, g1, h1, _⟩ := ins_at rl e1 ea
              obtain ⟨d2, g2, h2, _⟩ := ins_at rl e2 eb
              refine ⟨p, p2, d1, g1, d2, g2, rfl, rfl, h1, h2, ?_⟩
              have q := k (.bl (decide (a = b))) ρ H Gr.refl rl (.bl _)
              have z : decide (p = p2) = decide (a = b) := by
                by_cases ab : a = b
                · subst ab
                  rw [ea] at eb
                  cases eb
                  rw [decide_eq_true rfl, decide_eq_true rfl]
                · rw [decide_eq_false ab, decide_eq_false]
                  intro pp
                  subst pp
                  exact ab ((List.getElem?_inj (List.getElem?_eq_some_iff.mp ea).1 rl.nd).mp (ea.trans eb.symm))
              rw [z]
              exact q
        · exact absurd e (fun z => nomatch z)
      · exact absurd e (fun z => nomatch z)
    | _ => exact absurd e (fun z => nomatch z)
  | _ => exact absurd e (fun z => nomatch z)
end
end Ms

/-! PyZl: zip of two lists that stay as they are. -/
namespace Ms
open PySem L2
open Mi (Dv MO Sto Sl Rs bnd ME MT MA MS MF Fl MG MGs MI)
def mZipL (a b : ME) : MI := fun δ G => bnd (a δ G) fun x G1 => bnd (b δ G1) fun y G2 => match Mi.lstOf G2 x, Mi.lstOf G2 y with
  | some xs, some ys => some ((List.zipWith (fun p q => .tup [p, q]) xs ys, fun G' => Mi.lstOf G' x = some xs ∧ Mi.lstOf G' y = some ys), G2)
  | _, _ => none
theorem i_zipL {X : Cx} {kx : Kx} {a b : Expr} {ma mb : ME} {elts : List Expr} {kk : Nat} {tpos p pos : Pos} (hm : X.mg "zip" = none) (ha : PE X a (tM X.K kx ma)) (hb : PE X b (tM X.K kx mb)) (hg : Gl X "zip" := by rfl)
    (hs : starEach [a, b] X.env = (false, eval a X.env) :: starEach [b] X.env := by rfl) (hs2 : starEach [b] X.env = (false, eval b X.env) :: starEach [] X.env := by rfl) (hpl : (backTo pos (starEach [b] X.env)).any (·.1) = false := by rfl) :
    PI X (.Tuple elts kk tpos) (.Call (.Name "zip" p) [a, b] [] pos) (tI X.K kx (mZipL ma mb)) :=
  (RZ.pi_zipA hg hm (pa_cons ha (pa_cons hb pa_nil hs2) hs) hs hpl).imp fun σ H R ⟨ρ, G, δ, ds, st, G', rl, sr, e, k⟩ => by
  obtain ⟨x, G1, e1, e⟩ := Mi.bnd_eq e
  obtain ⟨y, G2, e2, e⟩ := Mi.bnd_eq e
  refine ⟨ρ, G, δ, x, G1, rl, sr, e1, fun v ρ1 H1 g1 r1 d1 => ⟨ρ1, G1, δ, y, G2, r1, sr.gr g1, e2, fun w ρ2 H2 g2 r2 d2 => ?_⟩⟩
  split at e
  · rename_i xs ys el el2
    cases e
    obtain ⟨ad, vs, ev, h, r⟩ := lstOf_at r2 el (d1.gr g2)
    subst ev
    obtain ⟨bd, ws, ev2, h2, rT⟩ := lstOf_at r2 el2 d2
    subst ev2
    refine ⟨ad, bd, vs, ws, rfl, .inl ⟨h, h2, k _ ρ2 H2 (g1.trans g2) r2 ?_⟩⟩
    have dx := d1.gr g2
    have rx : ∀ ρ G H, Gw ρ2 H2 ρ H → Rl X.K kx ρ G H → Mi.lstOf G x = some xs → ∃ vs, SqL X.K H ad vs ∧ DRs X.K ρ H xs vs := fun ρ G H g r s => by
      obtain ⟨a, vs, e, h, q⟩ := lstOf_at r s (dx.gw g)
      cases e
      exact ⟨vs, h, q⟩
    have ry : ∀ ρ G H, Gw ρ2 H2 ρ H → Rl X.K kx ρ G H → Mi.lstOf G y = some ys → ∃ vs, SqL X.K H bd vs ∧ DRs X.K ρ H ys vs := fun ρ G H g r s => by
      obtain ⟨a, vs, e, h, q⟩ := lstOf_at r s (d2.gw g)
      cases e
      exact ⟨vs, h, q⟩
    refine ⟨fun ρ G H g r s => ?_, fun i ρ G H g r s hi => ?_, fun i d ρ G H z H' g r s hd hy => ?_⟩
    · obtain ⟨vs, h, dr⟩ := rx ρ G H g r s.1
      obtain ⟨ws, h2, dr2⟩ := ry ρ G H g r s.2
      refine ⟨vs, ws, h, h2, ?_⟩
      rw [List.length_zipWith, dr.len, dr2.len]
      omega
    · obtain ⟨vs, h, dr⟩ := rx ρ G H g r s.1
      obtain ⟨ws, h2, dr2⟩ := ry ρ G H g r s.2
      rw [List.length_zipWith, dr.len, dr2.len] at hi
      have i1 : i < vs.length := by omega
      have i2 : i < ws.length := by omega
      exact ⟨vs, ws, vs[i], ws[i], h, h2, List.getElem?_eq_getElem i1, List.getElem?_eq_getElem i2⟩
    · obtain ⟨T, u1, u2, ev, hN, eH, f1, f2⟩ := hy
      subst ev eH
      obtain ⟨vs, h, dr⟩ := rx ρ G H g r s.1
      obtain ⟨ws, h2, dr2⟩ := ry ρ G H g r s.2
      obtain ⟨p1, q1, hp, hq, rfl⟩ := zw_get xs ys i d hd
      obtain ⟨v1, hv1, dv1⟩ := dr.get hp
      obtain ⟨v2, hv2, dv2⟩ := dr2.get hq
      have t1 := f1 vs h
      rw [hv1] at t1
      cases t1
      have t2 := f2 ws h2
      rw [hv2] at t2
      cases t2
      obtain ⟨g3, r3⟩ := r.side (.tup [u1, u2]) hN
      exact ⟨g3, r3, .tup (SqT.of upd_same) (.cons (dv1.gr g3) (.cons (dv2.gr g3) .nil))⟩
  · cases e
end Ms

namespace Lw
open PySem L2 PyProof.Rows Ms
open Mi (Dv MO Sto Sl Rs bnd ME MT MA MS MF Fl MG MGs MI)
def topOf (i : Nat) : Stmt := PySem.Challenge.pw_trailkeep_k22_whole_roots_told_and_newer.main.body.getD i (.Pass ⟨0, 0, 0, 0⟩)
abbrev s_is_integer : Stmt := topOf 15
abbrev s_is_between : Stmt := topOf 16
abbrev s_need_sizes : Stmt := topOf 28
abbrev s_room_of : Stmt := topOf 29
abbrev s_root_blocks_of : Stmt := topOf 30
abbrev s_Disk_mk : Stmt := inClass (topOf 33) 0
abbrev s_Disk_burn : Stmt := inClass (topOf 33) 4
abbrev s_Disk_force : Stmt := inClass (topOf 33) 7
abbrev s_law_draw : Stmt := topOf 48
abbrev s_law_pick : Stmt := topOf 49
abbrev s_law_bent_block : Stmt := topOf 55
abbrev s_law_deck : Stmt := topOf 47
abbrev s_law_disk : Stmt := topOf 50
abbrev s_law_root : Stmt := topOf 51
abbrev s_law_drawn_root : Stmt := topOf 54
abbrev s_law_judge_root : Stmt := topOf 52
abbrev s_law_newer : Stmt := topOf 53
abbrev s_law_wide_field : Stmt := topOf 56
abbrev s_Disk_need_place : Stmt := inClass (topOf 33) 3
abbrev s_is_word : Stmt := topOf 17
abbrev s_are_words : Stmt := topOf 18
abbrev s_is_block : Stmt := topOf 19
abbrev s_Disk_write : Stmt := inClass (topOf 33) 6
abbrev s_law_write_all : Stmt := topOf 57
abbrev s_need_disk : Stmt := topOf 34
abbrev s_Disk_read : Stmt := inClass (topOf 33) 5
abbrev s_broken_at : Stmt := topOf 38
abbrev s_is_place_word : Stmt := topOf 39
abbrev s_is_root_row : Stmt := topOf 40
abbrev s_root_at : Stmt := topOf 41
abbrev s_judge_root : Stmt := topOf 44
abbrev s_newer : Stmt := topOf 42
abbrev s_newer_root : Stmt := topOf 45
abbrev s_law : Stmt := topOf 58
def ns_BLANK : List Int := List.replicate 32 (0 : Int)
def d_BLANK : Dv := .tup (ns_BLANK.map Dv.int)
structure Tx (K : PySem.W.Frag) (kx : Kx) (mg : Str → Option Value) : Prop where
  b_all : mg "all" = none
  b_bool : mg "bool" = none
  b_enumerate : mg "enumerate" = none
  b_int : mg "int" = none
  b_isinstance : mg "isinstance" = none
  b_len : mg "len" = none
  b_list : mg "list" = none
  b_max : mg "max" = none
  b_min : mg "min" = none
  b_range : mg "range" = none
  b_repr : mg "repr" = none
  b_tuple : mg "tuple" = none
  c_BLANK : ∃ t, mg "BLANK" = some (.ref t) ∧ (V.ref t, d_BLANK) ∈ kx.cs
  c_CONTENT : ∃ t, mg "CONTENT" = some (.int 28 t)
  c_FIRST_PLACE : ∃ t, mg "FIRST_PLACE" = some (.int 4 t)
  c_LEAST_BLOCKS : ∃ t, mg "LEAST_BLOCKS" = some (.int 4 t)
  c_LEAST_SEGMENTS : ∃ t, mg "LEAST_SEGMENTS" = some (.int 6 t)
  c_MOST_BLOCKS : ∃ t, mg "MOST_BLOCKS" = some (.int 24 t)
  c_MOST_SEGMENTS : ∃ t, mg "MOST_SEGMENTS" = some (.int 40 t)
  c_MOST_WORD : ∃ t, mg "MOST_WORD" = some (.int 1000000000 t)
  c_ROOT : ∃ t, mg "ROOT" = some (.int 3 t)
  c_ROOT_WORDS : ∃ t, mg "ROOT_WORDS" = some (.int 4 t)
  c_SPARE_SEGMENTS : ∃ t, mg "SPARE_SEGMENTS" = some (.int 4 t)
  c_WORDS : ∃ t, mg "WORDS" = some (.int 32 t)
  cl_Disk : Cls K (kx.ca 0)
  a_Disk_blocks : Fok K kx [0] "blocks"
  a_Disk_k : Fok K kx [0] "k"
  a_Disk_left : Fok K kx [0] "left"
  a_Disk_n : Fok K kx [0] "n"
  a_Disk_newest : Fok K kx [0] "newest"
  a_Disk_queue : Fok K kx [0] "queue"
  a_Disk_r : Fok K kx [0] "r"
  a_Disk_s : Fok K kx [0] "s"
  i_Disk : C8.InsC K (kx.ca 0)
  n_Disk : mg "Disk" = some (.ref (kx.ca 0))
  f_is_integer : Dfn K mg "is_integer" s_is_integer
  f_is_between : Dfn K mg "is_between" s_is_between
  f_need_sizes : Dfn K mg "need_sizes" s_need_sizes
  f_room_of : Dfn K mg "room_of" s_room_of
  f_root_blocks_of : Dfn K mg "root_blocks_of" s_root_blocks_of
  f_Disk_mk : Dfk K mg (kx.ca 0) "Disk" "Disk.__init__" s_Disk_mk
  f_Disk_burn : Dfm K (kx.ca 0) "burn" "Disk.burn" s_Disk_burn
  f_Disk_force : Dfm K (kx.ca 0) "force" "Disk.force" s_Disk_force
  f_law_draw : Dfn K mg "_law_draw" s_law_draw
  f_law_pick : Dfn K mg "_law_pick" s_law_pick
  f_law_bent_block : Dfn K mg "_law_bent_block" s_law_bent_block
  f_law_deck : Dfn K mg "_law_deck" s_law_deck
  f_law_disk : Dfn K mg "_law_disk" s_law_disk
  f_law_root : Dfn K mg "_law_root" s_law_root
  f_law_drawn_root : Dfn K mg "_law_drawn_root" s_law_drawn_root
  f_law_judge_root : Dfn K mg "_law_judge_root" s_law_judge_root
  f_law_newer : Dfn K mg "_law_newer" s_law_newer
  f_law_wide_field : Dfn K mg "_law_wide_field" s_law_wide_field
  f_Disk_need_place : Dfm K (kx.ca 0) "need_place" "Disk.need_place" s_Disk_need_place
  f_is_word : Dfn K mg "is_word" s_is_word
  f_are_words : Dfn K mg "are_words" s_are_words
  f_is_block : Dfn K mg "is_block" s_is_block
  f_Disk_write : Dfm K (kx.ca 0) "write" "Disk.write" s_Disk_write
  f_law_write_all : Dfn K mg "_law_write_all" s_law_write_all
  f_need_disk : Dfn K mg "need_disk" s_need_disk
  f_Disk_read : Dfm K (kx.ca 0) "read" "Disk.read" s_Disk_read
  f_broken_at : Dfn K mg "broken_at" s_broken_at
  f_is_place_word : Dfn K mg "is_place_word" s_is_place_word
  f_is_root_row : Dfn K mg "is_root_row" s_is_root_row
  f_root_at : Dfn K mg "root_at" s_root_at
  f_judge_root : Dfn K mg "judge_root" s_judge_root
  f_newer : Dfn K mg "newer" s_newer
  f_newer_root : Dfn K mg "newer_root" s_newer_root
  f_law : Dfn K mg "law" s_law
noncomputable def b_is_integer : MS :=
    Mi.mRet (Mi.mAnd (Mi.mIsI .int (Mi.mVar 0)) (Mi.mNot (Mi.mIsI .bool (Mi.mVar 0))))
noncomputable def m_is_integer : MF := Mi.mDef 1 0 b_is_integer
abbrev n_is_integer : List Str := ["thing"]
abbrev p_is_integer : List Str := ["thing"]
noncomputable def b_is_between : MS :=
    Mi.mRet (Mi.mAnd (Mi.mCall m_is_integer (Mi.mCons (Mi.mVar 0) Mi.mNil)) (Mi.mChain Mi.bLe Mi.bLe (Mi.mVar 1) (Mi.mVar 0) (Mi.mVar 2)))
noncomputable def m_is_between : MF := Mi.mDef 3 0 b_is_between
abbrev n_is_between : List Str := ["thing", "least", "most"]
abbrev p_is_between : List Str := ["thing", "least", "most"]
noncomputable def b_need_sizes : MS :=
    Mi.mSeq (Mi.mIfS (Mi.mTnot (Mi.mTb (Mi.mCall m_is_between (Mi.mCons (Mi.mVar 0) (Mi.mCons (Mi.mC (.int 6)) (Mi.mCons (Mi.mC (.int 40)) Mi.mNil)))))) Mi.mFail Mi.mSkip) (
    Mi.mIfS (Mi.mTnot (Mi.mTb (Mi.mCall m_is_between (Mi.mCons (Mi.mVar 1) (Mi.mCons (Mi.mC (.int 4)) (Mi.mCons (Mi.mC (.int 24)) Mi.mNil)))))) Mi.mFail Mi.mSkip)
noncomputable def m_need_sizes : MF := Mi.mDef 2 0 b_need_sizes
abbrev n_need_sizes : List Str := ["segments", "blocks"]
abbrev p_need_sizes : List Str := ["segments", "blocks"]
noncomputable def b_room_of : MS :=
    Mi.mRet (Mi.m2 (Mi.bMul false) (Mi.m2 Mi.bSub (Mi.mVar 0) (Mi.mC (.int 4))) (Mi.m2 Mi.bSub (Mi.mVar 1) (Mi.mC (.int 1))))
noncomputable def m_room_of : MF := Mi.mDef 2 0 b_room_of
abbrev n_room_of : List Str := ["segments", "blocks"]
abbrev p_room_of : List Str := ["segments", "blocks"]
noncomputable def b_root_blocks_of : MS :=
    Mi.mRet (Mi.m2 Mi.bDiv (Mi.m2 Mi.bSub (Mi.m2 (Mi.bAdd false) (Mi.m2 (Mi.bAdd false) (Mi.mCall m_room_of (Mi.mCons (Mi.mVar 0) (Mi.mCons (Mi.mVar 1) Mi.mNil))) (Mi.mC (.int 4))) (Mi.mC (.int 28))) (Mi.mC (.int 1))) (Mi.mC (.int 28)))
noncomputable def m_root_blocks_of : MF := Mi.mDef 2 0 b_root_blocks_of
abbrev n_root_blocks_of : List Str := ["segments", "blocks"]
abbrev p_root_blocks_of : List Str := ["segments", "blocks"]
noncomputable def b_Disk_mk : MS :=
    Mi.mSeq (Mi.mExpr (Mi.mCall m_need_sizes (Mi.mCons (Mi.mVar 1) (Mi.mCons (Mi.mVar 2) Mi.mNil)))) (
    Mi.mSeq (Mi.mSetF [0] (Mi.mVar 0) "s" (Mi.mVar 1)) (
    Mi.mSeq (Mi.mSetF [0] (Mi.mVar 0) "k" (Mi.mVar 2)) (
    Mi.mSeq (Mi.mSetF [0] (Mi.mVar 0) "n" (Mi.mCall m_room_of (Mi.mCons (Mi.mVar 1) (Mi.mCons (Mi.mVar 2) Mi.mNil)))) (
    Mi.mSeq (Mi.mSetF [0] (Mi.mVar 0) "r" (Mi.mCall m_root_blocks_of (Mi.mCons (Mi.mVar 1) (Mi.mCons (Mi.mVar 2) Mi.mNil)))) (
    Mi.mSeq (Mi.mSetF [0] (Mi.mVar 0) "blocks" (Mi.m2 (Mi.bMul true) (Mi.mLst false (Mi.mCons (Mi.mC d_BLANK) Mi.mNil)) (Mi.m2 (Mi.bAdd false) (Mi.m2 (Mi.bMul false) (Mi.mC (.int 2)) (Mi.mFld [0] (Mi.mVar 0) "r")) (Mi.m2 (Mi.bMul false) (Mi.mVar 1) (Mi.mVar 2))))) (
    Mi.mSeq (Mi.mSetF [0] (Mi.mVar 0) "queue" (Mi.mLst true Mi.mNil)) (
    Mi.mSeq (Mi.mSetF [0] (Mi.mVar 0) "newest" mDct0) (
    Mi.mSetF [0] (Mi.mVar 0) "left" (Mi.mC .non)))))))))
noncomputable def m_Disk_mk : MF := Mi.mDef 3 0 b_Disk_mk
abbrev n_Disk_mk : List Str := ["self", "segments", "blocks"]
abbrev p_Disk_mk : List Str := ["self", "segments", "blocks"]
noncomputable def b_Disk_burn : MS :=
    Mi.mIfS (Mi.mTb (Mi.mIsN true (Mi.mFld [0] (Mi.mVar 0) "left"))) (Mi.mSeq (Mi.mIfS (Mi.mTb (Mi.m2 (Mi.bEq false) (Mi.mFld [0] (Mi.mVar 0) "left") (Mi.mC (.int 0)))) Mi.mFail Mi.mSkip) (
    Mi.mAugF [0] (Mi.mVar 0) "left" Mi.bSub (Mi.mC (.int 1)))) Mi.mSkip
noncomputable def m_Disk_burn : MF := Mi.mDef 1 0 b_Disk_burn
abbrev n_Disk_burn : List Str := ["self"]
abbrev p_Disk_burn : List Str := ["self"]
noncomputable def qi_Disk_force_1 : MI :=
    Mi.iSeq (Mi.mFld [0] (Mi.mVar 0) "queue")
noncomputable def qb_Disk_force_1 : MS :=
    Mi.mSetI (Mi.mFld [0] (Mi.mVar 0) "blocks") (Mi.mVar 1) (Mi.mVar 2)
noncomputable def qf_Disk_force_1 : MS :=
    Mi.mFor qi_Disk_force_1 (Mi.gTup 2 (Mi.gCons (Mi.gNm 1) (Mi.gCons (Mi.gNm 2) Mi.gNil))) qb_Disk_force_1
noncomputable def b_Disk_force : MS :=
    Mi.mSeq (Mi.mExpr (Mi.mMeth 0 "burn" m_Disk_burn (Mi.mVar 0) Mi.mNil)) (
    Mi.mSeq qf_Disk_force_1 (
    Mi.mSeq (Mi.mSetF [0] (Mi.mVar 0) "queue" (Mi.mLst true Mi.mNil)) (
    Mi.mSetF [0] (Mi.mVar 0) "newest" mDct0)))
noncomputable def m_Disk_force : MF := Mi.mDef 1 2 b_Disk_force
abbrev n_Disk_force : List Str := ["self", "place", "block"]
abbrev p_Disk_force : List Str := ["self"]
noncomputable def b_law_draw : MS :=
    Mi.mSeq (Mi.mSetK (Mi.mVar 0) (Mi.mC (.str "draws")) (Mi.m2 (Mi.bAdd false) (Mi.m2 Mi.bSubs (Mi.mVar 0) (Mi.mC (.str "draws"))) (Mi.mC (.int 1)))) (
    Mi.mSeq (Mi.mAsg (Mi.m2 (Mi.bAdd false) (Mi.m2 Mi.bSubs (Mi.mVar 0) (Mi.mC (.str "mixed"))) (Mi.m2 (Mi.bMul false) (Mi.mC (.int 69621)) (Mi.m2 Mi.bSubs (Mi.mVar 0) (Mi.mC (.str "draws"))))) (Mi.gNm 2)) (
    Mi.mSeq (Mi.mIfS (Mi.mTb (Mi.m2 (Mi.bEq true) (Mi.m2 Mi.bSubs (Mi.mVar 0) (Mi.mC (.str "cells"))) (Mi.mLst false Mi.mNil))) (Mi.mSeq (Mi.mAsg (Mi.mPop (Mi.m2 Mi.bSubs (Mi.mVar 0) (Mi.mC (.str "cells")))) (Mi.gNm 3)) (
    Mi.mSeq (Mi.mIfS (Mi.mTb (Mi.m2 Mi.bGe (Mi.mVar 3) (Mi.m2 Mi.bPow (Mi.mC (.int 10)) (Mi.mC (.int 18))))) (Mi.mSeq (Mi.mExpr (Mi.mAppend (Mi.m2 Mi.bSubs (Mi.mVar 0) (Mi.mC (.str "cells"))) (Mi.m2 Mi.bDiv (Mi.mVar 3) (Mi.mB Mi.fMax (Mi.mCons (Mi.mC (.int 2)) (Mi.mCons (Mi.mVar 1) Mi.mNil)))))) (
    Mi.mRet (Mi.m2 Mi.bMod (Mi.mB Mi.fInt (Mi.mCons (Mi.mVar 3) Mi.mNil)) (Mi.mVar 1)))) Mi.mSkip) (
    Mi.mAsg (Mi.m2 (Mi.bAdd false) (Mi.mVar 2) (Mi.m2 Mi.bMod (Mi.mB Mi.fInt (Mi.mCons (Mi.mVar 3) Mi.mNil)) (Mi.mC (.int 2147483629)))) (Mi.gNm 2)))) Mi.mSkip) (
    Mi.mSeq (Mi.mAsg (Mi.m2 Mi.bMod (Mi.mB Mi.fInt (Mi.mCons (Mi.m2 (Mi.bAdd false) (Mi.m2 (Mi.bMul false) (Mi.mVar 2) (Mi.mC (.int 39373))) (Mi.mC (.int 73))) Mi.mNil)) (Mi.mC (.int 2147483647))) (Mi.gNm 2)) (
    Mi.mSeq (Mi.mAsg (Mi.m2 Mi.bMod (Mi.mB Mi.fInt (Mi.mCons (Mi.m2 (Mi.bAdd false) (Mi.m2 (Mi.bAdd false) (Mi.m2 (Mi.bMul false) (Mi.mVar 2) (Mi.mVar 2)) (Mi.m2 (Mi.bMul false) (Mi.mC (.int 52713)) (Mi.m2 Mi.bSubs (Mi.mVar 0) (Mi.mC (.str "draws"))))) (Mi.mC (.int 41))) Mi.mNil)) (Mi.mC (.int 2147483587))) (Mi.gNm 2)) (
    Mi.mSeq (Mi.mAsg (Mi.m2 Mi.bMod (Mi.mB Mi.fInt (Mi.mCons (Mi.m2 (Mi.bMul false) (Mi.mVar 2) (Mi.mC (.int 40692))) Mi.mNil)) (Mi.mC (.int 2147483563))) (Mi.gNm 2)) (
    Mi.mRet (Mi.m2 Mi.bMod (Mi.mB Mi.fInt (Mi.mCons (Mi.m2 Mi.bDiv (Mi.mVar 2) (Mi.mC (.int 64))) Mi.mNil)) (Mi.mVar 1))))))))
noncomputable def m_law_draw : MF := Mi.mDef 2 2 b_law_draw
abbrev n_law_draw : List Str := ["deck", "many", "number", "cell"]
abbrev p_law_draw : List Str := ["deck", "many"]
noncomputable def b_law_pick : MS :=
    Mi.mRet (Mi.m2 Mi.bSubs (Mi.mVar 1) (Mi.mCall m_law_draw (Mi.mCons (Mi.mVar 0) (Mi.mCons (Mi.mB Mi.fLen (Mi.mCons (Mi.mVar 1) Mi.mNil)) Mi.mNil))))
noncomputable def m_law_pick : MF := Mi.mDef 2 0 b_law_pick
abbrev n_law_pick : List Str := ["deck", "some"]
abbrev p_law_pick : List Str := ["deck", "some"]
noncomputable def b_law_bent_block : MS :=
    Mi.mSeq (Mi.mAsg (Mi.mCall m_law_pick (Mi.mCons (Mi.mVar 0) (Mi.mCons (Mi.mLst false (Mi.mCons (Mi.mC (.int 0)) (Mi.mCons (Mi.mC (.int 1)) (Mi.mCons (Mi.mC (.int 2)) (Mi.mCons (Mi.mC (.int 3)) (Mi.mCons (Mi.mC (.int 4)) (Mi.mCons (Mi.mC (.int 5)) (Mi.mCons (Mi.mC (.int 6)) (Mi.mCons (Mi.mC (.int 7)) (Mi.mCons (Mi.mC (.int 30)) (Mi.mCons (Mi.mC (.int 31)) (Mi.mCons (Mi.mCall m_law_draw (Mi.mCons (Mi.mVar 0) (Mi.mCons (Mi.mC (.int 32)) Mi.mNil))) (Mi.mCons (Mi.mCall m_law_draw (Mi.mCons (Mi.mVar 0) (Mi.mCons (Mi.mC (.int 32)) Mi.mNil))) Mi.mNil))))))))))))) Mi.mNil))) (Mi.gNm 3)) (
    Mi.mSeq (Mi.mAsg (Mi.m2 (Mi.bAdd false) (Mi.m2 (Mi.bMul false) (Mi.mC (.int 2)) (Mi.m2 Mi.bSubs (Mi.mVar 1) (Mi.mC (.str "R")))) (Mi.m2 (Mi.bMul false) (Mi.m2 Mi.bSubs (Mi.mVar 1) (Mi.mC (.str "S"))) (Mi.m2 Mi.bSubs (Mi.mVar 1) (Mi.mC (.str "K"))))) (Mi.gNm 4)) (
    Mi.mSeq (Mi.mAsg (Mi.mCall m_law_pick (Mi.mCons (Mi.mVar 0) (Mi.mCons (Mi.mLst false (Mi.mCons (Mi.mC (.int 0)) (Mi.mCons (Mi.mC (.int 1)) (Mi.mCons (Mi.mC (.int 2)) (Mi.mCons (Mi.mC (.int 3)) (Mi.mCons (Mi.m2 (Mi.bAdd false) (Mi.m2 Mi.bSubs (Mi.mVar 2) (Mi.mVar 3)) (Mi.mC (.int 1))) (Mi.mCons (Mi.mB Mi.fMax (Mi.mCons (Mi.mC (.int 0)) (Mi.mCons (Mi.m2 Mi.bSub (Mi.m2 Mi.bSubs (Mi.mVar 2) (Mi.mVar 3)) (Mi.mC (.int 1))) Mi.mNil))) (Mi.mCons (Mi.m2 Mi.bSubs (Mi.mVar 1) (Mi.mC (.str "S"))) (Mi.mCons (Mi.m2 Mi.bSub (Mi.m2 Mi.bSubs (Mi.mVar 1) (Mi.mC (.str "S"))) (Mi.mC (.int 1))) (Mi.mCons (Mi.m2 Mi.bSubs (Mi.mVar 1) (Mi.mC (.str "K"))) (Mi.mCons (Mi.m2 (Mi.bAdd false) (Mi.m2 Mi.bSubs (Mi.mVar 1) (Mi.mC (.str "K"))) (Mi.mC (.int 1))) (Mi.mCons (Mi.m2 Mi.bSubs (Mi.mVar 1) (Mi.mC (.str "N"))) (Mi.mCons (Mi.m2 (Mi.bMul false) (Mi.mC (.int 2)) (Mi.m2 Mi.bSubs (Mi.mVar 1) (Mi.mC (.str "R")))) (Mi.mCons (Mi.mVar 4) (Mi.mCons (Mi.m2 (Mi.bAdd false) (Mi.mVar 4) (Mi.mC (.int 1))) (Mi.mCons (Mi.m2 Mi.bPow (Mi.mC (.int 10)) (Mi.mC (.int 9))) Mi.mNil)))))))))))))))) Mi.mNil))) (Mi.gNm 5)) (
    Mi.mRet (Mi.m2 (Mi.bAdd false) (Mi.m2 (Mi.bAdd false) (Mi.mSlice false (Mi.mVar 2) none (some (Mi.mVar 3))) (Mi.mTup (Mi.mCons (Mi.mB Mi.fMin (Mi.mCons (Mi.mVar 5) (Mi.mCons (Mi.m2 Mi.bPow (Mi.mC (.int 10)) (Mi.mC (.int 9))) Mi.mNil))) Mi.mNil))) (Mi.mSlice false (Mi.mVar 2) (some (Mi.m2 (Mi.bAdd false) (Mi.mVar 3) (Mi.mC (.int 1)))) none)))))
noncomputable def m_law_bent_block : MF := Mi.mDef 3 3 b_law_bent_block
abbrev n_law_bent_block : List Str := ["deck", "d", "block", "at", "great", "word"]
abbrev p_law_bent_block : List Str := ["deck", "d", "block"]
noncomputable def qi_law_deck_1 : MI :=
    Mi.iSeq (Mi.mSlice false (Mi.mVar 0) none (some (Mi.mC (.int 63))))
noncomputable def qb_law_deck_1 : MS :=
    Mi.mAsg (Mi.m2 Mi.bMod (Mi.mB Mi.fInt (Mi.mCons (Mi.m2 (Mi.bAdd false) (Mi.m2 (Mi.bAdd false) (Mi.m2 (Mi.bMul false) (Mi.mVar 1) (Mi.mC (.int 48271))) (Mi.m2 Mi.bMod (Mi.mB Mi.fInt (Mi.mCons (Mi.mVar 2) Mi.mNil)) (Mi.mC (.int 2147483629)))) (Mi.mC (.int 103))) Mi.mNil)) (Mi.mC (.int 2147483587))) (Mi.gNm 1)
noncomputable def qf_law_deck_1 : MS :=
    Mi.mFor qi_law_deck_1 (Mi.gNm 2) qb_law_deck_1
noncomputable def b_law_deck : MS :=
    Mi.mSeq (Mi.mAsg (Mi.mC (.int 13746022)) (Mi.gNm 1)) (
    Mi.mSeq qf_law_deck_1 (
    Mi.mRet (Mi.mDisp [(Mi.mC (.str "cells"), Mi.mRev true (Mi.mB (Mi.fList false) (Mi.mCons (Mi.mSlice false (Mi.mVar 0) none (some (Mi.mC (.int 63)))) Mi.mNil))), (Mi.mC (.str "mixed"), Mi.mVar 1), (Mi.mC (.str "draws"), Mi.mC (.int 0))])))
noncomputable def m_law_deck : MF := Mi.mDef 1 2 b_law_deck
abbrev n_law_deck : List Str := ["script", "number", "cell"]
abbrev p_law_deck : List Str := ["script"]
noncomputable def qt_law_disk_1 : MT :=
    Mi.mTb (Mi.m2 Mi.bLt (Mi.m2 (Mi.bMul false) (Mi.mC (.int 28)) (Mi.mVar 3)) (Mi.m2 (Mi.bAdd false) (Mi.mVar 2) (Mi.mC (.int 4))))
noncomputable def qb_law_disk_1 : MS :=
    Mi.mAsg (Mi.m2 (Mi.bAdd false) (Mi.mVar 3) (Mi.mC (.int 1))) (Mi.gNm 3)
noncomputable def qw_law_disk_1 : MS :=
    Mi.mWh qt_law_disk_1 qb_law_disk_1 200
noncomputable def b_law_disk : MS :=
    Mi.mSeq (Mi.mPar 2 3 (Mi.mCons (Mi.m2 (Mi.bMul false) (Mi.m2 Mi.bSub (Mi.mVar 0) (Mi.mC (.int 4))) (Mi.m2 Mi.bSub (Mi.mVar 1) (Mi.mC (.int 1)))) (Mi.mCons (Mi.mC (.int 0)) Mi.mNil))) (
    Mi.mSeq qw_law_disk_1 (
    Mi.mSeq (Mi.mAsg (Mi.mDisp [(Mi.mC (.str "S"), Mi.mVar 0), (Mi.mC (.str "K"), Mi.mVar 1), (Mi.mC (.str "N"), Mi.mVar 2), (Mi.mC (.str "R"), Mi.mVar 3)]) (Mi.gNm 4)) (
    Mi.mSeq (Mi.mSetK (Mi.mVar 4) (Mi.mC (.str "stand")) (Mi.m2 (Mi.bMul true) (Mi.mLst false (Mi.mCons (Mi.m2 (Mi.bMul false) (Mi.mTup (Mi.mCons (Mi.mC (.int 0)) Mi.mNil)) (Mi.mC (.int 32))) Mi.mNil)) (Mi.m2 (Mi.bAdd false) (Mi.m2 (Mi.bMul false) (Mi.mC (.int 2)) (Mi.mVar 3)) (Mi.m2 (Mi.bMul false) (Mi.mVar 0) (Mi.mVar 1))))) (
    Mi.mRet (Mi.mVar 4)))))
noncomputable def m_law_disk : MF := Mi.mDef 2 3 b_law_disk
abbrev n_law_disk : List Str := ["segments", "blocks", "n", "r", "found"]
abbrev p_law_disk : List Str := ["segments", "blocks"]
noncomputable def qi_law_root_1 : MI :=
    Mi.iRange1 (Mi.m2 Mi.bSubs (Mi.mVar 0) (Mi.mC (.str "N")))
noncomputable def qe_law_root_1 : ME :=
    Mi.m2 (Mi.bAdd false) (Mi.mGet2 (Mi.mVar 6) (Mi.mVar 8) (Mi.m1 Mi.uNeg (Mi.mC (.int 1)))) (Mi.mC (.int 1))
noncomputable def ql_law_root_1 : ME :=
    Mi.mLc false qi_law_root_1 (Mi.gNm 8) Mi.tYes qe_law_root_1 [8]
noncomputable def qi_law_root_2 : MI :=
    Mi.iRange1 (Mi.m2 Mi.bSubs (Mi.mVar 0) (Mi.mC (.str "R")))
noncomputable def qe_law_root_2 : ME :=
    Mi.m2 (Mi.bAdd false) (Mi.m2 (Mi.bAdd false) (Mi.mTup (Mi.mCons (Mi.mVar 1) (Mi.mCons (Mi.mC (.int 3)) (Mi.mCons (Mi.mVar 9) Mi.mNil)))) (Mi.mB Mi.fTuple (Mi.mCons (Mi.mSlice false (Mi.mVar 7) (some (Mi.m2 (Mi.bMul false) (Mi.mC (.int 28)) (Mi.mVar 9))) (some (Mi.m2 (Mi.bAdd false) (Mi.m2 (Mi.bMul false) (Mi.mC (.int 28)) (Mi.mVar 9)) (Mi.mC (.int 28))))) Mi.mNil))) (Mi.mTup (Mi.mCons (Mi.mVar 1) Mi.mNil))
noncomputable def ql_law_root_2 : ME :=
    Mi.mLc true qi_law_root_2 (Mi.gNm 9) Mi.tYes qe_law_root_2 [9]
noncomputable def b_law_root : MS :=
    Mi.mSeq (Mi.mAsg (Mi.m2 (Mi.bAdd false) (Mi.mLst false (Mi.mCons (Mi.mVar 2) (Mi.mCons (Mi.mVar 3) (Mi.mCons (Mi.mVar 4) (Mi.mCons (Mi.mVar 5) Mi.mNil))))) ql_law_root_1) (Mi.gNm 7)) (
    Mi.mSeq (Mi.mAsg (Mi.m2 (Mi.bAdd false) (Mi.mVar 7) (Mi.m2 (Mi.bMul false) (Mi.mLst false (Mi.mCons (Mi.mC (.int 0)) Mi.mNil)) (Mi.m2 Mi.bSub (Mi.m2 (Mi.bMul false) (Mi.mC (.int 28)) (Mi.m2 Mi.bSubs (Mi.mVar 0) (Mi.mC (.str "R")))) (Mi.mB Mi.fLen (Mi.mCons (Mi.mVar 7) Mi.mNil))))) (Mi.gNm 7)) (
    Mi.mRet ql_law_root_2))
noncomputable def m_law_root : MF := Mi.mDef 7 3 b_law_root
abbrev n_law_root : List Str := ["d", "number", "segment", "offset", "beyond", "last", "places", "words", "key", "i"]
abbrev p_law_root : List Str := ["d", "number", "segment", "offset", "beyond", "last", "places"]
noncomputable def qi_law_drawn_root_1 : MI :=
    Mi.iRange1 (Mi.m2 Mi.bSubs (Mi.mVar 1) (Mi.mC (.str "N")))
noncomputable def qb_law_drawn_root_1 : MS :=
    Mi.mIfS (Mi.mTb (Mi.m2 (Mi.bEq false) (Mi.mCall m_law_draw (Mi.mCons (Mi.mVar 0) (Mi.mCons (Mi.mC (.int 3)) Mi.mNil))) (Mi.mC (.int 0)))) (Mi.mSetK (Mi.mVar 2) (Mi.mVar 5) (Mi.m2 (Mi.bAdd false) (Mi.mVar 3) (Mi.mCall m_law_draw (Mi.mCons (Mi.mVar 0) (Mi.mCons (Mi.m2 Mi.bSub (Mi.mVar 4) (Mi.mVar 3)) Mi.mNil))))) Mi.mSkip
noncomputable def qf_law_drawn_root_1 : MS :=
    Mi.mFor qi_law_drawn_root_1 (Mi.gNm 5) qb_law_drawn_root_1
noncomputable def b_law_drawn_root : MS :=
    Mi.mSeq (mPar3 2 3 4 (Mi.mCons mDct0 (Mi.mCons (Mi.m2 (Mi.bMul false) (Mi.mC (.int 2)) (Mi.m2 Mi.bSubs (Mi.mVar 1) (Mi.mC (.str "R")))) (Mi.mCons (Mi.m2 (Mi.bAdd false) (Mi.m2 (Mi.bMul false) (Mi.mC (.int 2)) (Mi.m2 Mi.bSubs (Mi.mVar 1) (Mi.mC (.str "R")))) (Mi.m2 (Mi.bMul false) (Mi.m2 Mi.bSubs (Mi.mVar 1) (Mi.mC (.str "S"))) (Mi.m2 Mi.bSubs (Mi.mVar 1) (Mi.mC (.str "K"))))) Mi.mNil)))) (
    Mi.mSeq qf_law_drawn_root_1 (
    Mi.mSeq (Mi.mPar 6 7 (Mi.mCons (Mi.mCall m_law_draw (Mi.mCons (Mi.mVar 0) (Mi.mCons (Mi.m2 Mi.bSubs (Mi.mVar 1) (Mi.mC (.str "S"))) Mi.mNil))) (Mi.mCons (Mi.mCall m_law_draw (Mi.mCons (Mi.mVar 0) (Mi.mCons (Mi.m2 Mi.bSubs (Mi.mVar 1) (Mi.mC (.str "S"))) Mi.mNil))) Mi.mNil))) (
    Mi.mSeq (Mi.mAsg (Mi.mCall m_law_pick (Mi.mCons (Mi.mVar 0) (Mi.mCons (Mi.mLst false (Mi.mCons (Mi.mC (.int 1)) (Mi.mCons (Mi.mC (.int 2)) (Mi.mCons (Mi.mC (.int 5)) (Mi.mCons (Mi.mC (.int 7)) (Mi.mCons (Mi.m2 Mi.bPow (Mi.mC (.int 10)) (Mi.mC (.int 9))) (Mi.mCons (Mi.m2 (Mi.bAdd false) (Mi.mC (.int 1)) (Mi.mCall m_law_draw (Mi.mCons (Mi.mVar 0) (Mi.mCons (Mi.mC (.int 20)) Mi.mNil)))) (Mi.mCons (Mi.m2 (Mi.bAdd false) (Mi.mC (.int 1)) (Mi.mCall m_law_draw (Mi.mCons (Mi.mVar 0) (Mi.mCons (Mi.m2 Mi.bPow (Mi.mC (.int 10)) (Mi.mC (.int 9))) Mi.mNil)))) (Mi.mCons (Mi.mC (.int 0)) Mi.mNil))))))))) Mi.mNil))) (Mi.gNm 8)) (
    Mi.mRet (Mi.mCall m_law_root (Mi.mCons (Mi.mVar 1) (Mi.mCons (Mi.mVar 8) (Mi.mCons (Mi.mVar 6) (Mi.mCons (Mi.mCall m_law_draw (Mi.mCons (Mi.mVar 0) (Mi.mCons (Mi.m2 (Mi.bAdd false) (Mi.m2 Mi.bSubs (Mi.mVar 1) (Mi.mC (.str "K"))) (Mi.mC (.int 1))) Mi.mNil))) (Mi.mCons (Mi.mVar 7) (Mi.mCons (Mi.mCall m_law_draw (Mi.mCons (Mi.mVar 0) (Mi.mCons (Mi.mB Mi.fMin (Mi.mCons (Mi.m2 (Mi.bAdd false) (Mi.mVar 8) (Mi.mC (.int 2))) (Mi.mCons (Mi.m2 (Mi.bAdd false) (Mi.m2 Mi.bPow (Mi.mC (.int 10)) (Mi.mC (.int 9))) (Mi.mC (.int 1))) Mi.mNil))) Mi.mNil))) (Mi.mCons (Mi.mVar 2) Mi.mNil))))))))))))
noncomputable def m_law_drawn_root : MF := Mi.mDef 2 7 b_law_drawn_root
abbrev n_law_drawn_root : List Str := ["deck", "d", "places", "low", "great", "key", "segment", "beyond", "number"]
abbrev p_law_drawn_root : List Str := ["deck", "d"]
noncomputable def qi_law_judge_root_1 : MI :=
    Mi.iEnum (Mi.mVar 3)
noncomputable def qb_law_judge_root_1 : MS :=
    Mi.mSeq (Mi.mIfS (Mi.mTor (Mi.mTb (Mi.m2 (Mi.bEq false) (Mi.mVar 5) (Mi.mC (.int 0)))) (Mi.mTor (Mi.mTb (Mi.m2 (Mi.bEq true) (Mi.mTup (Mi.mCons (Mi.m2 Mi.bSubs (Mi.mVar 7) (Mi.mC (.int 0))) (Mi.mCons (Mi.m2 Mi.bSubs (Mi.mVar 7) (Mi.mC (.int 31))) Mi.mNil))) (Mi.mTup (Mi.mCons (Mi.mVar 5) (Mi.mCons (Mi.mVar 5) Mi.mNil))))) (Mi.mTb (Mi.m2 (Mi.bEq true) (Mi.mSlice false (Mi.mVar 7) (some (Mi.mC (.int 1))) (some (Mi.mC (.int 3)))) (Mi.mTup (Mi.mCons (Mi.mC (.int 3)) (Mi.mCons (Mi.mVar 6) Mi.mNil))))))) (Mi.mRet (Mi.mTup (Mi.mCons (Mi.mC (.str "broken")) (Mi.mCons (Mi.mVar 6) Mi.mNil)))) Mi.mSkip) (
    Mi.mExpr (mExtend (Mi.mVar 4) (Mi.mSlice false (Mi.mVar 7) (some (Mi.mC (.int 3))) (some (Mi.mC (.int 31))))))
noncomputable def qf_law_judge_root_1 : MS :=
    Mi.mFor qi_law_judge_root_1 (Mi.gTup 2 (Mi.gCons (Mi.gNm 6) (Mi.gCons (Mi.gNm 7) Mi.gNil))) qb_law_judge_root_1
noncomputable def qt_law_judge_root_1 : MT :=
    Mi.mTand (Mi.mTb (Mi.m2 (Mi.bEq true) (Mi.mVar 15) (Mi.mC (.int 0)))) (Mi.mTnot (Mi.mTb (Mi.mChain Mi.bLe Mi.bLe (Mi.mVar 12) (Mi.mVar 15) (Mi.mVar 13))))
noncomputable def qi_law_judge_root_2 : MI :=
    Mi.iSeq (Mi.mVar 14)
noncomputable def qe_law_judge_root_1 : ME :=
    Mi.mVar 15
noncomputable def ql_law_judge_root_1 : ME :=
    Mi.mLc false qi_law_judge_root_2 (Mi.gNm 15) qt_law_judge_root_1 qe_law_judge_root_1 [15]
noncomputable def qi_law_judge_root_3 : MI :=
    Mi.iSeq (Mi.mVar 14)
noncomputable def qe_law_judge_root_2 : ME :=
    Mi.mIf (Mi.mTb (Mi.m2 (Mi.bEq false) (Mi.mVar 15) (Mi.mC (.int 0)))) (Mi.mC .non) (Mi.m2 Mi.bSub (Mi.mVar 15) (Mi.mC (.int 1)))
noncomputable def ql_law_judge_root_2 : ME :=
    Mi.mLc false qi_law_judge_root_3 (Mi.gNm 15) Mi.tYes qe_law_judge_root_2 [15]
noncomputable def b_law_judge_root : MS :=
    Mi.mSeq (Mi.mPar 3 4 (Mi.mCons (Mi.mSlice false (Mi.mVar 1) (some (Mi.m2 (Mi.bMul false) (Mi.mVar 2) (Mi.m2 Mi.bSubs (Mi.mVar 0) (Mi.mC (.str "R"))))) (some (Mi.m2 (Mi.bMul false) (Mi.m2 (Mi.bAdd false) (Mi.mVar 2) (Mi.mC (.int 1))) (Mi.m2 Mi.bSubs (Mi.mVar 0) (Mi.mC (.str "R")))))) (Mi.mCons (Mi.mLst true Mi.mNil) Mi.mNil))) (
    Mi.mSeq (Mi.mAsg (Mi.m2 Mi.bSubs (Mi.m2 Mi.bSubs (Mi.mVar 3) (Mi.mC (.int 0))) (Mi.mC (.int 0))) (Mi.gNm 5)) (
    Mi.mSeq qf_law_judge_root_1 (
    Mi.mSeq (Mi.mAsg (Mi.mSlice false (Mi.mVar 4) none (some (Mi.mC (.int 4)))) (gUnL 4 (Mi.gCons (Mi.gNm 8) (Mi.gCons (Mi.gNm 9) (Mi.gCons (Mi.gNm 10) (Mi.gCons (Mi.gNm 11) Mi.gNil)))))) (
    Mi.mSeq (Mi.mAsg (Mi.mTup (Mi.mCons (Mi.m2 (Mi.bAdd false) (Mi.m2 (Mi.bMul false) (Mi.mC (.int 2)) (Mi.m2 Mi.bSubs (Mi.mVar 0) (Mi.mC (.str "R")))) (Mi.mC (.int 1))) (Mi.mCons (Mi.m2 (Mi.bAdd false) (Mi.m2 (Mi.bMul false) (Mi.mC (.int 2)) (Mi.m2 Mi.bSubs (Mi.mVar 0) (Mi.mC (.str "R")))) (Mi.m2 (Mi.bMul false) (Mi.m2 Mi.bSubs (Mi.mVar 0) (Mi.mC (.str "S"))) (Mi.m2 Mi.bSubs (Mi.mVar 0) (Mi.mC (.str "K"))))) Mi.mNil))) (Mi.gTup 2 (Mi.gCons (Mi.gNm 12) (Mi.gCons (Mi.gNm 13) Mi.gNil)))) (
    Mi.mSeq (Mi.mAsg (Mi.mSlice false (Mi.mVar 4) (some (Mi.mC (.int 4))) (some (Mi.m2 (Mi.bAdd false) (Mi.mC (.int 4)) (Mi.m2 Mi.bSubs (Mi.mVar 0) (Mi.mC (.str "N")))))) (Mi.gNm 14)) (
    Mi.mSeq (Mi.mIfS (Mi.mTor (Mi.mTb (Mi.m2 Mi.bGe (Mi.mB fMaxL (Mi.mCons (Mi.mLst false (Mi.mCons (Mi.mVar 8) (Mi.mCons (Mi.mVar 10) Mi.mNil))) Mi.mNil)) (Mi.m2 Mi.bSubs (Mi.mVar 0) (Mi.mC (.str "S"))))) (Mi.mTor (Mi.mTb (Mi.m2 Mi.bGt (Mi.mVar 9) (Mi.m2 Mi.bSubs (Mi.mVar 0) (Mi.mC (.str "K"))))) (Mi.mTb (Mi.m2 Mi.bGt (Mi.mB fMaxL (Mi.mCons (Mi.m2 (Mi.bAdd false) (Mi.mSlice false (Mi.mVar 4) (some (Mi.m2 (Mi.bAdd false) (Mi.mC (.int 4)) (Mi.m2 Mi.bSubs (Mi.mVar 0) (Mi.mC (.str "N"))))) none) (Mi.mLst false (Mi.mCons (Mi.mC (.int 0)) Mi.mNil))) Mi.mNil)) (Mi.mC (.int 0)))))) (Mi.mRet (Mi.mTup (Mi.mCons (Mi.mC (.str "form")) Mi.mNil))) Mi.mSkip) (
    Mi.mSeq (Mi.mIfS (Mi.mTb (Mi.m2 (Mi.bEq true) ql_law_judge_root_1 (Mi.mLst false Mi.mNil))) (Mi.mRet (Mi.mTup (Mi.mCons (Mi.mC (.str "form")) Mi.mNil))) Mi.mSkip) (
    Mi.mRet (Mi.mTup (Mi.mCons (Mi.mC (.str "root")) (Mi.mCons (Mi.mVar 5) (Mi.mCons (Mi.mVar 8) (Mi.mCons (Mi.mVar 9) (Mi.mCons (Mi.mVar 10) (Mi.mCons (Mi.mVar 11) (Mi.mCons (Mi.mB Mi.fTuple (Mi.mCons ql_law_judge_root_2 Mi.mNil)) Mi.mNil))))))))))))))))
noncomputable def m_law_judge_root : MF := Mi.mDef 3 13 b_law_judge_root
abbrev n_law_judge_root : List Str := ["d", "blocks", "area", "some", "words", "n", "i", "it", "segment", "offset", "beyond", "last", "low", "great", "places", "word"]
abbrev p_law_judge_root : List Str := ["d", "blocks", "area"]
noncomputable def qi_law_newer_1 : MI :=
    Mi.iSeq (Mi.mTup (Mi.mCons (Mi.mC (.int 0)) (Mi.mCons (Mi.mC (.int 1)) Mi.mNil)))
noncomputable def qb_law_newer_1 : MS :=
    Mi.mSeq (Mi.mAsg (Mi.mCall m_law_judge_root (Mi.mCons (Mi.mVar 0) (Mi.mCons (Mi.mVar 1) (Mi.mCons (Mi.mVar 3) Mi.mNil)))) (Mi.gNm 4)) (
    Mi.mIfS (Mi.mTand (Mi.mTb (Mi.m2 (Mi.bEq false) (Mi.m2 Mi.bSubs (Mi.mVar 4) (Mi.mC (.int 0))) (Mi.mC (.str "root")))) (Mi.mTor (Mi.mTb (Mi.mIsN false (Mi.mVar 2))) (Mi.mTb (Mi.m2 Mi.bGt (Mi.m2 Mi.bSubs (Mi.mVar 4) (Mi.mC (.int 1))) (Mi.m2 Mi.bSubs (Mi.mVar 2) (Mi.mC (.int 0))))))) (Mi.mAsg (Mi.mTup (Mi.mCons (Mi.m2 Mi.bSubs (Mi.mVar 4) (Mi.mC (.int 1))) (Mi.mCons (Mi.mVar 3) Mi.mNil))) (Mi.gNm 2)) Mi.mSkip)
noncomputable def qf_law_newer_1 : MS :=
    Mi.mFor qi_law_newer_1 (Mi.gNm 3) qb_law_newer_1
noncomputable def b_law_newer : MS :=
    Mi.mSeq (Mi.mAsg (Mi.mC .non) (Mi.gNm 2)) (
    Mi.mSeq qf_law_newer_1 (
    Mi.mRet (Mi.mIf (Mi.mTb (Mi.mIsN false (Mi.mVar 2))) (Mi.mC .non) (Mi.m2 Mi.bSubs (Mi.mVar 2) (Mi.mC (.int 1))))))
noncomputable def m_law_newer : MF := Mi.mDef 2 3 b_law_newer
abbrev n_law_newer : List Str := ["d", "blocks", "found", "area", "it"]
abbrev p_law_newer : List Str := ["d", "blocks"]
noncomputable def b_law_wide_field : MS :=
    Mi.mRet (Mi.mCall m_law_pick (Mi.mCons (Mi.mVar 0) (Mi.mCons (Mi.mLst false (Mi.mCons (Mi.mTup (Mi.mCons (Mi.mC (.int 6)) (Mi.mCons (Mi.mC (.int 4)) Mi.mNil))) (Mi.mCons (Mi.mTup (Mi.mCons (Mi.mC (.int 7)) (Mi.mCons (Mi.mC (.int 5)) Mi.mNil))) (Mi.mCons (Mi.mTup (Mi.mCons (Mi.mC (.int 9)) (Mi.mCons (Mi.mC (.int 7)) Mi.mNil))) (Mi.mCons (Mi.mTup (Mi.mCons (Mi.mC (.int 10)) (Mi.mCons (Mi.mC (.int 7)) Mi.mNil))) (Mi.mCons (Mi.mTup (Mi.mCons (Mi.mC (.int 12)) (Mi.mCons (Mi.mC (.int 8)) Mi.mNil))) (Mi.mCons (Mi.mTup (Mi.mCons (Mi.mC (.int 12)) (Mi.mCons (Mi.mC (.int 4)) Mi.mNil))) (Mi.mCons (Mi.mTup (Mi.mCons (Mi.mC (.int 9)) (Mi.mCons (Mi.mC (.int 8)) Mi.mNil))) (Mi.mCons (Mi.mTup (Mi.mCons (Mi.mC (.int 6)) (Mi.mCons (Mi.mC (.int 24)) Mi.mNil))) Mi.mNil))))))))) Mi.mNil)))
noncomputable def m_law_wide_field : MF := Mi.mDef 1 0 b_law_wide_field
abbrev n_law_wide_field : List Str := ["deck"]
abbrev p_law_wide_field : List Str := ["deck"]
noncomputable def b_Disk_need_place : MS :=
    Mi.mIfS (Mi.mTnot (Mi.mTb (Mi.mCall m_is_between (Mi.mCons (Mi.mVar 1) (Mi.mCons (Mi.mC (.int 0)) (Mi.mCons (Mi.m2 Mi.bSub (Mi.mB Mi.fLen (Mi.mCons (Mi.mFld [0] (Mi.mVar 0) "blocks") Mi.mNil)) (Mi.mC (.int 1))) Mi.mNil)))))) Mi.mFail Mi.mSkip
noncomputable def m_Disk_need_place : MF := Mi.mDef 2 0 b_Disk_need_place
abbrev n_Disk_need_place : List Str := ["self", "place"]
abbrev p_Disk_need_place : List Str := ["self", "place"]
noncomputable def b_is_word : MS :=
    Mi.mRet (Mi.mCall m_is_between (Mi.mCons (Mi.mVar 0) (Mi.mCons (Mi.mC (.int 0)) (Mi.mCons (Mi.mC (.int 1000000000)) Mi.mNil))))
noncomputable def m_is_word : MF := Mi.mDef 1 0 b_is_word
abbrev n_is_word : List Str := ["thing"]
abbrev p_is_word : List Str := ["thing"]
noncomputable def qi_are_words_1 : MI :=
    Mi.iSeq (Mi.mVar 0)
noncomputable def qe_are_words_1 : ME :=
    Mi.mCall m_is_word (Mi.mCons (Mi.mVar 2) Mi.mNil)
noncomputable def ql_are_words_1 : ME :=
    Mi.mLc false qi_are_words_1 (Mi.gNm 2) Mi.tYes qe_are_words_1 [2]
noncomputable def b_are_words : MS :=
    Mi.mRet (Mi.mAnd (Mi.mIsI .tuple (Mi.mVar 0)) (Mi.mAnd (Mi.m2 (Mi.bEq false) (Mi.mB Mi.fLen (Mi.mCons (Mi.mVar 0) Mi.mNil)) (Mi.mVar 1)) (Mi.mB Mi.fAll (Mi.mCons ql_are_words_1 Mi.mNil))))
noncomputable def m_are_words : MF := Mi.mDef 2 1 b_are_words
abbrev n_are_words : List Str := ["thing", "many", "word"]
abbrev p_are_words : List Str := ["thing", "many"]
noncomputable def b_is_block : MS :=
    Mi.mRet (Mi.mCall m_are_words (Mi.mCons (Mi.mVar 0) (Mi.mCons (Mi.mC (.int 32)) Mi.mNil)))
noncomputable def m_is_block : MF := Mi.mDef 1 0 b_is_block
abbrev n_is_block : List Str := ["thing"]
abbrev p_is_block : List Str := ["thing"]
noncomputable def b_Disk_write : MS :=
    Mi.mSeq (Mi.mExpr (Mi.mMeth 0 "need_place" m_Disk_need_place (Mi.mVar 0) (Mi.mCons (Mi.mVar 1) Mi.mNil))) (
    Mi.mSeq (Mi.mIfS (Mi.mTnot (Mi.mTb (Mi.mCall m_is_block (Mi.mCons (Mi.mVar 2) Mi.mNil)))) Mi.mFail Mi.mSkip) (
    Mi.mSeq (Mi.mExpr (Mi.mMeth 0 "burn" m_Disk_burn (Mi.mVar 0) Mi.mNil)) (
    Mi.mSeq (Mi.mExpr (Mi.mAppend (Mi.mFld [0] (Mi.mVar 0) "queue") (Mi.mTup (Mi.mCons (Mi.mVar 1) (Mi.mCons (Mi.mVar 2) Mi.mNil))))) (
    Mi.mSetK (Mi.mFld [0] (Mi.mVar 0) "newest") (Mi.mVar 1) (Mi.mVar 2)))))
noncomputable def m_Disk_write : MF := Mi.mDef 3 0 b_Disk_write
abbrev n_Disk_write : List Str := ["self", "place", "block"]
abbrev p_Disk_write : List Str := ["self", "place", "block"]
noncomputable def qi_law_write_all_1 : MI :=
    Mi.iEnum (Mi.mVar 3)
noncomputable def qb_law_write_all_1 : MS :=
    Mi.mSeq (Mi.mExpr (Mi.mMeth 0 "write" m_Disk_write (Mi.mVar 0) (Mi.mCons (Mi.m2 (Mi.bAdd false) (Mi.mVar 2) (Mi.mVar 4)) (Mi.mCons (Mi.mVar 5) Mi.mNil)))) (
    Mi.mSetI (Mi.m2 Mi.bSubs (Mi.mVar 1) (Mi.mC (.str "stand"))) (Mi.m2 (Mi.bAdd false) (Mi.mVar 2) (Mi.mVar 4)) (Mi.mVar 5))
noncomputable def qf_law_write_all_1 : MS :=
    Mi.mFor qi_law_write_all_1 (Mi.gTup 2 (Mi.gCons (Mi.gNm 4) (Mi.gCons (Mi.gNm 5) Mi.gNil))) qb_law_write_all_1
noncomputable def b_law_write_all : MS :=
    qf_law_write_all_1
noncomputable def m_law_write_all : MF := Mi.mDef 4 2 b_law_write_all
abbrev n_law_write_all : List Str := ["disk", "d", "base", "blocks", "j", "block"]
abbrev p_law_write_all : List Str := ["disk", "d", "base", "blocks"]
noncomputable def b_need_disk : MS :=
    Mi.mIfS (Mi.mTnot (Mi.mTb (mIsC 0 (Mi.mVar 0)))) Mi.mFail Mi.mSkip
noncomputable def m_need_disk : MF := Mi.mDef 1 0 b_need_disk
abbrev n_need_disk : List Str := ["disk"]
abbrev p_need_disk : List Str := ["disk"]
noncomputable def b_Disk_read : MS :=
    Mi.mSeq (Mi.mExpr (Mi.mMeth 0 "need_place" m_Disk_need_place (Mi.mVar 0) (Mi.mCons (Mi.mVar 1) Mi.mNil))) (
    Mi.mRet (Mi.mGet2 (Mi.mFld [0] (Mi.mVar 0) "newest") (Mi.mVar 1) (Mi.m2 Mi.bSubs (Mi.mFld [0] (Mi.mVar 0) "blocks") (Mi.mVar 1))))
noncomputable def m_Disk_read : MF := Mi.mDef 2 0 b_Disk_read
abbrev n_Disk_read : List Str := ["self", "place"]
abbrev p_Disk_read : List Str := ["self", "place"]
noncomputable def qi_broken_at_1 : MI :=
    Mi.iEnum (Mi.mVar 0)
noncomputable def qb_broken_at_1 : MS :=
    Mi.mIfS (Mi.mTor (Mi.mTb (Mi.m2 (Mi.bEq false) (Mi.mVar 1) (Mi.mC (.int 0)))) (Mi.mTor (Mi.mTb (Mi.m2 (Mi.bEq true) (Mi.mSlice false (Mi.mVar 3) none (some (Mi.mC (.int 3)))) (Mi.mTup (Mi.mCons (Mi.mVar 1) (Mi.mCons (Mi.mC (.int 3)) (Mi.mCons (Mi.mVar 2) Mi.mNil)))))) (Mi.mTb (Mi.m2 (Mi.bEq true) (Mi.m2 Mi.bSubs (Mi.mVar 3) (Mi.m1 Mi.uNeg (Mi.mC (.int 1)))) (Mi.mVar 1))))) (Mi.mRet (Mi.mVar 2)) Mi.mSkip
noncomputable def qf_broken_at_1 : MS :=
    Mi.mFor qi_broken_at_1 (Mi.gTup 2 (Mi.gCons (Mi.gNm 2) (Mi.gCons (Mi.gNm 3) Mi.gNil))) qb_broken_at_1
noncomputable def b_broken_at : MS :=
    Mi.mSeq (Mi.mAsg (Mi.m2 Mi.bSubs (Mi.m2 Mi.bSubs (Mi.mVar 0) (Mi.mC (.int 0))) (Mi.mC (.int 0))) (Mi.gNm 1)) (
    Mi.mSeq qf_broken_at_1 (
    Mi.mRet (Mi.mC .non)))
noncomputable def m_broken_at : MF := Mi.mDef 1 3 b_broken_at
abbrev n_broken_at : List Str := ["blocks", "number", "at", "block"]
abbrev p_broken_at : List Str := ["blocks"]
noncomputable def b_is_place_word : MS :=
    Mi.mSeq (Mi.mAsg (Mi.m2 (Mi.bMul false) (Mi.mC (.int 2)) (Mi.mFld [0] (Mi.mVar 0) "r")) (Mi.gNm 2)) (
    Mi.mRet (Mi.mOr (Mi.m2 (Mi.bEq false) (Mi.mVar 1) (Mi.mC (.int 0))) (Mi.mChain Mi.bLe Mi.bLt (Mi.mVar 2) (Mi.m2 Mi.bSub (Mi.mVar 1) (Mi.mC (.int 1))) (Mi.m2 (Mi.bAdd false) (Mi.mVar 2) (Mi.m2 (Mi.bMul false) (Mi.mFld [0] (Mi.mVar 0) "s") (Mi.mFld [0] (Mi.mVar 0) "k"))))))
noncomputable def m_is_place_word : MF := Mi.mDef 2 1 b_is_place_word
abbrev n_is_place_word : List Str := ["disk", "word", "first"]
abbrev p_is_place_word : List Str := ["disk", "word"]
noncomputable def qi_is_root_row_1 : MI :=
    Mi.iSeq (Mi.mSlice false (Mi.mVar 1) (some (Mi.mC (.int 4))) (some (Mi.mVar 2)))
noncomputable def qe_is_root_row_1 : ME :=
    Mi.mCall m_is_place_word (Mi.mCons (Mi.mVar 0) (Mi.mCons (Mi.mVar 3) Mi.mNil))
noncomputable def ql_is_root_row_1 : ME :=
    Mi.mLc false qi_is_root_row_1 (Mi.gNm 3) Mi.tYes qe_is_root_row_1 [3]
noncomputable def qi_is_root_row_2 : MI :=
    Mi.iSeq (Mi.mSlice false (Mi.mVar 1) (some (Mi.mVar 2)) none)
noncomputable def qe_is_root_row_2 : ME :=
    Mi.m2 (Mi.bEq false) (Mi.mVar 3) (Mi.mC (.int 0))
noncomputable def ql_is_root_row_2 : ME :=
    Mi.mLc false qi_is_root_row_2 (Mi.gNm 3) Mi.tYes qe_is_root_row_2 [3]
noncomputable def b_is_root_row : MS :=
    Mi.mSeq (Mi.mIfS (Mi.mTor (Mi.mTb (Mi.m2 Mi.bGe (Mi.m2 Mi.bSubs (Mi.mVar 1) (Mi.mC (.int 0))) (Mi.mFld [0] (Mi.mVar 0) "s"))) (Mi.mTor (Mi.mTb (Mi.m2 Mi.bGt (Mi.m2 Mi.bSubs (Mi.mVar 1) (Mi.mC (.int 1))) (Mi.mFld [0] (Mi.mVar 0) "k"))) (Mi.mTb (Mi.m2 Mi.bGe (Mi.m2 Mi.bSubs (Mi.mVar 1) (Mi.mC (.int 2))) (Mi.mFld [0] (Mi.mVar 0) "s"))))) (Mi.mRet (Mi.mC (.bl false))) Mi.mSkip) (
    Mi.mSeq (Mi.mAsg (Mi.m2 (Mi.bAdd false) (Mi.mC (.int 4)) (Mi.mFld [0] (Mi.mVar 0) "n")) (Mi.gNm 2)) (
    Mi.mSeq (Mi.mIfS (Mi.mTnot (Mi.mTb (Mi.mB Mi.fAll (Mi.mCons ql_is_root_row_1 Mi.mNil)))) (Mi.mRet (Mi.mC (.bl false))) Mi.mSkip) (
    Mi.mRet (Mi.mB Mi.fAll (Mi.mCons ql_is_root_row_2 Mi.mNil)))))
noncomputable def m_is_root_row : MF := Mi.mDef 2 2 b_is_root_row
abbrev n_is_root_row : List Str := ["disk", "row", "end", "word"]
abbrev p_is_root_row : List Str := ["disk", "row"]
noncomputable def qi_root_at_1 : MI :=
    Mi.iRange2 (Mi.mVar 2) (Mi.m2 (Mi.bAdd false) (Mi.mVar 2) (Mi.mFld [0] (Mi.mVar 0) "r"))
noncomputable def qe_root_at_1 : ME :=
    Mi.mMeth 0 "read" m_Disk_read (Mi.mVar 0) (Mi.mCons (Mi.mVar 8) Mi.mNil)
noncomputable def ql_root_at_1 : ME :=
    Mi.mLc false qi_root_at_1 (Mi.gNm 8) Mi.tYes qe_root_at_1 [8]
noncomputable def qi_root_at_2 : MI :=
    Mi.iSeq (Mi.mVar 3)
noncomputable def qe_root_at_2 : ME :=
    Mi.mVar 10
noncomputable def qi_root_at_3 : MI :=
    Mi.iSeq (Mi.mSlice false (Mi.mVar 9) (some (Mi.mC (.int 3))) (some (Mi.m1 Mi.uNeg (Mi.mC (.int 1)))))
noncomputable def ql_root_at_2 : ME :=
    mLc2 false qi_root_at_2 (Mi.gNm 9) Mi.tYes qi_root_at_3 (Mi.gNm 10) Mi.tYes qe_root_at_2 [9, 10] [10]
noncomputable def qi_root_at_4 : MI :=
    Mi.iSeq (Mi.mVar 6)
noncomputable def qe_root_at_3 : ME :=
    Mi.mIf (Mi.mTb (Mi.m2 Mi.bGt (Mi.mVar 10) (Mi.mC (.int 0)))) (Mi.m2 Mi.bSub (Mi.mVar 10) (Mi.mC (.int 1))) (Mi.mC .non)
noncomputable def ql_root_at_3 : ME :=
    Mi.mLc false qi_root_at_4 (Mi.gNm 10) Mi.tYes qe_root_at_3 [10]
noncomputable def b_root_at : MS :=
    Mi.mSeq (Mi.mAsg (Mi.m2 (Mi.bMul false) (Mi.mVar 1) (Mi.mFld [0] (Mi.mVar 0) "r")) (Mi.gNm 2)) (
    Mi.mSeq (Mi.mAsg ql_root_at_1 (Mi.gNm 3)) (
    Mi.mSeq (Mi.mAsg (Mi.mCall m_broken_at (Mi.mCons (Mi.mVar 3) Mi.mNil)) (Mi.gNm 4)) (
    Mi.mSeq (Mi.mIfS (Mi.mTb (Mi.mIsN true (Mi.mVar 4))) (Mi.mRet (Mi.mTup (Mi.mCons (Mi.mC (.str "broken")) (Mi.mCons (Mi.mVar 4) Mi.mNil)))) Mi.mSkip) (
    Mi.mSeq (Mi.mAsg ql_root_at_2 (Mi.gNm 5)) (
    Mi.mSeq (Mi.mIfS (Mi.mTnot (Mi.mTb (Mi.mCall m_is_root_row (Mi.mCons (Mi.mVar 0) (Mi.mCons (Mi.mVar 5) Mi.mNil))))) (Mi.mRet (Mi.mTup (Mi.mCons (Mi.mC (.str "form")) Mi.mNil))) Mi.mSkip) (
    Mi.mSeq (Mi.mAsg (Mi.mSlice false (Mi.mVar 5) (some (Mi.mC (.int 4))) (some (Mi.m2 (Mi.bAdd false) (Mi.mC (.int 4)) (Mi.mFld [0] (Mi.mVar 0) "n")))) (Mi.gNm 6)) (
    Mi.mSeq (Mi.mAsg (Mi.mB Mi.fTuple (Mi.mCons ql_root_at_3 Mi.mNil)) (Mi.gNm 7)) (
    Mi.mRet (Mi.mTup (Mi.mCons (Mi.mC (.str "root")) (Mi.mCons (Mi.m2 Mi.bSubs (Mi.m2 Mi.bSubs (Mi.mVar 3) (Mi.mC (.int 0))) (Mi.mC (.int 0))) (Mi.mCons (Mi.m2 Mi.bSubs (Mi.mVar 5) (Mi.mC (.int 0))) (Mi.mCons (Mi.m2 Mi.bSubs (Mi.mVar 5) (Mi.mC (.int 1))) (Mi.mCons (Mi.m2 Mi.bSubs (Mi.mVar 5) (Mi.mC (.int 2))) (Mi.mCons (Mi.m2 Mi.bSubs (Mi.mVar 5) (Mi.mC (.int 3))) (Mi.mCons (Mi.mVar 7) Mi.mNil))))))))))))))))
noncomputable def m_root_at : MF := Mi.mDef 2 9 b_root_at
abbrev n_root_at : List Str := ["disk", "area", "first", "blocks", "broken", "row", "words", "places", "place", "block", "word"]
abbrev p_root_at : List Str := ["disk", "area"]
noncomputable def b_judge_root : MS :=
    Mi.mSeq (Mi.mExpr (Mi.mCall m_need_disk (Mi.mCons (Mi.mVar 0) Mi.mNil))) (
    Mi.mSeq (Mi.mIfS (Mi.mTnot (Mi.mTb (Mi.mCall m_is_between (Mi.mCons (Mi.mVar 1) (Mi.mCons (Mi.mC (.int 0)) (Mi.mCons (Mi.mC (.int 1)) Mi.mNil)))))) Mi.mFail Mi.mSkip) (
    Mi.mRet (Mi.mCall m_root_at (Mi.mCons (Mi.mVar 0) (Mi.mCons (Mi.mVar 1) Mi.mNil)))))
noncomputable def m_judge_root : MF := Mi.mDef 2 0 b_judge_root
abbrev n_judge_root : List Str := ["disk", "area"]
abbrev p_judge_root : List Str := ["disk", "area"]
noncomputable def qi_newer_1 : MI :=
    Mi.iRange1 (Mi.mC (.int 2))
noncomputable def qb_newer_1 : MS :=
    Mi.mSeq (Mi.mAsg (Mi.mCall m_root_at (Mi.mCons (Mi.mVar 0) (Mi.mCons (Mi.mVar 2) Mi.mNil))) (Mi.gNm 3)) (
    Mi.mExpr (Mi.mAppend (Mi.mVar 1) (Mi.mIf (Mi.mTb (Mi.m2 (Mi.bEq false) (Mi.m2 Mi.bSubs (Mi.mVar 3) (Mi.mC (.int 0))) (Mi.mC (.str "root")))) (Mi.m2 Mi.bSubs (Mi.mVar 3) (Mi.mC (.int 1))) (Mi.mC (.int 0)))))
noncomputable def qf_newer_1 : MS :=
    Mi.mFor qi_newer_1 (Mi.gNm 2) qb_newer_1
noncomputable def b_newer : MS :=
    Mi.mSeq (Mi.mAsg (Mi.mLst true Mi.mNil) (Mi.gNm 1)) (
    Mi.mSeq qf_newer_1 (
    Mi.mSeq (Mi.mIfS (Mi.mTb (Mi.m2 (Mi.bEq false) (Mi.mB fMaxL (Mi.mCons (Mi.mVar 1) Mi.mNil)) (Mi.mC (.int 0)))) (Mi.mRet (Mi.mC .non)) Mi.mSkip) (
    Mi.mRet (Mi.mIf (Mi.mTb (Mi.m2 Mi.bGe (Mi.m2 Mi.bSubs (Mi.mVar 1) (Mi.mC (.int 0))) (Mi.m2 Mi.bSubs (Mi.mVar 1) (Mi.mC (.int 1))))) (Mi.mC (.int 0)) (Mi.mC (.int 1))))))
noncomputable def m_newer : MF := Mi.mDef 1 3 b_newer
abbrev n_newer : List Str := ["disk", "numbers", "area", "told"]
abbrev p_newer : List Str := ["disk"]
noncomputable def b_newer_root : MS :=
    Mi.mSeq (Mi.mExpr (Mi.mCall m_need_disk (Mi.mCons (Mi.mVar 0) Mi.mNil))) (
    Mi.mRet (Mi.mCall m_newer (Mi.mCons (Mi.mVar 0) Mi.mNil)))
noncomputable def m_newer_root : MF := Mi.mDef 1 0 b_newer_root
abbrev n_newer_root : List Str := ["disk"]
abbrev p_newer_root : List Str := ["disk"]
noncomputable def qi_law_1 : MI :=
    Mi.iRange1 (Mi.mC (.int 5))
noncomputable def qb_law_1 : MS :=
    Mi.mSeq (mPar3 8 9 10 (Mi.mCons (Mi.mCall m_law_draw (Mi.mCons (Mi.mVar 1) (Mi.mCons (Mi.mC (.int 2)) Mi.mNil))) (Mi.mCons (Mi.mCall m_law_drawn_root (Mi.mCons (Mi.mVar 1) (Mi.mCons (Mi.mVar 6) Mi.mNil))) (Mi.mCons (Mi.mCall m_law_draw (Mi.mCons (Mi.mVar 1) (Mi.mCons (Mi.mC (.int 7)) Mi.mNil))) Mi.mNil)))) (
    Mi.mSeq (Mi.mPar 11 12 (Mi.mCons (Mi.m2 (Mi.bMul false) (Mi.mVar 8) (Mi.m2 Mi.bSubs (Mi.mVar 6) (Mi.mC (.str "R")))) (Mi.mCons (Mi.mCall m_law_draw (Mi.mCons (Mi.mVar 1) (Mi.mCons (Mi.m2 Mi.bSubs (Mi.mVar 6) (Mi.mC (.str "R"))) Mi.mNil))) Mi.mNil))) (
    Mi.mSeq (Mi.mAsg (Mi.mSlice false (Mi.m2 Mi.bSubs (Mi.mVar 6) (Mi.mC (.str "stand"))) (some (Mi.mVar 11)) (some (Mi.m2 (Mi.bAdd false) (Mi.mVar 11) (Mi.m2 Mi.bSubs (Mi.mVar 6) (Mi.mC (.str "R")))))) (Mi.gNm 13)) (
    Mi.mSeq (Mi.mIfS (Mi.mTb (Mi.m2 (Mi.bEq false) (Mi.mVar 10) (Mi.mC (.int 0)))) (Mi.mSetI (Mi.mVar 9) (Mi.mVar 12) (Mi.mCall m_law_bent_block (Mi.mCons (Mi.mVar 1) (Mi.mCons (Mi.mVar 6) (Mi.mCons (Mi.m2 Mi.bSubs (Mi.mVar 9) (Mi.mVar 12)) Mi.mNil))))) (Mi.mIfS (Mi.mTb (Mi.m2 (Mi.bEq false) (Mi.mVar 10) (Mi.mC (.int 1)))) (Mi.mSeq (Mi.mAsg (Mi.m2 (Mi.bAdd false) (Mi.mC (.int 1)) (Mi.mCall m_law_draw (Mi.mCons (Mi.mVar 1) (Mi.mCons (Mi.mC (.int 31)) Mi.mNil)))) (Mi.gNm 14)) (
    Mi.mSetI (Mi.mVar 9) (Mi.mVar 12) (Mi.m2 (Mi.bAdd false) (Mi.mSlice false (Mi.m2 Mi.bSubs (Mi.mVar 9) (Mi.mVar 12)) none (some (Mi.mVar 14))) (Mi.mSlice false (Mi.m2 Mi.bSubs (Mi.mVar 13) (Mi.mVar 12)) (some (Mi.mVar 14)) none)))) (Mi.mIfS (Mi.mTb (Mi.m2 (Mi.bEq false) (Mi.mVar 10) (Mi.mC (.int 2)))) (Mi.mAsg (Mi.m2 (Mi.bAdd false) (Mi.mSlice false (Mi.mVar 9) none (some (Mi.mVar 12))) (Mi.mSlice false (Mi.mVar 13) (some (Mi.mVar 12)) none)) (Mi.gNm 9)) (Mi.mIfS (Mi.mTb (Mi.m2 (Mi.bEq false) (Mi.mVar 10) (Mi.mC (.int 3)))) (Mi.mAsg (Mi.mRev false (Mi.mVar 9)) (Mi.gNm 9)) (Mi.mIfS (Mi.mTand (Mi.mTb (Mi.m2 (Mi.bEq false) (Mi.mVar 10) (Mi.mC (.int 4)))) (Mi.mTb (Mi.m2 Mi.bGt (Mi.mVar 7) (Mi.mC (.int 2))))) (Mi.mSetI (Mi.mVar 9) (Mi.mVar 12) (Mi.m2 (Mi.bMul false) (Mi.mTup (Mi.mCons (Mi.mC (.int 0)) Mi.mNil)) (Mi.mC (.int 32)))) Mi.mSkip))))) (
    Mi.mSeq (Mi.mExpr (Mi.mCall m_law_write_all (Mi.mCons (Mi.mVar 5) (Mi.mCons (Mi.mVar 6) (Mi.mCons (Mi.mVar 11) (Mi.mCons (Mi.mVar 9) Mi.mNil)))))) (
    Mi.mSeq (Mi.mIfS (Mi.mTb (Mi.m2 (Mi.bEq false) (Mi.mVar 10) (Mi.mC (.int 6)))) (Mi.mExpr (Mi.mMeth 0 "force" m_Disk_force (Mi.mVar 5) Mi.mNil)) Mi.mSkip) (
    Mi.mSeq (Mi.mAsg (Mi.mLst false (Mi.mCons (Mi.mCall m_law_judge_root (Mi.mCons (Mi.mVar 6) (Mi.mCons (Mi.m2 Mi.bSubs (Mi.mVar 6) (Mi.mC (.str "stand"))) (Mi.mCons (Mi.mC (.int 0)) Mi.mNil)))) (Mi.mCons (Mi.mCall m_law_judge_root (Mi.mCons (Mi.mVar 6) (Mi.mCons (Mi.m2 Mi.bSubs (Mi.mVar 6) (Mi.mC (.str "stand"))) (Mi.mCons (Mi.mC (.int 1)) Mi.mNil)))) Mi.mNil))) (Mi.gNm 15)) (
    Mi.mSeq (Mi.mAsg (Mi.mLst false (Mi.mCons (Mi.mCall m_judge_root (Mi.mCons (Mi.mVar 5) (Mi.mCons (Mi.mC (.int 0)) Mi.mNil))) (Mi.mCons (Mi.mCallK m_judge_root [1, 0] Mi.mNil (Mi.mCons (Mi.mC (.int 1)) (Mi.mCons (Mi.mVar 5) Mi.mNil))) Mi.mNil))) (Mi.gNm 16)) (
    Mi.mSeq (Mi.mIfS (Mi.mTb (Mi.mReprEq true (Mi.mVar 16) (Mi.mVar 15))) (Mi.mRet (Mi.mC (.bl false))) Mi.mSkip) (
    Mi.mSeq (Mi.mAsg (Mi.mIf (Mi.mTb (Mi.m2 Mi.bLt (Mi.mVar 7) (Mi.mC (.int 3)))) (Mi.mCall m_newer_root (Mi.mCons (Mi.mVar 5) Mi.mNil)) (Mi.mCallK m_newer_root [0] Mi.mNil (Mi.mCons (Mi.mVar 5) Mi.mNil))) (Mi.gNm 16)) (
    Mi.mIfS (Mi.mTb (Mi.mReprEq true (Mi.mVar 16) (Mi.mCall m_law_newer (Mi.mCons (Mi.mVar 6) (Mi.mCons (Mi.m2 Mi.bSubs (Mi.mVar 6) (Mi.mC (.str "stand"))) Mi.mNil))))) (Mi.mRet (Mi.mC (.bl false))) Mi.mSkip))))))))))
noncomputable def qf_law_1 : MS :=
    Mi.mFor qi_law_1 (Mi.gNm 7) qb_law_1
noncomputable def qi_law_2 : MI :=
    Mi.iRange1 (Mi.mC (.int 3))
noncomputable def qb_law_2 : MS :=
    Mi.mSeq (Mi.mAsg (Mi.mCall m_law_wide_field (Mi.mCons (Mi.mVar 1) Mi.mNil)) (Mi.gTup 2 (Mi.gCons (Mi.gNm 3) (Mi.gCons (Mi.gNm 4) Mi.gNil)))) (
    Mi.mSeq (Mi.mPar 5 6 (Mi.mCons (Mi.mMake 0 m_Disk_mk (Mi.mCons (Mi.mVar 3) (Mi.mCons (Mi.mVar 4) Mi.mNil))) (Mi.mCons (Mi.mCall m_law_disk (Mi.mCons (Mi.mVar 3) (Mi.mCons (Mi.mVar 4) Mi.mNil))) Mi.mNil))) (
    qf_law_1))
noncomputable def qf_law_2 : MS :=
    Mi.mFor qi_law_2 (Mi.gNm 2) qb_law_2
noncomputable def b_law : MS :=
    Mi.mSeq (Mi.mAsg (Mi.mCall m_law_deck (Mi.mCons (Mi.mVar 0) Mi.mNil)) (Mi.gNm 1)) (
    Mi.mSeq qf_law_2 (
    Mi.mRet (Mi.mC (.bl true))))
noncomputable def m_law : MF := Mi.mDef 1 16 b_law
abbrev n_law : List Str := ["script", "deck", "turn", "segments", "blocks", "disk", "d", "look", "area", "some", "way", "base", "i", "old", "much", "due", "told"]
abbrev p_law : List Str := ["script"]
end Lw

namespace Lw
open PySem L2 PyProof.Rows Ms
open Mi (Dv MO Sto Sl Rs bnd ME MT MA MS MF Fl MG MGs MI)
section
variable {P : Program} {w : World} {K : PySem.W.Frag} {kx : Kx} {mg : Str → Option Value} {base : Heap}
theorem sc_is_integer : FnScope n_is_integer p_is_integer (defScope s_is_integer) := ⟨rfl, rfl, rfl, by decide +kernel, rfl, by decide +kernel, by decide +kernel⟩
theorem d_is_integer (T : Tx K kx mg) : Bdy P w K kx mg base 0 n_is_integer "is_integer" s_is_integer b_is_integer := by
  intro f cdv A outer s H E hr hgd
  have hu := u1 hr
  have h64 := u64 hr
  have nd := sc_is_integer.nd
  exact s_one (s_ret (m_and (m_isI (t := .int) (by intro c z; cases z) T.b_isinstance T.b_int (by decide +kernel) (m_var 0)) (m_one (m_not (m_isI (t := .bool) (by intro c z; cases z) T.b_isinstance T.b_bool (by decide +kernel) (m_var 0))))))
theorem c_is_integer (T : Tx K kx mg) : Cal P w K kx mg base 1 "is_integer" s_is_integer p_is_integer m_is_integer := cal_of T.f_is_integer sc_is_integer rfl (fun _ _ _ _ _ _ us hl => match us, hl with | [_], _ => rfl) (d_is_integer T)
theorem sc_is_between : FnScope n_is_between p_is_between (defScope s_is_between) := ⟨rfl, rfl, rfl, by decide +kernel, rfl, by decide +kernel, by decide +kernel⟩
theorem d_is_between (T : Tx K kx mg) : Bdy P w K kx mg base 1 n_is_between "is_between" s_is_between b_is_between := by
  intro f cdv A outer s H E hr hgd
  have hu := u1 hr
  have h64 := u64 hr
  have nd := sc_is_between.nd
  exact s_one (s_ret (m_and (m_cl (c_is_integer T) hgd (hr.mono (by decide)) (m_cons (m_var 0) m_nil)) (m_one (m_chain op_le op_le b_cmp b_cmp (m_var 1) (m_var 0) (m_var 2)))))
theorem c_is_between (T : Tx K kx mg) : Cal P w K kx mg base 2 "is_between" s_is_between p_is_between m_is_between := cal_of T.f_is_between sc_is_between rfl (fun _ _ _ _ _ _ us hl => match us, hl with | [_, _, _], _ => rfl) (d_is_between T)
theorem sc_need_sizes : FnScope n_need_sizes p_need_sizes (defScope s_need_sizes) := ⟨rfl, rfl, rfl, by decide +kernel, rfl, by decide +kernel, by decide +kernel⟩
theorem d_need_sizes (T : Tx K kx mg) : Bdy P w K kx mg base 2 n_need_sizes "need_sizes" s_need_sizes b_need_sizes := by
  intro f cdv A outer s H E hr hgd
  have hu := u1 hr
  have h64 := u64 hr
  have nd := sc_need_sizes.nd
  exact s_seq (s_if (m_tnot (m_val (m_cl (c_is_between T) hgd (hr.mono (by decide)) (m_cons (m_var 0) (m_cons (m_globI T.c_LEAST_SEGMENTS) (m_cons (m_globI T.c_MOST_SEGMENTS) m_nil)))))) (s_one s_fail) s_nil) (
    s_one (s_if (m_tnot (m_val (m_cl (c_is_between T) hgd (hr.mono (by decide)) (m_cons (m_var 1) (m_cons (m_globI T.c_LEAST_BLOCKS) (m_cons (m_globI T.c_MOST_BLOCKS) m_nil)))))) (s_one s_fail) s_nil))
theorem c_need_sizes (T : Tx K kx mg) : Cal P w K kx mg base 3 "need_sizes" s_need_sizes p_need_sizes m_need_sizes := cal_of T.f_need_sizes sc_need_sizes rfl (fun _ _ _ _ _ _ us hl => match us, hl with | [_, _], _ => rfl) (d_need_sizes T)
theorem sc_room_of : FnScope n_room_of p_room_of (defScope s_room_of) := ⟨rfl, rfl, rfl, by decide +kernel, rfl, by decide +kernel, by decide +kernel⟩
theorem d_room_of (T : Tx K kx mg) : Bdy P w K kx mg base 0 n_room_of "room_of" s_room_of b_room_of := by
  intro f cdv A outer s H E hr hgd
  have hu := u1 hr
  have h64 := u64 hr
  have nd := sc_room_of.nd
  exact s_one (s_ret (m_op op_muls (b_mul false) (m_op op_sub b_sub (m_var 0) (m_globI T.c_SPARE_SEGMENTS)) (m_op op_sub b_sub (m_var 1) m_int)))
theorem c_room_of (T : Tx K kx mg) : Cal P w K kx mg base 1 "room_of" s_room_of p_room_of m_room_of := cal_of T.f_room_of sc_room_of rfl (fun _ _ _ _ _ _ us hl => match us, hl with | [_, _], _ => rfl) (d_room_of T)
theorem sc_root_blocks_of : FnScope n_root_blocks_of p_root_blocks_of (defScope s_root_blocks_of) := ⟨rfl, rfl, rfl, by decide +kernel, rfl, by decide +kernel, by decide +kernel⟩
theorem d_root_blocks_of (T : Tx K kx mg) : Bdy P w K kx mg base 1 n_root_blocks_of "root_blocks_of" s_root_blocks_of b_root_blocks_of := by
  intro f cdv A outer s H E hr hgd
  have hu := u1 hr
  have h64 := u64 hr
  have nd := sc_root_blocks_of.nd
  exact s_one (s_ret (m_op op_fdiv b_div (m_op op_sub b_sub (m_op op_adds (b_add false) (m_op op_adds (b_add false) (m_cl (c_room_of T) hgd (hr.mono (by decide)) (m_cons (m_var 0) (m_cons (m_var 1) m_nil))) (m_globI T.c_ROOT_WORDS)) (m_globI T.c_CONTENT)) m_int) (m_globI T.c_CONTENT)))
theorem c_root_blocks_of (T : Tx K kx mg) : Cal P w K kx mg base 2 "root_blocks_of" s_root_blocks_of p_root_blocks_of m_root_blocks_of := cal_of T.f_root_blocks_of sc_root_blocks_of rfl (fun _ _ _ _ _ _ us hl => match us, hl with | [_, _], _ => rfl) (d_root_blocks_of T)
theorem sc_Disk_mk : FnScope n_Disk_mk p_Disk_mk (defScope s_Disk_mk) := ⟨rfl, rfl, rfl, by decide +kernel, rfl, by decide +kernel, by decide +kernel⟩
theorem d_Disk_mk (T : Tx K kx mg) : Bdy P w K kx mg base 3 n_Disk_mk "Disk.__init__" s_Disk_mk b_Disk_mk := by
  intro f cdv A outer s H E hr hgd
  have hu := u1 hr
  have h64 := u64 hr
  have nd := sc_Disk_mk.nd
  exact s_seq (s_expr (m_cl (c_need_sizes T) hgd (hr.mono (by decide)) (m_cons (m_var 1) (m_cons (m_var 2) m_nil)))) (
    s_seq (s_setF T.a_Disk_s (m_var 0) (m_var 1)) (
    s_seq (s_setF T.a_Disk_k (m_var 0) (m_var 2)) (
    s_seq (s_setF T.a_Disk_n (m_var 0) (m_cl (c_room_of T) hgd (hr.mono (by decide)) (m_cons (m_var 1) (m_cons (m_var 2) m_nil)))) (
    s_seq (s_setF T.a_Disk_r (m_var 0) (m_cl (c_root_blocks_of T) hgd (hr.mono (by decide)) (m_cons (m_var 1) (m_cons (m_var 2) m_nil)))) (
    s_seq (s_setF T.a_Disk_blocks (m_var 0) (m_op op_muls (b_mul true) (m_lst false (m_cons (m_globT T.c_BLANK) m_nil)) (m_op op_adds (b_add false) (m_op op_muls (b_mul false) m_int (m_fld T.a_Disk_r (m_var 0))) (m_op op_muls (b_mul false) (m_var 1) (m_var 2))))) (
    s_seq (s_setF T.a_Disk_queue (m_var 0) (m_lst true m_nil)) (
    s_seq (s_setF T.a_Disk_newest (m_var 0) m_dct0) (
    s_one (s_setF T.a_Disk_left (m_var 0) m_non)))))))))
theorem c_Disk_mk (T : Tx K kx mg) : Mak P w K kx mg base 4 0 "Disk" "Disk.__init__" s_Disk_mk p_Disk_mk m_Disk_mk := mak_of T.f_Disk_mk sc_Disk_mk rfl (fun _ _ _ _ _ _ us hl => match us, hl with | [_, _, _], _ => rfl) (d_Disk_mk T)
theorem sc_Disk_burn : FnScope n_Disk_burn p_Disk_burn (defScope s_Disk_burn) := ⟨rfl, rfl, rfl, by decide +kernel, rfl, by decide +kernel, by decide +kernel⟩
theorem d_Disk_burn (T : Tx K kx mg) : Bdy P w K kx mg base 0 n_Disk_burn "Disk.burn" s_Disk_burn b_Disk_burn := by
  intro f cdv A outer s H E hr hgd
  have hu := u1 hr
  have h64 := u64 hr
  have nd := sc_Disk_burn.nd
  exact s_one (s_if (m_isNT (neg := true) rfl (m_fld T.a_Disk_left (m_var 0))) (s_seq (s_if (m_cmpT (op_eqs h64) b_eq (m_fld T.a_Disk_left (m_var 0)) m_int (nomark _)) (s_one s_fail) s_nil) (
    s_one (s_augF T.a_Disk_left in_sub b_subR (m_var 0) m_int))) s_nil)
theorem c_Disk_burn (T : Tx K kx mg) : Met P w K kx mg base 1 0 "burn" "Disk.burn" s_Disk_burn p_Disk_burn m_Disk_burn := met_of T.cl_Disk T.f_Disk_burn sc_Disk_burn rfl (fun _ _ _ _ _ _ us hl => match us, hl with | [_], _ => rfl) (d_Disk_burn T)
theorem sc_Disk_force : FnScope n_Disk_force p_Disk_force (defScope s_Disk_force) := ⟨rfl, rfl, rfl, by decide +kernel, rfl, by decide +kernel, by decide +kernel⟩
theorem d_Disk_force (T : Tx K kx mg) : Bdy P w K kx mg base 1 n_Disk_force "Disk.force" s_Disk_force b_Disk_force := by
  intro f cdv A outer s H E hr hgd
  have hu := u1 hr
  have h64 := u64 hr
  have nd := sc_Disk_force.nd
  exact s_seq (s_expr (m_mt0 (c_Disk_burn T) hgd (hr.mono (by decide)) (m_var 0))) (
    s_seq (s_for PassesOwn.never rfl (i_seq (m_fld T.a_Disk_queue (m_var 0))) (g_tup rfl (g_cons (g_name 1 nd) (g_cons (g_name 2 nd) g_nil))) (
    s_one (s_setI (m_fld T.a_Disk_blocks (m_var 0)) (m_var 1) (m_var 2)))) (
    s_seq (s_setF T.a_Disk_queue (m_var 0) (m_lst true m_nil)) (
    s_one (s_setF T.a_Disk_newest (m_var 0) m_dct0))))
theorem c_Disk_force (T : Tx K kx mg) : Met P w K kx mg base 2 0 "force" "Disk.force" s_Disk_force p_Disk_force m_Disk_force := met_of T.cl_Disk T.f_Disk_force sc_Disk_force rfl (fun _ _ _ _ _ _ us hl => match us, hl with | [_], _ => rfl) (d_Disk_force T)
theorem sc_law_draw : FnScope n_law_draw p_law_draw (defScope s_law_draw) := ⟨rfl, rfl, rfl, by decide +kernel, rfl, by decide +kernel, by decide +kernel⟩
theorem d_law_draw (T : Tx K kx mg) : Bdy P w K kx mg base 0 n_law_draw "_law_draw" s_law_draw b_law_draw := by
  intro f cdv A outer s H E hr hgd
  have hu := u1 hr
  have h64 := u64 hr
  have nd := sc_law_draw.nd
  exact s_seq (s_setK hu (m_var 0) m_str (m_op op_adds (b_add false) (m_sub hu (m_var 0) m_str) m_int)) (
    s_seq (s_set 2 nd (m_op op_adds (b_add false) (m_sub hu (m_var 0) m_str) (m_op op_muls (b_mul false) m_int (m_sub hu (m_var 0) m_str)))) (
    s_seq (s_if (m_cmpT (op_nes h64) b_ne (m_sub hu (m_var 0) m_str) (m_lst false m_nil) (nomark _)) (s_seq (s_set 3 nd (m_pop (m_sub hu (m_var 0) m_str))) (
    s_seq (s_if (m_cmpT op_ge b_cmp (m_var 3) (m_op op_pow b_pow m_int m_int) (nomark _)) (s_seq (s_expr (m_append (m_sub hu (m_var 0) m_str) (m_op op_fdiv b_div (m_var 3) (m_callB (call_max2 rfl) f_max T.b_max (by decide +kernel) (m_cons m_int (m_cons (m_var 1) m_nil)))))) (
    s_one (s_ret (m_op op_mod b_mod (m_callT call_int1 f_int T.b_int (by decide +kernel) (m_cons (m_var 3) m_nil)) (m_var 1))))) s_nil) (
    s_one (s_set 2 nd (m_op op_adds (b_add false) (m_var 2) (m_op op_mod b_mod (m_callT call_int1 f_int T.b_int (by decide +kernel) (m_cons (m_var 3) m_nil)) m_int)))))) s_nil) (
    s_seq (s_set 2 nd (m_op op_mod b_mod (m_callT call_int1 f_int T.b_int (by decide +kernel) (m_cons (m_op op_adds (b_add false) (m_op op_muls (b_mul false) (m_var 2) m_int) m_int) m_nil)) m_int)) (
    s_seq (s_set 2 nd (m_op op_mod b_mod (m_callT call_int1 f_int T.b_int (by decide +kernel) (m_cons (m_op op_adds (b_add false) (m_op op_adds (b_add false) (m_op op_muls (b_mul false) (m_var 2) (m_var 2)) (m_op op_muls (b_mul false) m_int (m_sub hu (m_var 0) m_str))) m_int) m_nil)) m_int)) (
    s_seq (s_set 2 nd (m_op op_mod b_mod (m_callT call_int1 f_int T.b_int (by decide +kernel) (m_cons (m_op op_muls (b_mul false) (m_var 2) m_int) m_nil)) m_int)) (
    s_one (s_ret (m_op op_mod b_mod (m_callT call_int1 f_int T.b_int (by decide +kernel) (m_cons (m_op op_fdiv b_div (m_var 2) m_int) m_nil)) (m_var 1)))))))))
theorem c_law_draw (T : Tx K kx mg) : Cal P w K kx mg base 1 "_law_draw" s_law_draw p_law_draw m_law_draw := cal_of T.f_law_draw sc_law_draw rfl (fun _ _ _ _ _ _ us hl => match us, hl with | [_, _], _ => rfl) (d_law_draw T)
theorem sc_law_pick : FnScope n_law_pick p_law_pick (defScope s_law_pick) := ⟨rfl, rfl, rfl, by decide +kernel, rfl, by decide +kernel, by decide +kernel⟩
theorem d_law_pick (T : Tx K kx mg) : Bdy P w K kx mg base 1 n_law_pick "_law_pick" s_law_pick b_law_pick := by
  intro f cdv A outer s H E hr hgd
  have hu := u1 hr
  have h64 := u64 hr
  have nd := sc_law_pick.nd
  exact s_one (s_ret (m_sub hu (m_var 1) (m_cl (c_law_draw T) hgd (hr.mono (by decide)) (m_cons (m_var 0) (m_cons (m_callB call_len_seq f_len T.b_len (by decide +kernel) (m_cons (m_var 1) m_nil)) m_nil)))))
theorem c_law_pick (T : Tx K kx mg) : Cal P w K kx mg base 2 "_law_pick" s_law_pick p_law_pick m_law_pick := cal_of T.f_law_pick sc_law_pick rfl (fun _ _ _ _ _ _ us hl => match us, hl with | [_, _], _ => rfl) (d_law_pick T)
theorem sc_law_bent_block : FnScope n_law_bent_block p_law_bent_block (defScope s_law_bent_block) := ⟨rfl, rfl, rfl, by decide +kernel, rfl, by decide +kernel, by decide +kernel⟩
theorem d_law_bent_block (T : Tx K kx mg) : Bdy P w K kx mg base 2 n_law_bent_block "_law_bent_block" s_law_bent_block b_law_bent_block := by
  intro f cdv A outer s H E hr hgd
  have hu := u1 hr
  have h64 := u64 hr
  have nd := sc_law_bent_block.nd
  exact s_seq (s_set 3 nd (m_cl (c_law_pick T) hgd (hr.mono (by decide)) (m_cons (m_var 0) (m_cons (m_lst false (m_cons m_int (m_cons m_int (m_cons m_int (m_cons m_int (m_cons m_int (m_cons m_int (m_cons m_int (m_cons m_int (m_cons m_int (m_cons m_int (m_cons (m_cl (c_law_draw T) hgd (hr.mono (by decide)) (m_cons (m_var 0) (m_cons m_int m_nil))) (m_cons (m_cl (c_law_draw T) hgd (hr.mono (by decide)) (m_cons (m_var 0) (m_cons m_int m_nil))) m_nil))))))))))))) m_nil)))) (
    s_seq (s_set 4 nd (m_op op_adds (b_add false) (m_op op_muls (b_mul false) m_int (m_sub hu (m_var 1) m_str)) (m_op op_muls (b_mul false) (m_sub hu (m_var 1) m_str) (m_sub hu (m_var 1) m_str)))) (
    s_seq (s_set 5 nd (m_cl (c_law_pick T) hgd (hr.mono (by decide)) (m_cons (m_var 0) (m_cons (m_lst false (m_cons m_int (m_cons m_int (m_cons m_int (m_cons m_int (m_cons (m_op op_adds (b_add false) (m_sub hu (m_var 2) (m_var 3)) m_int) (m_cons (m_callB (call_max2 rfl) f_max T.b_max (by decide +kernel) (m_cons m_int (m_cons (m_op op_sub b_sub (m_sub hu (m_var 2) (m_var 3)) m_int) m_nil))) (m_cons (m_sub hu (m_var 1) m_str) (m_cons (m_op op_sub b_sub (m_sub hu (m_var 1) m_str) m_int) (m_cons (m_sub hu (m_var 1) m_str) (m_cons (m_op op_adds (b_add false) (m_sub hu (m_var 1) m_str) m_int) (m_cons (m_sub hu (m_var 1) m_str) (m_cons (m_op op_muls (b_mul false) m_int (m_sub hu (m_var 1) m_str)) (m_cons (m_var 4) (m_cons (m_op op_adds (b_add false) (m_var 4) m_int) (m_cons (m_op op_pow b_pow m_int m_int) m_nil)))))))))))))))) m_nil)))) (
    s_one (s_ret (m_op op_adds (b_add false) (m_op op_adds (b_add false) (m_slice false (m_var 2) mo_none (mo_some (m_var 3))) (m_tup (m_cons (m_callB (call_min2 rfl) f_min T.b_min (by decide +kernel) (m_cons (m_var 5) (m_cons (m_op op_pow b_pow m_int m_int) m_nil))) m_nil))) (m_slice false (m_var 2) (mo_some (m_op op_adds (b_add false) (m_var 3) m_int)) mo_none))))))
theorem c_law_bent_block (T : Tx K kx mg) : Cal P w K kx mg base 3 "_law_bent_block" s_law_bent_block p_law_bent_block m_law_bent_block := cal_of T.f_law_bent_block sc_law_bent_block rfl (fun _ _ _ _ _ _ us hl => match us, hl with | [_, _, _], _ => rfl) (d_law_bent_block T)
theorem sc_law_deck : FnScope n_law_deck p_law_deck (defScope s_law_deck) := ⟨rfl, rfl, rfl, by decide +kernel, rfl, by decide +kernel, by decide +kernel⟩
theorem d_law_deck (T : Tx K kx mg) : Bdy P w K kx mg base 0 n_law_deck "_law_deck" s_law_deck b_law_deck := by
  intro f cdv A outer s H E hr hgd
  have hu := u1 hr
  have h64 := u64 hr
  have nd := sc_law_deck.nd
  exact s_seq (s_set 1 nd m_int) (
    s_seq (s_for PassesOwn.never rfl (i_seq (m_slice false (m_var 0) mo_none (mo_some m_int))) (g_name 2 nd) (
    s_one (s_set 1 nd (m_op op_mod b_mod (m_callT call_int1 f_int T.b_int (by decide +kernel) (m_cons (m_op op_adds (b_add false) (m_op op_adds (b_add false) (m_op op_muls (b_mul false) (m_var 1) m_int) (m_op op_mod b_mod (m_callT call_int1 f_int T.b_int (by decide +kernel) (m_cons (m_var 2) m_nil)) m_int)) m_int) m_nil)) m_int)))) (
    s_one (s_ret (m_disp (m_pcons m_str (m_rev true (m_callT call_list_of (f_list false) T.b_list (by decide +kernel) (m_cons (m_slice false (m_var 0) mo_none (mo_some m_int)) m_nil))) (m_pcons m_str (m_var 1) (m_pcons m_str m_int m_pnil)))))))
theorem c_law_deck (T : Tx K kx mg) : Cal P w K kx mg base 1 "_law_deck" s_law_deck p_law_deck m_law_deck := cal_of T.f_law_deck sc_law_deck rfl (fun _ _ _ _ _ _ us hl => match us, hl with | [_], _ => rfl) (d_law_deck T)
theorem sc_law_disk : FnScope n_law_disk p_law_disk (defScope s_law_disk) := ⟨rfl, rfl, rfl, by decide +kernel, rfl, by decide +kernel, by decide +kernel⟩
theorem d_law_disk (T : Tx K kx mg) : Bdy P w K kx mg base 0 n_law_disk "_law_disk" s_law_disk b_law_disk := by
  intro f cdv A outer s H E hr hgd
  have hu := u1 hr
  have h64 := u64 hr
  have nd := sc_law_disk.nd
  exact s_seq (s_par 2 3 rfl nd (m_cons (m_op op_muls (b_mul false) (m_op op_sub b_sub (m_var 0) m_int) (m_op op_sub b_sub (m_var 1) m_int)) (m_cons m_int m_nil))) (
    s_seq (s_while (n := 200) PassesOwn.never (m_cmpT op_lt b_cmp (m_op op_muls (b_mul false) m_int (m_var 3)) (m_op op_adds (b_add false) (m_var 2) m_int) (nomark _)) (
    s_one (s_set 3 nd (m_op op_adds (b_add false) (m_var 3) m_int)))) (
    s_seq (s_set 4 nd (m_disp (m_pcons m_str (m_var 0) (m_pcons m_str (m_var 1) (m_pcons m_str (m_var 2) (m_pcons m_str (m_var 3) m_pnil)))))) (
    s_seq (s_setK hu (m_var 4) m_str (m_op op_muls (b_mul true) (m_lst false (m_cons (m_op op_muls (b_mul false) (m_tup (m_cons m_int m_nil)) m_int) m_nil)) (m_op op_adds (b_add false) (m_op op_muls (b_mul false) m_int (m_var 3)) (m_op op_muls (b_mul false) (m_var 0) (m_var 1))))) (
    s_one (s_ret (m_var 4))))))
theorem c_law_disk (T : Tx K kx mg) : Cal P w K kx mg base 1 "_law_disk" s_law_disk p_law_disk m_law_disk := cal_of T.f_law_disk sc_law_disk rfl (fun _ _ _ _ _ _ us hl => match us, hl with | [_, _], _ => rfl) (d_law_disk T)
theorem sc_law_root : FnScope n_law_root p_law_root (defScope s_law_root) := ⟨rfl, rfl, rfl, by decide +kernel, rfl, by decide +kernel, by decide +kernel⟩
theorem d_law_root (T : Tx K kx mg) : Bdy P w K kx mg base 0 n_law_root "_law_root" s_law_root b_law_root := by
  intro f cdv A outer s H E hr hgd
  have hu := u1 hr
  have h64 := u64 hr
  have nd := sc_law_root.nd
  exact s_seq (s_set 7 nd (m_op op_adds (b_add false) (m_lst false (m_cons (m_var 2) (m_cons (m_var 3) (m_cons (m_var 4) (m_cons (m_var 5) m_nil))))) (m_lc false (own := [("key", 8)]) rfl nd (i_range1 T.b_range (m_sub hu (m_var 0) m_str)) (blkOk_by (N := n_law_root) (sc := defScope s_law_root) (by decide +kernel)) (by decide) (fun _ _ _ _ _ => g_name 8 nd) (fun _ _ _ _ _ => mt_yes) (fun _ _ _ _ _ => m_op op_adds (b_add false) (m_get2 hu (m_var 6) (m_var 8) (m_neg m_int)) m_int)))) (
    s_seq (s_set 7 nd (m_op op_adds (b_add false) (m_var 7) (m_op op_muls (b_mul false) (m_lst false (m_cons m_int m_nil)) (m_op op_sub b_sub (m_op op_muls (b_mul false) m_int (m_sub hu (m_var 0) m_str)) (m_callB call_len_seq f_len T.b_len (by decide +kernel) (m_cons (m_var 7) m_nil)))))) (
    s_one (s_ret (m_lc true (own := [("i", 9)]) rfl nd (i_range1 T.b_range (m_sub hu (m_var 0) m_str)) (blkOk_by (N := n_law_root) (sc := defScope s_law_root) (by decide +kernel)) (by decide) (fun _ _ _ _ _ => g_name 9 nd) (fun _ _ _ _ _ => mt_yes) (fun _ _ _ _ _ => m_op op_adds (b_add false) (m_op op_adds (b_add false) (m_tup (m_cons (m_var 1) (m_cons m_int (m_cons (m_var 9) m_nil)))) (m_callT call_tuple_of f_tuple T.b_tuple (by decide +kernel) (m_cons (m_slice false (m_var 7) (mo_some (m_op op_muls (b_mul false) m_int (m_var 9))) (mo_some (m_op op_adds (b_add false) (m_op op_muls (b_mul false) m_int (m_var 9)) m_int))) m_nil))) (m_tup (m_cons (m_var 1) m_nil)))))))
theorem c_law_root (T : Tx K kx mg) : Cal P w K kx mg base 1 "_law_root" s_law_root p_law_root m_law_root := cal_of T.f_law_root sc_law_root rfl (fun _ _ _ _ _ _ us hl => match us, hl with | [_, _, _, _, _, _, _], _ => rfl) (d_law_root T)
theorem sc_law_drawn_root : FnScope n_law_drawn_root p_law_drawn_root (defScope s_law_drawn_root) := ⟨rfl, rfl, rfl, by decide +kernel, rfl, by decide +kernel, by decide +kernel⟩
theorem d_law_drawn_root (T : Tx K kx mg) : Bdy P w K kx mg base 2 n_law_drawn_root "_law_drawn_root" s_law_drawn_root b_law_drawn_root := by
  intro f cdv A outer s H E hr hgd
  have hu := u1 hr
  have h64 := u64 hr
  have nd := sc_law_drawn_root.nd
  exact s_seq (s_par3 2 3 4 rfl nd (m_cons m_dct0 (m_cons (m_op op_muls (b_mul false) m_int (m_sub hu (m_var 1) m_str)) (m_cons (m_op op_adds (b_add false) (m_op op_muls (b_mul false) m_int (m_sub hu (m_var 1) m_str)) (m_op op_muls (b_mul false) (m_sub hu (m_var 1) m_str) (m_sub hu (m_var 1) m_str))) m_nil)))) (
    s_seq (s_for PassesOwn.never rfl (i_range1 T.b_range (m_sub hu (m_var 1) m_str)) (g_name 5 nd) (
    s_one (s_if (m_cmpT (op_eqs h64) b_eq (m_cl (c_law_draw T) hgd (hr.mono (by decide)) (m_cons (m_var 0) (m_cons m_int m_nil))) m_int (nomark _)) (s_one (s_setK hu (m_var 2) (m_var 5) (m_op op_adds (b_add false) (m_var 3) (m_cl (c_law_draw T) hgd (hr.mono (by decide)) (m_cons (m_var 0) (m_cons (m_op op_sub b_sub (m_var 4) (m_var 3)) m_nil)))))) s_nil))) (
    s_seq (s_par 6 7 rfl nd (m_cons (m_cl (c_law_draw T) hgd (hr.mono (by decide)) (m_cons (m_var 0) (m_cons (m_sub hu (m_var 1) m_str) m_nil))) (m_cons (m_cl (c_law_draw T) hgd (hr.mono (by decide)) (m_cons (m_var 0) (m_cons (m_sub hu (m_var 1) m_str) m_nil))) m_nil))) (
    s_seq (s_set 8 nd (m_cl (c_law_pick T) hgd (hr.mono (by decide)) (m_cons (m_var 0) (m_cons (m_lst false (m_cons m_int (m_cons m_int (m_cons m_int (m_cons m_int (m_cons (m_op op_pow b_pow m_int m_int) (m_cons (m_op op_adds (b_add false) m_int (m_cl (c_law_draw T) hgd (hr.mono (by decide)) (m_cons (m_var 0) (m_cons m_int m_nil)))) (m_cons (m_op op_adds (b_add false) m_int (m_cl (c_law_draw T) hgd (hr.mono (by decide)) (m_cons (m_var 0) (m_cons (m_op op_pow b_pow m_int m_int) m_nil)))) (m_cons m_int m_nil))))))))) m_nil)))) (
    s_one (s_ret (m_cl (c_law_root T) hgd (hr.mono (by decide)) (m_cons (m_var 1) (m_cons (m_var 8) (m_cons (m_var 6) (m_cons (m_cl (c_law_draw T) hgd (hr.mono (by decide)) (m_cons (m_var 0) (m_cons (m_op op_adds (b_add false) (m_sub hu (m_var 1) m_str) m_int) m_nil))) (m_cons (m_var 7) (m_cons (m_cl (c_law_draw T) hgd (hr.mono (by decide)) (m_cons (m_var 0) (m_cons (m_callB (call_min2 rfl) f_min T.b_min (by decide +kernel) (m_cons (m_op op_adds (b_add false) (m_var 8) m_int) (m_cons (m_op op_adds (b_add false) (m_op op_pow b_pow m_int m_int) m_int) m_nil))) m_nil))) (m_cons (m_var 2) m_nil)))))))))))))
theorem c_law_drawn_root (T : Tx K kx mg) : Cal P w K kx mg base 3 "_law_drawn_root" s_law_drawn_root p_law_drawn_root m_law_drawn_root := cal_of T.f_law_drawn_root sc_law_drawn_root rfl (fun _ _ _ _ _ _ us hl => match us, hl with | [_, _], _ => rfl) (d_law_drawn_root T)
theorem sc_law_judge_root : FnScope n_law_judge_root p_law_judge_root (defScope s_law_judge_root) := ⟨rfl, rfl, rfl, by decide +kernel, rfl, by decide +kernel, by decide +kernel⟩
theorem d_law_judge_root (T : Tx K kx mg) : Bdy P w K kx mg base 0 n_law_judge_root "_law_judge_root" s_law_judge_root b_law_judge_root := by
  intro f cdv A outer s H E hr hgd
  have hu := u1 hr
  have h64 := u64 hr
  have nd := sc_law_judge_root.nd
  exact s_seq (s_par 3 4 rfl nd (m_cons (m_slice false (m_var 1) (mo_some (m_op op_muls (b_mul false) (m_var 2) (m_sub hu (m_var 0) m_str))) (mo_some (m_op op_muls (b_mul false) (m_op op_adds (b_add false) (m_var 2) m_int) (m_sub hu (m_var 0) m_str)))) (m_cons (m_lst true m_nil) m_nil))) (
    s_seq (s_set 5 nd (m_sub hu (m_sub hu (m_var 3) m_int) m_int)) (
    s_seq (s_for PassesOwn.never rfl (i_enum T.b_enumerate (m_var 3)) (g_tup rfl (g_cons (g_name 6 nd) (g_cons (g_name 7 nd) g_nil))) (
    s_seq (s_if ((m_tor (m_cmpT (op_eqs h64) b_eq (m_var 5) m_int (nomark _)) (m_tor (m_cmpT (op_nes h64) b_ne (m_tup (m_cons (m_sub hu (m_var 7) m_int) (m_cons (m_sub hu (m_var 7) m_int) m_nil))) (m_tup (m_cons (m_var 5) (m_cons (m_var 5) m_nil))) (nomark _)) (m_tor1 (m_cmpT (op_nes h64) b_ne (m_slice false (m_var 7) (mo_some m_int) (mo_some m_int)) (m_tup (m_cons m_int (m_cons (m_var 6) m_nil))) (nomark _))))).pt) (s_one (s_ret (m_tup (m_cons m_str (m_cons (m_var 6) m_nil))))) s_nil) (
    s_one (s_expr (m_extend (m_var 4) (m_slice false (m_var 7) (mo_some m_int) (mo_some m_int))))))) (
    s_seq (s_asg (m_slice false (m_var 4) mo_none (mo_some m_int)) (g_unl rfl (g_cons (g_name 8 nd) (g_cons (g_name 9 nd) (g_cons (g_name 10 nd) (g_cons (g_name 11 nd) g_nil)))))) (
    s_seq (s_asg (m_tup (m_cons (m_op op_adds (b_add false) (m_op op_muls (b_mul false) m_int (m_sub hu (m_var 0) m_str)) m_int) (m_cons (m_op op_adds (b_add false) (m_op op_muls (b_mul false) m_int (m_sub hu (m_var 0) m_str)) (m_op op_muls (b_mul false) (m_sub hu (m_var 0) m_str) (m_sub hu (m_var 0) m_str))) m_nil))) (g_tup rfl (g_cons (g_name 12 nd) (g_cons (g_name 13 nd) g_nil)))) (
    s_seq (s_set 14 nd (m_slice false (m_var 4) (mo_some m_int) (mo_some (m_op op_adds (b_add false) m_int (m_sub hu (m_var 0) m_str))))) (
    s_seq (s_if ((m_tor (m_cmpT op_ge b_cmp (m_callB (cr_max rfl) f_maxL T.b_max (by decide +kernel) (m_cons (m_lst false (m_cons (m_var 8) (m_cons (m_var 10) m_nil))) m_nil)) (m_sub hu (m_var 0) m_str) (nomark _)) (m_tor (m_cmpT op_gt b_cmp (m_var 9) (m_sub hu (m_var 0) m_str) (nomark _)) (m_tor1 (m_cmpT op_gt b_cmp (m_callB (cr_max rfl) f_maxL T.b_max (by decide +kernel) (m_cons (m_op op_adds (b_add false) (m_slice false (m_var 4) (mo_some (m_op op_adds (b_add false) m_int (m_sub hu (m_var 0) m_str))) mo_none) (m_lst false (m_cons m_int m_nil))) m_nil)) m_int (nomark _))))).pt) (s_one (s_ret (m_tup (m_cons m_str m_nil)))) s_nil) (
    s_seq (s_if (m_cmpT (op_nes h64) b_ne (m_lc false (own := [("word", 15)]) rfl nd (i_seq (m_var 14)) (blkOk_by (N := n_law_judge_root) (sc := defScope s_law_judge_root) (by decide +kernel)) (by decide) (fun _ _ _ _ _ => g_name 15 nd) (fun _ _ _ _ _ => pts_one ((m_tand (m_cmpT (op_nes h64) b_ne (m_var 15) m_int (nomark _)) (m_tand1 (m_tnot (m_chainT op_le op_le b_cmp b_cmp (m_var 12) (m_var 15) (m_var 13))))).pt)) (fun _ _ _ _ _ => m_var 15)) (m_lst false m_nil) (nomark _)) (s_one (s_ret (m_tup (m_cons m_str m_nil)))) s_nil) (
    s_one (s_ret (m_tup (m_cons m_str (m_cons (m_var 5) (m_cons (m_var 8) (m_cons (m_var 9) (m_cons (m_var 10) (m_cons (m_var 11) (m_cons (m_callT call_tuple_of f_tuple T.b_tuple (by decide +kernel) (m_cons (m_lc false (own := [("word", 15)]) rfl nd (i_seq (m_var 14)) (blkOk_by (N := n_law_judge_root) (sc := defScope s_law_judge_root) (by decide +kernel)) (by decide) (fun _ _ _ _ _ => g_name 15 nd) (fun _ _ _ _ _ => mt_yes) (fun _ _ _ _ _ => m_if (m_cmpT (op_eqs h64) b_eq (m_var 15) m_int (nomark _)) m_non (m_op op_sub b_sub (m_var 15) m_int))) m_nil)) m_nil)))))))))))))))))
theorem c_law_judge_root (T : Tx K kx mg) : Cal P w K kx mg base 1 "_law_judge_root" s_law_judge_root p_law_judge_root m_law_judge_root := cal_of T.f_law_judge_root sc_law_judge_root rfl (fun _ _ _ _ _ _ us hl => match us, hl with | [_, _, _], _ => rfl) (d_law_judge_root T)
theorem sc_law_newer : FnScope n_law_newer p_law_newer (defScope s_law_newer) := ⟨rfl, rfl, rfl, by decide +kernel, rfl, by decide +kernel, by decide +kernel⟩
theorem d_law_newer (T : Tx K kx mg) : Bdy P w K kx mg base 1 n_law_newer "_law_newer" s_law_newer b_law_newer := by
  intro f cdv A outer s H E hr hgd
  have hu := u1 hr
  have h64 := u64 hr
  have nd := sc_law_newer.nd
  exact s_seq (s_set 2 nd m_non) (
    s_seq (s_for PassesOwn.never rfl (i_seq (m_tup (m_cons m_int (m_cons m_int m_nil)))) (g_name 3 nd) (
    s_seq (s_set 4 nd (m_cl (c_law_judge_root T) hgd (hr.mono (by decide)) (m_cons (m_var 0) (m_cons (m_var 1) (m_cons (m_var 3) m_nil))))) (
    s_one (s_if ((m_tand (m_cmpT (op_eqs h64) b_eq (m_sub hu (m_var 4) m_int) m_str (nomark _)) (m_tand1 ((m_tor (m_isNT (neg := false) rfl (m_var 2)) (m_tor1 (m_cmpT op_gt b_cmp (m_sub hu (m_var 4) m_int) (m_sub hu (m_var 2) m_int) (nomark _)))).pt))).pt) (s_one (s_set 2 nd (m_tup (m_cons (m_sub hu (m_var 4) m_int) (m_cons (m_var 3) m_nil))))) s_nil)))) (
    s_one (s_ret (m_if (m_isNT (neg := false) rfl (m_var 2)) m_non (m_sub hu (m_var 2) m_int)))))
theorem c_law_newer (T : Tx K kx mg) : Cal P w K kx mg base 2 "_law_newer" s_law_newer p_law_newer m_law_newer := cal_of T.f_law_newer sc_law_newer rfl (fun _ _ _ _ _ _ us hl => match us, hl with | [_, _], _ => rfl) (d_law_newer T)
theorem sc_law_wide_field : FnScope n_law_wide_field p_law_wide_field (defScope s_law_wide_field) := ⟨rfl, rfl, rfl, by decide +kernel, rfl, by decide +kernel, by decide +kernel⟩
theorem d_law_wide_field (T : Tx K kx mg) : Bdy P w K kx mg base 2 n_law_wide_field "_law_wide_field" s_law_wide_field b_law_wide_field := by
  intro f cdv A outer s H E hr hgd
  have hu := u1 hr
  have h64 := u64 hr
  have nd := sc_law_wide_field.nd
  exact s_one (s_ret (m_cl (c_law_pick T) hgd (hr.mono (by decide)) (m_cons (m_var 0) (m_cons (m_lst false (m_cons (m_tup (m_cons m_int (m_cons m_int m_nil))) (m_cons (m_tup (m_cons m_int (m_cons m_int m_nil))) (m_cons (m_tup (m_cons m_int (m_cons m_int m_nil))) (m_cons (m_tup (m_cons m_int (m_cons m_int m_nil))) (m_cons (m_tup (m_cons m_int (m_cons m_int m_nil))) (m_cons (m_tup (m_cons m_int (m_cons m_int m_nil))) (m_cons (m_tup (m_cons m_int (m_cons m_int m_nil))) (m_cons (m_tup (m_cons m_int (m_cons m_int m_nil))) m_nil))))))))) m_nil))))
theorem c_law_wide_field (T : Tx K kx mg) : Cal P w K kx mg base 3 "_law_wide_field" s_law_wide_field p_law_wide_field m_law_wide_field := cal_of T.f_law_wide_field sc_law_wide_field rfl (fun _ _ _ _ _ _ us hl => match us, hl with | [_], _ => rfl) (d_law_wide_field T)
theorem sc_Disk_need_place : FnScope n_Disk_need_place p_Disk_need_place (defScope s_Disk_need_place) := ⟨rfl, rfl, rfl, by decide +kernel, rfl, by decide +kernel, by decide +kernel⟩
theorem d_Disk_need_place (T : Tx K kx mg) : Bdy P w K kx mg base 2 n_Disk_need_place "Disk.need_place" s_Disk_need_place b_Disk_need_place := by
  intro f cdv A outer s H E hr hgd
  have hu := u1 hr
  have h64 := u64 hr
  have nd := sc_Disk_need_place.nd
  exact s_one (s_if (m_tnot (m_val (m_cl (c_is_between T) hgd (hr.mono (by decide)) (m_cons (m_var 1) (m_cons m_int (m_cons (m_op op_sub b_sub (m_callB call_len_seq f_len T.b_len (by decide +kernel) (m_cons (m_fld T.a_Disk_blocks (m_var 0)) m_nil)) m_int) m_nil)))))) (s_one s_fail) s_nil)
theorem c_Disk_need_place (T : Tx K kx mg) : Met P w K kx mg base 3 0 "need_place" "Disk.need_place" s_Disk_need_place p_Disk_need_place m_Disk_need_place := met_of T.cl_Disk T.f_Disk_need_place sc_Disk_need_place rfl (fun _ _ _ _ _ _ us hl => match us, hl with | [_, _], _ => rfl) (d_Disk_need_place T)
theorem sc_is_word : FnScope n_is_word p_is_word (defScope s_is_word) := ⟨rfl, rfl, rfl, by decide +kernel, rfl, by decide +kernel, by decide +kernel⟩
theorem d_is_word (T : Tx K kx mg) : Bdy P w K kx mg base 2 n_is_word "is_word" s_is_word b_is_word := by
  intro f cdv A outer s H E hr hgd
  have hu := u1 hr
  have h64 := u64 hr
  have nd := sc_is_word.nd
  exact s_one (s_ret (m_cl (c_is_between T) hgd (hr.mono (by decide)) (m_cons (m_var 0) (m_cons m_int (m_cons (m_globI T.c_MOST_WORD) m_nil)))))
theorem c_is_word (T : Tx K kx mg) : Cal P w K kx mg base 3 "is_word" s_is_word p_is_word m_is_word := cal_of T.f_is_word sc_is_word rfl (fun _ _ _ _ _ _ us hl => match us, hl with | [_], _ => rfl) (d_is_word T)
theorem sc_are_words : FnScope n_are_words p_are_words (defScope s_are_words) := ⟨rfl, rfl, rfl, by decide +kernel, rfl, by decide +kernel, by decide +kernel⟩
theorem d_are_words (T : Tx K kx mg) : Bdy P w K kx mg base 3 n_are_words "are_words" s_are_words b_are_words := by
  intro f cdv A outer s H E hr hgd
  have hu := u1 hr
  have h64 := u64 hr
  have nd := sc_are_words.nd
  exact s_one (s_ret (m_and (m_isI (t := .tuple) (by intro c z; cases z) T.b_isinstance T.b_tuple (by decide +kernel) (m_var 0)) (m_and (m_cmp (op_eqs h64) b_eq (m_callB call_len_seq f_len T.b_len (by decide +kernel) (m_cons (m_var 0) m_nil)) (m_var 1) (nomark _)) (m_one (m_callB (cr_all rfl) f_all T.b_all (by decide +kernel) (m_cons (m_lc false (own := [("word", 2)]) rfl nd (i_seq (m_var 0)) (blkOk_by (N := n_are_words) (sc := defScope s_are_words) (by decide +kernel)) (by decide) (fun _ _ _ _ _ => g_name 2 nd) (fun _ _ _ _ _ => mt_yes) (fun _ _ _ _ _ => m_cl (c_is_word T) hgd (hr.mono (by decide)) (m_cons (m_var 2) m_nil))) m_nil))))))
theorem c_are_words (T : Tx K kx mg) : Cal P w K kx mg base 4 "are_words" s_are_words p_are_words m_are_words := cal_of T.f_are_words sc_are_words rfl (fun _ _ _ _ _ _ us hl => match us, hl with | [_, _], _ => rfl) (d_are_words T)
theorem sc_is_block : FnScope n_is_block p_is_block (defScope s_is_block) := ⟨rfl, rfl, rfl, by decide +kernel, rfl, by decide +kernel, by decide +kernel⟩
theorem d_is_block (T : Tx K kx mg) : Bdy P w K kx mg base 4 n_is_block "is_block" s_is_block b_is_block := by
  intro f cdv A outer s H E hr hgd
  have hu := u1 hr
  have h64 := u64 hr
  have nd := sc_is_block.nd
  exact s_one (s_ret (m_cl (c_are_words T) hgd (hr.mono (by decide)) (m_cons (m_var 0) (m_cons (m_globI T.c_WORDS) m_nil))))
theorem c_is_block (T : Tx K kx mg) : Cal P w K kx mg base 5 "is_block" s_is_block p_is_block m_is_block := cal_of T.f_is_block sc_is_block rfl (fun _ _ _ _ _ _ us hl => match us, hl with | [_], _ => rfl) (d_is_block T)
theorem sc_Disk_write : FnScope n_Disk_write p_Disk_write (defScope s_Disk_write) := ⟨rfl, rfl, rfl, by decide +kernel, rfl, by decide +kernel, by decide +kernel⟩
theorem d_Disk_write (T : Tx K kx mg) : Bdy P w K kx mg base 5 n_Disk_write "Disk.write" s_Disk_write b_Disk_write := by
  intro f cdv A outer s H E hr hgd
  have hu := u1 hr
  have h64 := u64 hr
  have nd := sc_Disk_write.nd
  exact s_seq (s_expr (m_mt (c_Disk_need_place T) hgd (hr.mono (by decide)) (m_var 0) (m_cons (m_var 1) m_nil))) (
    s_seq (s_if (m_tnot (m_val (m_cl (c_is_block T) hgd (hr.mono (by decide)) (m_cons (m_var 2) m_nil)))) (s_one s_fail) s_nil) (
    s_seq (s_expr (m_mt0 (c_Disk_burn T) hgd (hr.mono (by decide)) (m_var 0))) (
    s_seq (s_expr (m_append (m_fld T.a_Disk_queue (m_var 0)) (m_tup (m_cons (m_var 1) (m_cons (m_var 2) m_nil))))) (
    s_one (s_setK hu (m_fld T.a_Disk_newest (m_var 0)) (m_var 1) (m_var 2))))))
theorem c_Disk_write (T : Tx K kx mg) : Met P w K kx mg base 6 0 "write" "Disk.write" s_Disk_write p_Disk_write m_Disk_write := met_of T.cl_Disk T.f_Disk_write sc_Disk_write rfl (fun _ _ _ _ _ _ us hl => match us, hl with | [_, _, _], _ => rfl) (d_Disk_write T)
theorem sc_law_write_all : FnScope n_law_write_all p_law_write_all (defScope s_law_write_all) := ⟨rfl, rfl, rfl, by decide +kernel, rfl, by decide +kernel, by decide +kernel⟩
theorem d_law_write_all (T : Tx K kx mg) : Bdy P w K kx mg base 6 n_law_write_all "_law_write_all" s_law_write_all b_law_write_all := by
  intro f cdv A outer s H E hr hgd
  have hu := u1 hr
  have h64 := u64 hr
  have nd := sc_law_write_all.nd
  exact s_one (s_for PassesOwn.never rfl (i_enum T.b_enumerate (m_var 3)) (g_tup rfl (g_cons (g_name 4 nd) (g_cons (g_name 5 nd) g_nil))) (
    s_seq (s_expr (m_mt (c_Disk_write T) hgd (hr.mono (by decide)) (m_var 0) (m_cons (m_op op_adds (b_add false) (m_var 2) (m_var 4)) (m_cons (m_var 5) m_nil)))) (
    s_one (s_setI (m_sub hu (m_var 1) m_str) (m_op op_adds (b_add false) (m_var 2) (m_var 4)) (m_var 5)))))
theorem c_law_write_all (T : Tx K kx mg) : Cal P w K kx mg base 7 "_law_write_all" s_law_write_all p_law_write_all m_law_write_all := cal_of T.f_law_write_all sc_law_write_all rfl (fun _ _ _ _ _ _ us hl => match us, hl with | [_, _, _, _], _ => rfl) (d_law_write_all T)
theorem sc_need_disk : FnScope n_need_disk p_need_disk (defScope s_need_disk) := ⟨rfl, rfl, rfl, by decide +kernel, rfl, by decide +kernel, by decide +kernel⟩
theorem d_need_disk (T : Tx K kx mg) : Bdy P w K kx mg base 0 n_need_disk "need_disk" s_need_disk b_need_disk := by
  intro f cdv A outer s H E hr hgd
  have hu := u1 hr
  have h64 := u64 hr
  have nd := sc_need_disk.nd
  exact s_one (s_if (m_tnot (m_val (m_isC T.i_Disk T.b_isinstance T.n_Disk (m_var 0)))) (s_one s_fail) s_nil)
theorem c_need_disk (T : Tx K kx mg) : Cal P w K kx mg base 1 "need_disk" s_need_disk p_need_disk m_need_disk := cal_of T.f_need_disk sc_need_disk rfl (fun _ _ _ _ _ _ us hl => match us, hl with | [_], _ => rfl) (d_need_disk T)
theorem sc_Disk_read : FnScope n_Disk_read p_Disk_read (defScope s_Disk_read) := ⟨rfl, rfl, rfl, by decide +kernel, rfl, by decide +kernel, by decide +kernel⟩
theorem d_Disk_read (T : Tx K kx mg) : Bdy P w K kx mg base 3 n_Disk_read "Disk.read" s_Disk_read b_Disk_read := by
  intro f cdv A outer s H E hr hgd
  have hu := u1 hr
  have h64 := u64 hr
  have nd := sc_Disk_read.nd
  exact s_seq (s_expr (m_mt (c_Disk_need_place T) hgd (hr.mono (by decide)) (m_var 0) (m_cons (m_var 1) m_nil))) (
    s_one (s_ret (m_get2 hu (m_fld T.a_Disk_newest (m_var 0)) (m_var 1) (m_sub hu (m_fld T.a_Disk_blocks (m_var 0)) (m_var 1)))))
theorem c_Disk_read (T : Tx K kx mg) : Met P w K kx mg base 4 0 "read" "Disk.read" s_Disk_read p_Disk_read m_Disk_read := met_of T.cl_Disk T.f_Disk_read sc_Disk_read rfl (fun _ _ _ _ _ _ us hl => match us, hl with | [_, _], _ => rfl) (d_Disk_read T)
theorem sc_broken_at : FnScope n_broken_at p_broken_at (defScope s_broken_at) := ⟨rfl, rfl, rfl, by decide +kernel, rfl, by decide +kernel, by decide +kernel⟩
theorem d_broken_at (T : Tx K kx mg) : Bdy P w K kx mg base 0 n_broken_at "broken_at" s_broken_at b_broken_at := by
  intro f cdv A outer s H E hr hgd
  have hu := u1 hr
  have h64 := u64 hr
  have nd := sc_broken_at.nd
  exact s_seq (s_set 1 nd (m_sub hu (m_sub hu (m_var 0) m_int) m_int)) (
    s_seq (s_for PassesOwn.never rfl (i_enum T.b_enumerate (m_var 0)) (g_tup rfl (g_cons (g_name 2 nd) (g_cons (g_name 3 nd) g_nil))) (
    s_one (s_if ((m_tor (m_cmpT (op_eqs h64) b_eq (m_var 1) m_int (nomark _)) (m_tor (m_cmpT (op_nes h64) b_ne (m_slice false (m_var 3) mo_none (mo_some m_int)) (m_tup (m_cons (m_var 1) (m_cons (m_globI T.c_ROOT) (m_cons (m_var 2) m_nil)))) (nomark _)) (m_tor1 (m_cmpT (op_nes h64) b_ne (m_sub hu (m_var 3) (m_neg m_int)) (m_var 1) (nomark _))))).pt) (s_one (s_ret (m_var 2))) s_nil))) (
    s_one (s_ret m_non)))
theorem c_broken_at (T : Tx K kx mg) : Cal P w K kx mg base 1 "broken_at" s_broken_at p_broken_at m_broken_at := cal_of T.f_broken_at sc_broken_at rfl (fun _ _ _ _ _ _ us hl => match us, hl with | [_], _ => rfl) (d_broken_at T)
theorem sc_is_place_word : FnScope n_is_place_word p_is_place_word (defScope s_is_place_word) := ⟨rfl, rfl, rfl, by decide +kernel, rfl, by decide +kernel, by decide +kernel⟩
theorem d_is_place_word (T : Tx K kx mg) : Bdy P w K kx mg base 0 n_is_place_word "is_place_word" s_is_place_word b_is_place_word := by
  intro f cdv A outer s H E hr hgd
  have hu := u1 hr
  have h64 := u64 hr
  have nd := sc_is_place_word.nd
  exact s_seq (s_set 2 nd (m_op op_muls (b_mul false) m_int (m_fld T.a_Disk_r (m_var 0)))) (
    s_one (s_ret (m_or (m_cmp (op_eqs h64) b_eq (m_var 1) m_int (nomark _)) (m_one (m_chain op_le op_lt b_cmp b_cmp (m_var 2) (m_op op_sub b_sub (m_var 1) m_int) (m_op op_adds (b_add false) (m_var 2) (m_op op_muls (b_mul false) (m_fld T.a_Disk_s (m_var 0)) (m_fld T.a_Disk_k (m_var 0)))))))))
theorem c_is_place_word (T : Tx K kx mg) : Cal P w K kx mg base 1 "is_place_word" s_is_place_word p_is_place_word m_is_place_word := cal_of T.f_is_place_word sc_is_place_word rfl (fun _ _ _ _ _ _ us hl => match us, hl with | [_, _], _ => rfl) (d_is_place_word T)
theorem sc_is_root_row : FnScope n_is_root_row p_is_root_row (defScope s_is_root_row) := ⟨rfl, rfl, rfl, by decide +kernel, rfl, by decide +kernel, by decide +kernel⟩
theorem d_is_root_row (T : Tx K kx mg) : Bdy P w K kx mg base 1 n_is_root_row "is_root_row" s_is_root_row b_is_root_row := by
  intro f cdv A outer s H E hr hgd
  have hu := u1 hr
  have h64 := u64 hr
  have nd := sc_is_root_row.nd
  exact s_seq (s_if ((m_tor (m_cmpT op_ge b_cmp (m_sub hu (m_var 1) m_int) (m_fld T.a_Disk_s (m_var 0)) (nomark _)) (m_tor (m_cmpT op_gt b_cmp (m_sub hu (m_var 1) m_int) (m_fld T.a_Disk_k (m_var 0)) (nomark _)) (m_tor1 (m_cmpT op_ge b_cmp (m_sub hu (m_var 1) m_int) (m_fld T.a_Disk_s (m_var 0)) (nomark _))))).pt) (s_one (s_ret m_bl)) s_nil) (
    s_seq (s_set 2 nd (m_op op_adds (b_add false) (m_globI T.c_FIRST_PLACE) (m_fld T.a_Disk_n (m_var 0)))) (
    s_seq (s_if (m_tnot (m_val (m_callB (cr_all rfl) f_all T.b_all (by decide +kernel) (m_cons (m_lc false (own := [("word", 3)]) rfl nd (i_seq (m_slice false (m_var 1) (mo_some (m_globI T.c_FIRST_PLACE)) (mo_some (m_var 2)))) (blkOk_by (N := n_is_root_row) (sc := defScope s_is_root_row) (by decide +kernel)) (by decide) (fun _ _ _ _ _ => g_name 3 nd) (fun _ _ _ _ _ => mt_yes) (fun _ _ _ _ _ => m_cl (c_is_place_word T) hgd (hr.mono (by decide)) (m_cons (m_var 0) (m_cons (m_var 3) m_nil)))) m_nil)))) (s_one (s_ret m_bl)) s_nil) (
    s_one (s_ret (m_callB (cr_all rfl) f_all T.b_all (by decide +kernel) (m_cons (m_lc false (own := [("word", 3)]) rfl nd (i_seq (m_slice false (m_var 1) (mo_some (m_var 2)) mo_none)) (blkOk_by (N := n_is_root_row) (sc := defScope s_is_root_row) (by decide +kernel)) (by decide) (fun _ _ _ _ _ => g_name 3 nd) (fun _ _ _ _ _ => mt_yes) (fun _ _ _ _ _ => m_cmp (op_eqs h64) b_eq (m_var 3) m_int (nomark _))) m_nil))))))
theorem c_is_root_row (T : Tx K kx mg) : Cal P w K kx mg base 2 "is_root_row" s_is_root_row p_is_root_row m_is_root_row := cal_of T.f_is_root_row sc_is_root_row rfl (fun _ _ _ _ _ _ us hl => match us, hl with | [_, _], _ => rfl) (d_is_root_row T)
theorem sc_root_at : FnScope n_root_at p_root_at (defScope s_root_at) := ⟨rfl, rfl, rfl, by decide +kernel, rfl, by decide +kernel, by decide +kernel⟩
theorem d_root_at (T : Tx K kx mg) : Bdy P w K kx mg base 4 n_root_at "root_at" s_root_at b_root_at := by
  intro f cdv A outer s H E hr hgd
  have hu := u1 hr
  have h64 := u64 hr
  have nd := sc_root_at.nd
  exact s_seq (s_set 2 nd (m_op op_muls (b_mul false) (m_var 1) (m_fld T.a_Disk_r (m_var 0)))) (
    s_seq (s_setLc 3 false (own := [("place", 8)]) rfl nd rfl rfl rfl (i_range2 T.b_range (m_var 2) (m_op op_adds (b_add false) (m_var 2) (m_fld T.a_Disk_r (m_var 0)))) (blkOk_by (N := n_root_at) (sc := defScope s_root_at) (by decide +kernel)) (by decide) (fun _ _ _ _ _ => g_name 8 nd) (fun _ _ _ _ _ => mt_yes) (fun _ _ _ _ _ => m_mt (c_Disk_read T) hgd (hr.mono (by decide)) (m_var 0) (m_cons (m_var 8) m_nil))) (
    s_seq (s_set 4 nd (m_cl (c_broken_at T) hgd (hr.mono (by decide)) (m_cons (m_var 3) m_nil))) (
    s_seq (s_if (m_isNT (neg := true) rfl (m_var 4)) (s_one (s_ret (m_tup (m_cons m_str (m_cons (m_var 4) m_nil))))) s_nil) (
    s_seq (s_setLc2 5 false (vs1 := [10]) (own := [("block", 9), ("word", 10)]) rfl nd rfl rfl rfl (i_seq (m_var 3)) (blkOk_by (N := n_root_at) (sc := defScope s_root_at) (by decide +kernel)) (by decide) (by decide) (by decide) (fun _ _ _ _ _ => g_name 9 nd) (fun _ _ _ _ _ => mt_yes) (fun _ _ _ _ _ => i_seq (m_slice false (m_var 9) (mo_some m_int) (mo_some (m_neg m_int)))) (fun _ _ _ _ _ => g_name 10 nd) (fun _ _ _ _ _ => mt_yes) (fun _ _ _ _ _ => m_var 10)) (
    s_seq (s_if (m_tnot (m_val (m_cl (c_is_root_row T) hgd (hr.mono (by decide)) (m_cons (m_var 0) (m_cons (m_var 5) m_nil))))) (s_one (s_ret (m_tup (m_cons m_str m_nil)))) s_nil) (
    s_seq (s_set 6 nd (m_slice false (m_var 5) (mo_some (m_globI T.c_FIRST_PLACE)) (mo_some (m_op op_adds (b_add false) (m_globI T.c_FIRST_PLACE) (m_fld T.a_Disk_n (m_var 0)))))) (
    s_seq (s_set 7 nd (m_callT call_tuple_of f_tuple T.b_tuple (by decide +kernel) (m_cons (m_lc false (own := [("word", 10)]) rfl nd (i_seq (m_var 6)) (blkOk_by (N := n_root_at) (sc := defScope s_root_at) (by decide +kernel)) (by decide) (fun _ _ _ _ _ => g_name 10 nd) (fun _ _ _ _ _ => mt_yes) (fun _ _ _ _ _ => m_if (m_cmpT op_gt b_cmp (m_var 10) m_int (nomark _)) (m_op op_sub b_sub (m_var 10) m_int) m_non)) m_nil))) (
    s_one (s_ret (m_tup (m_cons m_str (m_cons (m_sub hu (m_sub hu (m_var 3) m_int) m_int) (m_cons (m_sub hu (m_var 5) m_int) (m_cons (m_sub hu (m_var 5) m_int) (m_cons (m_sub hu (m_var 5) m_int) (m_cons (m_sub hu (m_var 5) m_int) (m_cons (m_var 7) m_nil)))))))))))))))))
theorem c_root_at (T : Tx K kx mg) : Cal P w K kx mg base 5 "root_at" s_root_at p_root_at m_root_at := cal_of T.f_root_at sc_root_at rfl (fun _ _ _ _ _ _ us hl => match us, hl with | [_, _], _ => rfl) (d_root_at T)
theorem sc_judge_root : FnScope n_judge_root p_judge_root (defScope s_judge_root) := ⟨rfl, rfl, rfl, by decide +kernel, rfl, by decide +kernel, by decide +kernel⟩
theorem d_judge_root (T : Tx K kx mg) : Bdy P w K kx mg base 5 n_judge_root "judge_root" s_judge_root b_judge_root := by
  intro f cdv A outer s H E hr hgd
  have hu := u1 hr
  have h64 := u64 hr
  have nd := sc_judge_root.nd
  exact s_seq (s_expr (m_cl (c_need_disk T) hgd (hr.mono (by decide)) (m_cons (m_var 0) m_nil))) (
    s_seq (s_if (m_tnot (m_val (m_cl (c_is_between T) hgd (hr.mono (by decide)) (m_cons (m_var 1) (m_cons m_int (m_cons m_int m_nil)))))) (s_one s_fail) s_nil) (
    s_one (s_ret (m_cl (c_root_at T) hgd (hr.mono (by decide)) (m_cons (m_var 0) (m_cons (m_var 1) m_nil))))))
theorem c_judge_root (T : Tx K kx mg) : Cal P w K kx mg base 6 "judge_root" s_judge_root p_judge_root m_judge_root := cal_of T.f_judge_root sc_judge_root rfl (fun _ _ _ _ _ _ us hl => match us, hl with | [_, _], _ => rfl) (d_judge_root T)
theorem sc_newer : FnScope n_newer p_newer (defScope s_newer) := ⟨rfl, rfl, rfl, by decide +kernel, rfl, by decide +kernel, by decide +kernel⟩
theorem d_newer (T : Tx K kx mg) : Bdy P w K kx mg base 5 n_newer "newer" s_newer b_newer := by
  intro f cdv A outer s H E hr hgd
  have hu := u1 hr
  have h64 := u64 hr
  have nd := sc_newer.nd
  exact s_seq (s_set 1 nd (m_lst true m_nil)) (
    s_seq (s_for PassesOwn.never rfl (i_range1 T.b_range m_int) (g_name 2 nd) (
    s_seq (s_set 3 nd (m_cl (c_root_at T) hgd (hr.mono (by decide)) (m_cons (m_var 0) (m_cons (m_var 2) m_nil)))) (
    s_one (s_expr (m_append (m_var 1) (m_if (m_cmpT (op_eqs h64) b_eq (m_sub hu (m_var 3) m_int) m_str (nomark _)) (m_sub hu (m_var 3) m_int) m_int)))))) (
    s_seq (s_if (m_cmpT (op_eqs h64) b_eq (m_callB (cr_max rfl) f_maxL T.b_max (by decide +kernel) (m_cons (m_var 1) m_nil)) m_int (nomark _)) (s_one (s_ret m_non)) s_nil) (
    s_one (s_ret (m_if (m_cmpT op_ge b_cmp (m_sub hu (m_var 1) m_int) (m_sub hu (m_var 1) m_int) (nomark _)) m_int m_int)))))
theorem c_newer (T : Tx K kx mg) : Cal P w K kx mg base 6 "newer" s_newer p_newer m_newer := cal_of T.f_newer sc_newer rfl (fun _ _ _ _ _ _ us hl => match us, hl with | [_], _ => rfl) (d_newer T)
theorem sc_newer_root : FnScope n_newer_root p_newer_root (defScope s_newer_root) := ⟨rfl, rfl, rfl, by decide +kernel, rfl, by decide +kernel, by decide +kernel⟩
theorem d_newer_root (T : Tx K kx mg) : Bdy P w K kx mg base 6 n_newer_root "newer_root" s_newer_root b_newer_root := by
  intro f cdv A outer s H E hr hgd
  have hu := u1 hr
  have h64 := u64 hr
  have nd := sc_newer_root.nd
  exact s_seq (s_expr (m_cl (c_need_disk T) hgd (hr.mono (by decide)) (m_cons (m_var 0) m_nil))) (
    s_one (s_ret (m_cl (c_newer T) hgd (hr.mono (by decide)) (m_cons (m_var 0) m_nil))))
theorem c_newer_root (T : Tx K kx mg) : Cal P w K kx mg base 7 "newer_root" s_newer_root p_newer_root m_newer_root := cal_of T.f_newer_root sc_newer_root rfl (fun _ _ _ _ _ _ us hl => match us, hl with | [_], _ => rfl) (d_newer_root T)
theorem sc_law : FnScope n_law p_law (defScope s_law) := ⟨rfl, rfl, rfl, by decide +kernel, rfl, by decide +kernel, by decide +kernel⟩
theorem d_law (T : Tx K kx mg) : Bdy P w K kx mg base 7 n_law "law" s_law b_law := by
  intro f cdv A outer s H E hr hgd
  have hu := u1 hr
  have h64 := u64 hr
  have nd := sc_law.nd
  exact s_seq (s_set 1 nd (m_cl (c_law_deck T) hgd (hr.mono (by decide)) (m_cons (m_var 0) m_nil))) (
    s_seq (s_for PassesOwn.never rfl (i_range1 T.b_range m_int) (g_name 2 nd) (
    s_seq (s_asg (m_cl (c_law_wide_field T) hgd (hr.mono (by decide)) (m_cons (m_var 1) m_nil)) (g_tup rfl (g_cons (g_name 3 nd) (g_cons (g_name 4 nd) g_nil)))) (
    s_seq (s_par 5 6 rfl nd (m_cons (m_mk (c_Disk_mk T) hgd (hr.mono (by decide)) (m_cons (m_var 3) (m_cons (m_var 4) m_nil))) (m_cons (m_cl (c_law_disk T) hgd (hr.mono (by decide)) (m_cons (m_var 3) (m_cons (m_var 4) m_nil))) m_nil))) (
    s_one (s_for PassesOwn.never rfl (i_range1 T.b_range m_int) (g_name 7 nd) (
    s_seq (s_par3 8 9 10 rfl nd (m_cons (m_cl (c_law_draw T) hgd (hr.mono (by decide)) (m_cons (m_var 1) (m_cons m_int m_nil))) (m_cons (m_cl (c_law_drawn_root T) hgd (hr.mono (by decide)) (m_cons (m_var 1) (m_cons (m_var 6) m_nil))) (m_cons (m_cl (c_law_draw T) hgd (hr.mono (by decide)) (m_cons (m_var 1) (m_cons m_int m_nil))) m_nil)))) (
    s_seq (s_par 11 12 rfl nd (m_cons (m_op op_muls (b_mul false) (m_var 8) (m_sub hu (m_var 6) m_str)) (m_cons (m_cl (c_law_draw T) hgd (hr.mono (by decide)) (m_cons (m_var 1) (m_cons (m_sub hu (m_var 6) m_str) m_nil))) m_nil))) (
    s_seq (s_set 13 nd (m_slice false (m_sub hu (m_var 6) m_str) (mo_some (m_var 11)) (mo_some (m_op op_adds (b_add false) (m_var 11) (m_sub hu (m_var 6) m_str))))) (
    s_seq (s_if (m_cmpT (op_eqs h64) b_eq (m_var 10) m_int (nomark _)) (s_one (s_setI (m_var 9) (m_var 12) (m_cl (c_law_bent_block T) hgd (hr.mono (by decide)) (m_cons (m_var 1) (m_cons (m_var 6) (m_cons (m_sub hu (m_var 9) (m_var 12)) m_nil)))))) (s_one (s_if (m_cmpT (op_eqs h64) b_eq (m_var 10) m_int (nomark _)) (s_seq (s_set 14 nd (m_op op_adds (b_add false) m_int (m_cl (c_law_draw T) hgd (hr.mono (by decide)) (m_cons (m_var 1) (m_cons m_int m_nil))))) (
    s_one (s_setI (m_var 9) (m_var 12) (m_op op_adds (b_add false) (m_slice false (m_sub hu (m_var 9) (m_var 12)) mo_none (mo_some (m_var 14))) (m_slice false (m_sub hu (m_var 13) (m_var 12)) (mo_some (m_var 14)) mo_none))))) (s_one (s_if (m_cmpT (op_eqs h64) b_eq (m_var 10) m_int (nomark _)) (s_one (s_set 9 nd (m_op op_adds (b_add false) (m_slice false (m_var 9) mo_none (mo_some (m_var 12))) (m_slice false (m_var 13) (mo_some (m_var 12)) mo_none)))) (s_one (s_if (m_cmpT (op_eqs h64) b_eq (m_var 10) m_int (nomark _)) (s_one (s_set 9 nd (m_rev false (m_var 9)))) (s_one (s_if ((m_tand (m_cmpT (op_eqs h64) b_eq (m_var 10) m_int (nomark _)) (m_tand1 (m_cmpT op_gt b_cmp (m_var 7) m_int (nomark _)))).pt) (s_one (s_setI (m_var 9) (m_var 12) (m_op op_muls (b_mul false) (m_tup (m_cons m_int m_nil)) m_int))) s_nil))))))))) (
    s_seq (s_expr (m_cl (c_law_write_all T) hgd (hr.mono (by decide)) (m_cons (m_var 5) (m_cons (m_var 6) (m_cons (m_var 11) (m_cons (m_var 9) m_nil)))))) (
    s_seq (s_if (m_cmpT (op_eqs h64) b_eq (m_var 10) m_int (nomark _)) (s_one (s_expr (m_mt0 (c_Disk_force T) hgd (hr.mono (by decide)) (m_var 5)))) s_nil) (
    s_seq (s_set 15 nd (m_lst false (m_cons (m_cl (c_law_judge_root T) hgd (hr.mono (by decide)) (m_cons (m_var 6) (m_cons (m_sub hu (m_var 6) m_str) (m_cons m_int m_nil)))) (m_cons (m_cl (c_law_judge_root T) hgd (hr.mono (by decide)) (m_cons (m_var 6) (m_cons (m_sub hu (m_var 6) m_str) (m_cons m_int m_nil)))) m_nil)))) (
    s_seq (s_set 16 nd (m_lst false (m_cons (m_cl (c_judge_root T) hgd (hr.mono (by decide)) (m_cons (m_var 5) (m_cons m_int m_nil))) (m_cons (m_clK0 (c_judge_root T) hgd (hr.mono (by decide)) (ks := ["area", "disk"]) (ix := [1, 0]) (fun _ _ _ _ _ _ us ws h1 h2 => match us, ws, h1, h2 with | [], [_, _], _, _ => rfl) (len_cons (len_cons len_nil)) (mk_cons m_int (mk_cons (m_var 5) mk_nil))) m_nil)))) (
    s_seq (s_if (m_reprNeT hgd h64 T.b_repr (m_var 16) (m_var 15)) (s_one (s_ret m_bl)) s_nil) (
    s_seq (s_set 16 nd (m_if (m_cmpT op_lt b_cmp (m_var 7) m_int (nomark _)) (m_cl (c_newer_root T) hgd (hr.mono (by decide)) (m_cons (m_var 5) m_nil)) (m_clK0 (c_newer_root T) hgd (hr.mono (by decide)) (ks := ["disk"]) (ix := [0]) (fun _ _ _ _ _ _ us ws h1 h2 => match us, ws, h1, h2 with | [], [_], _, _ => rfl) (len_cons len_nil) (mk_cons (m_var 5) mk_nil)))) (
    s_one (s_if (m_reprNeT hgd h64 T.b_repr (m_var 16) (m_cl (c_law_newer T) hgd (hr.mono (by decide)) (m_cons (m_var 6) (m_cons (m_sub hu (m_var 6) m_str) m_nil)))) (s_one (s_ret m_bl)) s_nil))))))))))))))))) (
    s_one (s_ret m_bl)))
theorem c_law (T : Tx K kx mg) : Cal P w K kx mg base 8 "law" s_law p_law m_law := cal_of T.f_law sc_law rfl (fun _ _ _ _ _ _ us hl => match us, hl with | [_], _ => rfl) (d_law T)
end
def lv : List (Str × PySem.W.WData) := [("MOST_WORD", .int 1000000000), ("BLANK", .tuple (ns_BLANK.map PySem.W.WData.int))]
theorem all_mk {l : PySem.W.OpenLaw} {w : World} {K : PySem.W.Frag} {h : Heap} {mg : Str → Option Value} {fa C0 f0 f1 f2 f3 f4 f5 f6 f7 f8 f9 f10 f11 f12 f13 f14 f15 f16 f17 f18 f19 f20 f21 f22 f23 f24 f25 f26 f27 f28 f29 f30 f31 f32 f33 : Addr} {lw : List (Str × PySem.W.WData)} (hlw : lw = lv) (kin : K.In h) (hns : h.Ns mainGlobals mg) (hfa : mg "law" = some (.ref fa)) (L0 : PySem.W.LooseAre lw mg h)
    {od0 od1 od2 od3 od4 od5 od6 od7 od8 od9 od10 od11 od12 od13 od14 od15 od16 od17 od18 od19 od20 od21 od22 od23 od24 od25 od26 od27 od28 od29 od30 od31 od32 od33 an0 an1 an2 an3 an4 an5 an6 an7 an8 an9 an10 an11 an12 an13 an14 an15 an16 an17 an18 an19 an20 an21 an22 an23 an24 an25 an26 an27 an28 an29 an30 an31 an32 an33 : Option Addr} {sl0 sl1 sl2 sl3 sl4 sl5 sl6 sl7 sl8 sl9 sl10 sl11 sl12 sl13 sl14 sl15 sl16 sl17 sl18 sl19 sl20 sl21 sl22 sl23 sl24 sl25 sl26 sl27 sl28 sl29 sl30 sl31 sl32 sl33 : Array (Option Value)} {oc0 oc1 oc2 oc3 oc4 oc5 oc6 oc7 oc8 oc9 oc10 oc11 oc12 oc13 oc14 oc15 oc16 oc17 oc18 oc19 oc20 oc21 oc22 oc23 oc24 oc25 oc26 oc27 oc28 oc29 oc30 oc31 oc32 oc33 kV0 kV1 kV2 kV3 kV4 kV5 kV6 kV7 kV8 kV9 kV10 kV11 kV12 kV13 kV14 kV15 kV16 kV17 kV18 kV19 kV20 kV21 kV22 kV23 kV24 kV25 kV26 kV27 kV28 kV29 kV30 kV31 kV32 kV33 dc0 dc1 dc2 dc3 dc4 dc5 dc6 dc7 dc8 dc9 dc10 dc11 dc12 dc13 dc14 dc15 dc16 dc17 dc18 dc19 dc20 dc21 dc22 dc23 dc24 dc25 dc26 dc27 dc28 dc29 dc30 dc31 dc32 dc33 pm0 pm1 pm2 pm3 pm4 pm5 pm6 pm7 pm8 pm9 pm10 pm11 pm12 pm13 pm14 pm15 pm16 pm17 pm18 pm19 pm20 pm21 pm22 pm23 pm24 pm25 pm26 pm27 pm28 pm29 pm30 pm31 pm32 pm33 cd0 cd1 cd2 cd3 cd4 cd5 cd6 cd7 cd8 cd9 cd10 cd11 cd12 cd13 cd14 cd15 cd16 cd17 cd18 cd19 cd20 cd21 cd22 cd23 cd24 cd25 cd26 cd27 cd28 cd29 cd30 cd31 cd32 cd33 ct0 ct1 ct2 ct3 ct4 ct5 ct6 ct7 ct8 ct9 ct10 ct11 ct12 ct13 ct14 ct15 ct16 ct17 ct18 ct19 ct20 ct21 ct22 ct23 ct24 ct25 ct26 ct27 ct28 ct29 ct30 ct31 ct32 ct33 : Value} {t_CONTENT t_FIRST_PLACE t_LEAST_BLOCKS t_LEAST_SEGMENTS t_MOST_BLOCKS t_MOST_SEGMENTS t_ROOT t_ROOT_WORDS t_SPARE_SEGMENTS t_WORDS : Tok}
    (aC_Disk : PySem.W.nsIn K mainGlobals "Disk" = some (some (.ref C0)))
    (zb_all : PySem.W.nsIn K mainGlobals "all" = some none)
    (zb_bool : PySem.W.nsIn K mainGlobals "bool" = some none)
    (zb_enumerate : PySem.W.nsIn K mainGlobals "enumerate" = some none)
    (zb_int : PySem.W.nsIn K mainGlobals "int" = some none)
    (zb_isinstance : PySem.W.nsIn K mainGlobals "isinstance" = some none)
    (zb_len : PySem.W.nsIn K mainGlobals "len" = some none)
    (zb_list : PySem.W.nsIn K mainGlobals "list" = some none)
    (zb_max : PySem.W.nsIn K mainGlobals "max" = some none)
    (zb_min : PySem.W.nsIn K mainGlobals "min" = some none)
    (zb_range : PySem.W.nsIn K mainGlobals "range" = some none)
    (zb_repr : PySem.W.nsIn K mainGlobals "repr" = some none)
    (zb_tuple : PySem.W.nsIn K mainGlobals "tuple" = some none)
    (zc_CONTENT : PySem.W.nsIn K mainGlobals "CONTENT" = some (some (.int 28 t_CONTENT)))
    (zc_FIRST_PLACE : PySem.W.nsIn K mainGlobals "FIRST_PLACE" = some (some (.int 4 t_FIRST_PLACE)))
    (zc_LEAST_BLOCKS : PySem.W.nsIn K mainGlobals "LEAST_BLOCKS" = some (some (.int 4 t_LEAST_BLOCKS)))
    (zc_LEAST_SEGMENTS : PySem.W.nsIn K mainGlobals "LEAST_SEGMENTS" = some (some (.int 6 t_LEAST_SEGMENTS)))
    (zc_MOST_BLOCKS : PySem.W.nsIn K mainGlobals "MOST_BLOCKS" = some (some (.int 24 t_MOST_BLOCKS)))
    (zc_MOST_SEGMENTS : PySem.W.nsIn K mainGlobals "MOST_SEGMENTS" = some (some (.int 40 t_MOST_SEGMENTS)))
    (zc_ROOT : PySem.W.nsIn K mainGlobals "ROOT" = some (some (.int 3 t_ROOT)))
    (zc_ROOT_WORDS : PySem.W.nsIn K mainGlobals "ROOT_WORDS" = some (some (.int 4 t_ROOT_WORDS)))
    (zc_SPARE_SEGMENTS : PySem.W.nsIn K mainGlobals "SPARE_SEGMENTS" = some (some (.int 4 t_SPARE_SEGMENTS)))
    (zc_WORDS : PySem.W.nsIn K mainGlobals "WORDS" = some (some (.int 32 t_WORDS)))
    (pg_Disk : PySem.W.plainGet K C0 Str.empty = true)
    (hd_Disk : PySem.W.hasDictIn K C0 = true)
    (po_Disk : PySem.W.plainOver K C0 = true)
    (sa_Disk : PySem.W.findIn K (.ref C0) "__setattr__" = some (some (.builtin "object.__setattr__")))
    (na_Disk_blocks : PySem.W.findIn K (.ref C0) "blocks" = some none)
    (na_Disk_k : PySem.W.findIn K (.ref C0) "k" = some none)
    (na_Disk_left : PySem.W.findIn K (.ref C0) "left" = some none)
    (na_Disk_n : PySem.W.findIn K (.ref C0) "n" = some none)
    (na_Disk_newest : PySem.W.findIn K (.ref C0) "newest" = some none)
    (na_Disk_queue : PySem.W.findIn K (.ref C0) "queue" = some none)
    (na_Disk_r : PySem.W.findIn K (.ref C0) "r" = some none)
    (na_Disk_s : PySem.W.findIn K (.ref C0) "s" = some none)
    (iha_Disk : PySem.W.findIn K (.ref C0) "__class__" = some (some (.builtin "object.__class__")))
    (ihn_Disk : PySem.W.specialIn K (.builtin "object.__class__") "__get__" = some (some (.builtin "getset_descriptor.__get__")))
    (iht_Disk : PySem.W.takesIn K (.builtin "object.__class__") = some true)
    (ihm_Disk : PySem.W.mroIn K C0 (.type "object") = some true)
    (a0 : PySem.W.nsIn K mainGlobals "is_integer" = some (some (.ref f0)))
    (l0 : K.lookup f0 = some ⟨oc0, od0, .func (PySem.W.fnOf "is_integer" "is_integer" (defArgs s_is_integer) (defBody s_is_integer) (defScope s_is_integer) .none kV0 dc0 pm0 an0 cd0 ct0), sl0⟩)
    (c0 : PySem.W.codeIn K cd0 "is_integer" = true)
    (k0 : PySem.W.keepIn K (.ref f0) = true)
    (a1 : PySem.W.nsIn K mainGlobals "is_between" = some (some (.ref f1)))
    (l1 : K.lookup f1 = some ⟨oc1, od1, .func (PySem.W.fnOf "is_between" "is_between" (defArgs s_is_between) (defBody s_is_between) (defScope s_is_between) .none kV1 dc1 pm1 an1 cd1 ct1), sl1⟩)
    (c1 : PySem.W.codeIn K cd1 "is_between" = true)
    (k1 : PySem.W.keepIn K (.ref f1) = true)
    (a2 : PySem.W.nsIn K mainGlobals "need_sizes" = some (some (.ref f2)))
    (l2 : K.lookup f2 = some ⟨oc2, od2, .func (PySem.W.fnOf "need_sizes" "need_sizes" (defArgs s_need_sizes) (defBody s_need_sizes) (defScope s_need_sizes) .none kV2 dc2 pm2 an2 cd2 ct2), sl2⟩)
    (c2 : PySem.W.codeIn K cd2 "need_sizes" = true)
    (k2 : PySem.W.keepIn K (.ref f2) = true)
    (a3 : PySem.W.nsIn K mainGlobals "room_of" = some (some (.ref f3)))
    (l3 : K.lookup f3 = some ⟨oc3, od3, .func (PySem.W.fnOf "room_of" "room_of" (defArgs s_room_of) (defBody s_room_of) (defScope s_room_of) .none kV3 dc3 pm3 an3 cd3 ct3), sl3⟩)
    (c3 : PySem.W.codeIn K cd3 "room_of" = true)
    (k3 : PySem.W.keepIn K (.ref f3) = true)
    (a4 : PySem.W.nsIn K mainGlobals "root_blocks_of" = some (some (.ref f4)))
    (l4 : K.lookup f4 = some ⟨oc4, od4, .func (PySem.W.fnOf "root_blocks_of" "root_blocks_of" (defArgs s_root_blocks_of) (defBody s_root_blocks_of) (defScope s_root_blocks_of) .none kV4 dc4 pm4 an4 cd4 ct4), sl4⟩)
    (c4 : PySem.W.codeIn K cd4 "root_blocks_of" = true)
    (k4 : PySem.W.keepIn K (.ref f4) = true)
    (a5 : PySem.W.findIn K (.ref C0) "__init__" = some (some (.ref f5)))
    (i5 : PySem.W.isFn K (.ref f5) = true)
    (l5 : K.lookup f5 = some ⟨oc5, od5, .func (PySem.W.fnOf "__init__" "Disk.__init__" (defArgs s_Disk_mk) (defBody s_Disk_mk) (defScope s_Disk_mk) .none kV5 dc5 pm5 an5 cd5 ct5), sl5⟩)
    (c5 : PySem.W.codeIn K cd5 "Disk.__init__" = true)
    (k5 : PySem.W.keepIn K (.ref f5) = true)
    (mk_Disk : PySem.W.makesIn K C0 = true)
    (kc_Disk : PySem.W.keepIn K (.ref C0) = true)
    (a6 : PySem.W.findIn K (.ref C0) "burn" = some (some (.ref f6)))
    (i6 : PySem.W.isFn K (.ref f6) = true)
    (l6 : K.lookup f6 = some ⟨oc6, od6, .func (PySem.W.fnOf "burn" "Disk.burn" (defArgs s_Disk_burn) (defBody s_Disk_burn) (defScope s_Disk_burn) .none kV6 dc6 pm6 an6 cd6 ct6), sl6⟩)
    (c6 : PySem.W.codeIn K cd6 "Disk.burn" = true)
    (k6 : PySem.W.keepIn K (.ref f6) = true)
    (a7 : PySem.W.findIn K (.ref C0) "force" = some (some (.ref f7)))
    (i7 : PySem.W.isFn K (.ref f7) = true)
    (l7 : K.lookup f7 = some ⟨oc7, od7, .func (PySem.W.fnOf "force" "Disk.force" (defArgs s_Disk_force) (defBody s_Disk_force) (defScope s_Disk_force) .none kV7 dc7 pm7 an7 cd7 ct7), sl7⟩)
    (c7 : PySem.W.codeIn K cd7 "Disk.force" = true)
    (k7 : PySem.W.keepIn K (.ref f7) = true)
    (a8 : PySem.W.nsIn K mainGlobals "_law_draw" = some (some (.ref f8)))
    (l8 : K.lookup f8 = some ⟨oc8, od8, .func (PySem.W.fnOf "_law_draw" "_law_draw" (defArgs s_law_draw) (defBody s_law_draw) (defScope s_law_draw) .none kV8 dc8 pm8 an8 cd8 ct8), sl8⟩)
    (c8 : PySem.W.codeIn K cd8 "_law_draw" = true)
    (k8 : PySem.W.keepIn K (.ref f8) = true)
    (a9 : PySem.W.nsIn K mainGlobals "_law_pick" = some (some (.ref f9)))
    (l9 : K.lookup f9 = some ⟨oc9, od9, .func (PySem.W.fnOf "_law_pick" "_law_pick" (defArgs s_law_pick) (defBody s_law_pick) (defScope s_law_pick) .none kV9 dc9 pm9 an9 cd9 ct9), sl9⟩)
    (c9 : PySem.W.codeIn K cd9 "_law_pick" = true)
    (k9 : PySem.W.keepIn K (.ref f9) = true)
    (a10 : PySem.W.nsIn K mainGlobals "_law_bent_block" = some (some (.ref f10)))
    (l10 : K.lookup f10 = some ⟨oc10, od10, .func (PySem.W.fnOf "_law_bent_block" "_law_bent_block" (defArgs s_law_bent_block) (defBody s_law_bent_block) (defScope s_law_bent_block) .none kV10 dc10 pm10 an10 cd10 ct10), sl10⟩)
    (c10 : PySem.W.codeIn K cd10 "_law_bent_block" = true)
    (k10 : PySem.W.keepIn K (.ref f10) = true)
    (a11 : PySem.W.nsIn K mainGlobals "_law_deck" = some (some (.ref f11)))
    (l11 : K.lookup f11 = some ⟨oc11, od11, .func (PySem.W.fnOf "_law_deck" "_law_deck" (defArgs s_law_deck) (defBody s_law_deck) (defScope s_law_deck) .none kV11 dc11 pm11 an11 cd11 ct11), sl11⟩)
    (c11 : PySem.W.codeIn K cd11 "_law_deck" = true)
    (k11 : PySem.W.keepIn K (.ref f11) = true)
    (a12 : PySem.W.nsIn K mainGlobals "_law_disk" = some (some (.ref f12)))
    (l12 : K.lookup f12 = some ⟨oc12, od12, .func (PySem.W.fnOf "_law_disk" "_law_disk" (defArgs s_law_disk) (defBody s_law_disk) (defScope s_law_disk) .none kV12 dc12 pm12 an12 cd12 ct12), sl12⟩)
    (c12 : PySem.W.codeIn K cd12 "_law_disk" = true)
    (k12 : PySem.W.keepIn K (.ref f12) = true)
    (a13 : PySem.W.nsIn K mainGlobals "_law_root" = some (some (.ref f13)))
    (l13 : K.lookup f13 = some ⟨oc13, od13, .func (PySem.W.fnOf "_law_root" "_law_root" (defArgs s_law_root) (defBody s_law_root) (defScope s_law_root) .none kV13 dc13 pm13 an13 cd13 ct13), sl13⟩)
    (c13 : PySem.W.codeIn K cd13 "_law_root" = true)
    (k13 : PySem.W.keepIn K (.ref f13) = true)
    (a14 : PySem.W.nsIn K mainGlobals "_law_drawn_root" = some (some (.ref f14)))
    (l14 : K.lookup f14 = some ⟨oc14, od14, .func (PySem.W.fnOf "_law_drawn_root" "_law_drawn_root" (defArgs s_law_drawn_root) (defBody s_law_drawn_root) (defScope s_law_drawn_root) .none kV14 dc14 pm14 an14 cd14 ct14), sl14⟩)
    (c14 : PySem.W.codeIn K cd14 "_law_drawn_root" = true)
    (k14 : PySem.W.keepIn K (.ref f14) = true)
    (a15 : PySem.W.nsIn K mainGlobals "_law_judge_root" = some (some (.ref f15)))
    (l15 : K.lookup f15 = some ⟨oc15, od15, .func (PySem.W.fnOf "_law_judge_root" "_law_judge_root" (defArgs s_law_judge_root) (defBody s_law_judge_root) (defScope s_law_judge_root) .none kV15 dc15 pm15 an15 cd15 ct15), sl15⟩)
    (c15 : PySem.W.codeIn K cd15 "_law_judge_root" = true)
    (k15 : PySem.W.keepIn K (.ref f15) = true)
    (a16 : PySem.W.nsIn K mainGlobals "_law_newer" = some (some (.ref f16)))
    (l16 : K.lookup f16 = some ⟨oc16, od16, .func (PySem.W.fnOf "_law_newer" "_law_newer" (defArgs s_law_newer) (defBody s_law_newer) (defScope s_law_newer) .none kV16 dc16 pm16 an16 cd16 ct16), sl16⟩)
    (c16 : PySem.W.codeIn K cd16 "_law_newer" = true)
    (k16 : PySem.W.keepIn K (.ref f16) = true)
    (a17 : PySem.W.nsIn K mainGlobals "_law_wide_field" = some (some (.ref f17)))
    (l17 : K.lookup f17 = some ⟨oc17, od17, .func (PySem.W.fnOf "_law_wide_field" "_law_wide_field" (defArgs s_law_wide_field) (defBody s_law_wide_field) (defScope s_law_wide_field) .none kV17 dc17 pm17 an17 cd17 ct17), sl17⟩)
    (c17 : PySem.W.codeIn K cd17 "_law_wide_field" = true)
    (k17 : PySem.W.keepIn K (.ref f17) = true)
    (a18 : PySem.W.findIn K (.ref C0) "need_place" = some (some (.ref f18)))
    (i18 : PySem.W.isFn K (.ref f18) = true)
    (l18 : K.lookup f18 = some ⟨oc18, od18, .func (PySem.W.fnOf "need_place" "Disk.need_place" (defArgs s_Disk_need_place) (defBody s_Disk_need_place) (defScope s_Disk_need_place) .none kV18 dc18 pm18 an18 cd18 ct18), sl18⟩)
    (c18 : PySem.W.codeIn K cd18 "Disk.need_place" = true)
    (k18 : PySem.W.keepIn K (.ref f18) = true)
    (a19 : PySem.W.nsIn K mainGlobals "is_word" = some (some (.ref f19)))
    (l19 : K.lookup f19 = some ⟨oc19, od19, .func (PySem.W.fnOf "is_word" "is_word" (defArgs s_is_word) (defBody s_is_word) (defScope s_is_word) .none kV19 dc19 pm19 an19 cd19 ct19), sl19⟩)
    (c19 : PySem.W.codeIn K cd19 "is_word" = true)
    (k19 : PySem.W.keepIn K (.ref f19) = true)
    (a20 : PySem.W.nsIn K mainGlobals "are_words" = some (some (.ref f20)))
    (l20 : K.lookup f20 = some ⟨oc20, od20, .func (PySem.W.fnOf "are_words" "are_words" (defArgs s_are_words) (defBody s_are_words) (defScope s_are_words) .none kV20 dc20 pm20 an20 cd20 ct20), sl20⟩)
    (c20 : PySem.W.codeIn K cd20 "are_words" = true)
    (k20 : PySem.W.keepIn K (.ref f20) = true)
    (a21 : PySem.W.nsIn K mainGlobals "is_block" = some (some (.ref f21)))
    (l21 : K.lookup f21 = some ⟨oc21, od21, .func (PySem.W.fnOf "is_block" "is_block" (defArgs s_is_block) (defBody s_is_block) (defScope s_is_block) .none kV21 dc21 pm21 an21 cd21 ct21), sl21⟩)
    (c21 : PySem.W.codeIn K cd21 "is_block" = true)
    (k21 : PySem.W.keepIn K (.ref f21) = true)
    (a22 : PySem.W.findIn K (.ref C0) "write" = some (some (.ref f22)))
    (i22 : PySem.W.isFn K (.ref f22) = true)
    (l22 : K.lookup f22 = some ⟨oc22, od22, .func (PySem.W.fnOf "write" "Disk.write" (defArgs s_Disk_write) (defBody s_Disk_write) (defScope s_Disk_write) .none kV22 dc22 pm22 an22 cd22 ct22), sl22⟩)
    (c22 : PySem.W.codeIn K cd22 "Disk.write" = true)
    (k22 : PySem.W.keepIn K (.ref f22) = true)
    (a23 : PySem.W.nsIn K mainGlobals "_law_write_all" = some (some (.ref f23)))
    (l23 : K.lookup f23 = some ⟨oc23, od23, .func (PySem.W.fnOf "_law_write_all" "_law_write_all" (defArgs s_law_write_all) (defBody s_law_write_all) (defScope s_law_write_all) .none kV23 dc23 pm23 an23 cd23 ct23), sl23⟩)
    (c23 : PySem.W.codeIn K cd23 "_law_write_all" = true)
    (k23 : PySem.W.keepIn K (.ref f23) = true)
    (a24 : PySem.W.nsIn K mainGlobals "need_disk" = some (some (.ref f24)))
    (l24 : K.lookup f24 = some ⟨oc24, od24, .func (PySem.W.fnOf "need_disk" "need_disk" (defArgs s_need_disk) (defBody s_need_disk) (defScope s_need_disk) .none kV24 dc24 pm24 an24 cd24 ct24), sl24⟩)
    (c24 : PySem.W.codeIn K cd24 "need_disk" = true)
    (k24 : PySem.W.keepIn K (.ref f24) = true)
    (a25 : PySem.W.findIn K (.ref C0) "read" = some (some (.ref f25)))
    (i25 : PySem.W.isFn K (.ref f25) = true)
    (l25 : K.lookup f25 = some ⟨oc25, od25, .func (PySem.W.fnOf "read" "Disk.read" (defArgs s_Disk_read) (defBody s_Disk_read) (defScope s_Disk_read) .none kV25 dc25 pm25 an25 cd25 ct25), sl25⟩)
    (c25 : PySem.W.codeIn K cd25 "Disk.read" = true)
    (k25 : PySem.W.keepIn K (.ref f25) = true)
    (a26 : PySem.W.nsIn K mainGlobals "broken_at" = some (some (.ref f26)))
    (l26 : K.lookup f26 = some ⟨oc26, od26, .func (PySem.W.fnOf "broken_at" "broken_at" (defArgs s_broken_at) (defBody s_broken_at) (defScope s_broken_at) .none kV26 dc26 pm26 an26 cd26 ct26), sl26⟩)
    (c26 : PySem.W.codeIn K cd26 "broken_at" = true)
    (k26 : PySem.W.keepIn K (.ref f26) = true)
    (a27 : PySem.W.nsIn K mainGlobals "is_place_word" = some (some (.ref f27)))
    (l27 : K.lookup f27 = some ⟨oc27, od27, .func (PySem.W.fnOf "is_place_word" "is_place_word" (defArgs s_is_place_word) (defBody s_is_place_word) (defScope s_is_place_word) .none kV27 dc27 pm27 an27 cd27 ct27), sl27⟩)
    (c27 : PySem.W.codeIn K cd27 "is_place_word" = true)
    (k27 : PySem.W.keepIn K (.ref f27) = true)
    (a28 : PySem.W.nsIn K mainGlobals "is_root_row" = some (some (.ref f28)))
    (l28 : K.lookup f28 = some ⟨oc28, od28, .func (PySem.W.fnOf "is_root_row" "is_root_row" (defArgs s_is_root_row) (defBody s_is_root_row) (defScope s_is_root_row) .none kV28 dc28 pm28 an28 cd28 ct28), sl28⟩)
    (c28 : PySem.W.codeIn K cd28 "is_root_row" = true)
    (k28 : PySem.W.keepIn K (.ref f28) = true)
    (a29 : PySem.W.nsIn K mainGlobals "root_at" = some (some (.ref f29)))
    (l29 : K.lookup f29 = some ⟨oc29, od29, .func (PySem.W.fnOf "root_at" "root_at" (defArgs s_root_at) (defBody s_root_at) (defScope s_root_at) .none kV29 dc29 pm29 an29 cd29 ct29), sl29⟩)
    (c29 : PySem.W.codeIn K cd29 "root_at" = true)
    (k29 : PySem.W.keepIn K (.ref f29) = true)
    (a30 : PySem.W.nsIn K mainGlobals "judge_root" = some (some (.ref f30)))
    (l30 : K.lookup f30 = some ⟨oc30, od30, .func (PySem.W.fnOf "judge_root" "judge_root" (defArgs s_judge_root) (defBody s_judge_root) (defScope s_judge_root) .none kV30 dc30 pm30 an30 cd30 ct30), sl30⟩)
    (c30 : PySem.W.codeIn K cd30 "judge_root" = true)
    (k30 : PySem.W.keepIn K (.ref f30) = true)
    (a31 : PySem.W.nsIn K mainGlobals "newer" = some (some (.ref f31)))
    (l31 : K.lookup f31 = some ⟨oc31, od31, .func (PySem.W.fnOf "newer" "newer" (defArgs s_newer) (defBody s_newer) (defScope s_newer) .none kV31 dc31 pm31 an31 cd31 ct31), sl31⟩)
    (c31 : PySem.W.codeIn K cd31 "newer" = true)
    (k31 : PySem.W.keepIn K (.ref f31) = true)
    (a32 : PySem.W.nsIn K mainGlobals "newer_root" = some (some (.ref f32)))
    (l32 : K.lookup f32 = some ⟨oc32, od32, .func (PySem.W.fnOf "newer_root" "newer_root" (defArgs s_newer_root) (defBody s_newer_root) (defScope s_newer_root) .none kV32 dc32 pm32 an32 cd32 ct32), sl32⟩)
    (c32 : PySem.W.codeIn K cd32 "newer_root" = true)
    (k32 : PySem.W.keepIn K (.ref f32) = true)
    (a33 : PySem.W.nsIn K mainGlobals "law" = some (some (.ref f33)))
    (l33 : K.lookup f33 = some ⟨oc33, od33, .func (PySem.W.fnOf "law" "law" (defArgs s_law) (defBody s_law) (defScope s_law) .none kV33 dc33 pm33 an33 cd33 ct33), sl33⟩)
    (c33 : PySem.W.codeIn K cd33 "law" = true)
    (k33 : PySem.W.keepIn K (.ref f33) = true) :
    ∃ (fd : FuncData) (kx : Kx) (ts : List (Addr × List Int)), Held K h ts ∧ (kx.cs = ts.map fun p => (V.ref p.1, Dv.tup (p.2.map Dv.int))) ∧ (∀ (s : Shared) (v : Value), BindsTo s fd ⟨[v], []⟩ [("script", v)]) ∧
      ∀ base : Heap, K.In base → base.Ns mainGlobals mg → FnM l.prog w K kx mg base 8 fa fd ["script"] m_law := by
  subst hlw
  have L := L0
  obtain ⟨t0, h_BLANK⟩ := loose_tup (K := K) (x := "BLANK") (ns := ns_BLANK) L (by decide +kernel) (by rw [show ns_BLANK.length = 32 from rfl, ← big_line]; decide)
  let kx : Kx := ⟨fun n => [C0].getD n 0, ([(t0, ns_BLANK)] : List (Addr × List Int)).map fun p => (V.ref p.1, Dv.tup (p.2.map Dv.int))⟩
  have T : Tx K kx mg := ⟨
    PySem.W.mg_none_of kin hns zb_all,
    PySem.W.mg_none_of kin hns zb_bool,
    PySem.W.mg_none_of kin hns zb_enumerate,
    PySem.W.mg_none_of kin hns zb_int,
    PySem.W.mg_none_of kin hns zb_isinstance,
    PySem.W.mg_none_of kin hns zb_len,
    PySem.W.mg_none_of kin hns zb_list,
    PySem.W.mg_none_of kin hns zb_max,
    PySem.W.mg_none_of kin hns zb_min,
    PySem.W.mg_none_of kin hns zb_range,
    PySem.W.mg_none_of kin hns zb_repr,
    PySem.W.mg_none_of kin hns zb_tuple,
    ⟨_, h_BLANK.1, .head _⟩,
    ⟨_, PySem.W.mg_of kin hns zc_CONTENT⟩,
    ⟨_, PySem.W.mg_of kin hns zc_FIRST_PLACE⟩,
    ⟨_, PySem.W.mg_of kin hns zc_LEAST_BLOCKS⟩,
    ⟨_, PySem.W.mg_of kin hns zc_LEAST_SEGMENTS⟩,
    ⟨_, PySem.W.mg_of kin hns zc_MOST_BLOCKS⟩,
    ⟨_, PySem.W.mg_of kin hns zc_MOST_SEGMENTS⟩,
    loose_int L (by decide +kernel),
    ⟨_, PySem.W.mg_of kin hns zc_ROOT⟩,
    ⟨_, PySem.W.mg_of kin hns zc_ROOT_WORDS⟩,
    ⟨_, PySem.W.mg_of kin hns zc_SPARE_SEGMENTS⟩,
    ⟨_, PySem.W.mg_of kin hns zc_WORDS⟩,
    ⟨pg_Disk, hd_Disk, po_Disk, sa_Disk⟩,
    fok1 ⟨pg_Disk, hd_Disk, po_Disk, sa_Disk⟩ na_Disk_blocks,
    fok1 ⟨pg_Disk, hd_Disk, po_Disk, sa_Disk⟩ na_Disk_k,
    fok1 ⟨pg_Disk, hd_Disk, po_Disk, sa_Disk⟩ na_Disk_left,
    fok1 ⟨pg_Disk, hd_Disk, po_Disk, sa_Disk⟩ na_Disk_n,
    fok1 ⟨pg_Disk, hd_Disk, po_Disk, sa_Disk⟩ na_Disk_newest,
    fok1 ⟨pg_Disk, hd_Disk, po_Disk, sa_Disk⟩ na_Disk_queue,
    fok1 ⟨pg_Disk, hd_Disk, po_Disk, sa_Disk⟩ na_Disk_r,
    fok1 ⟨pg_Disk, hd_Disk, po_Disk, sa_Disk⟩ na_Disk_s,
    ⟨⟨pg_Disk, hd_Disk, po_Disk, sa_Disk⟩, iha_Disk, ihn_Disk, iht_Disk, ihm_Disk, kit_own⟩,
    PySem.W.mg_of kin hns aC_Disk,
    ⟨_, _, fun_mk (st := s_is_integer) l0 c0 k0, PySem.W.mg_of kin hns a0⟩,
    ⟨_, _, fun_mk (st := s_is_between) l1 c1 k1, PySem.W.mg_of kin hns a1⟩,
    ⟨_, _, fun_mk (st := s_need_sizes) l2 c2 k2, PySem.W.mg_of kin hns a2⟩,
    ⟨_, _, fun_mk (st := s_room_of) l3 c3 k3, PySem.W.mg_of kin hns a3⟩,
    ⟨_, _, fun_mk (st := s_root_blocks_of) l4 c4 k4, PySem.W.mg_of kin hns a4⟩,
    ⟨_, _, fun_mk (st := s_Disk_mk) l5 c5 k5, ⟨mk_Disk, a5, i5, kc_Disk⟩, PySem.W.mg_of kin hns aC_Disk⟩,
    ⟨_, _, fun_mk (st := s_Disk_burn) l6 c6 k6, ⟨a6, i6, k6⟩⟩,
    ⟨_, _, fun_mk (st := s_Disk_force) l7 c7 k7, ⟨a7, i7, k7⟩⟩,
    ⟨_, _, fun_mk (st := s_law_draw) l8 c8 k8, PySem.W.mg_of kin hns a8⟩,
    ⟨_, _, fun_mk (st := s_law_pick) l9 c9 k9, PySem.W.mg_of kin hns a9⟩,
    ⟨_, _, fun_mk (st := s_law_bent_block) l10 c10 k10, PySem.W.mg_of kin hns a10⟩,
    ⟨_, _, fun_mk (st := s_law_deck) l11 c11 k11, PySem.W.mg_of kin hns a11⟩,
    ⟨_, _, fun_mk (st := s_law_disk) l12 c12 k12, PySem.W.mg_of kin hns a12⟩,
    ⟨_, _, fun_mk (st := s_law_root) l13 c13 k13, PySem.W.mg_of kin hns a13⟩,
    ⟨_, _, fun_mk (st := s_law_drawn_root) l14 c14 k14, PySem.W.mg_of kin hns a14⟩,
    ⟨_, _, fun_mk (st := s_law_judge_root) l15 c15 k15, PySem.W.mg_of kin hns a15⟩,
    ⟨_, _, fun_mk (st := s_law_newer) l16 c16 k16, PySem.W.mg_of kin hns a16⟩,
    ⟨_, _, fun_mk (st := s_law_wide_field) l17 c17 k17, PySem.W.mg_of kin hns a17⟩,
    ⟨_, _, fun_mk (st := s_Disk_need_place) l18 c18 k18, ⟨a18, i18, k18⟩⟩,
    ⟨_, _, fun_mk (st := s_is_word) l19 c19 k19, PySem.W.mg_of kin hns a19⟩,
    ⟨_, _, fun_mk (st := s_are_words) l20 c20 k20, PySem.W.mg_of kin hns a20⟩,
    ⟨_, _, fun_mk (st := s_is_block) l21 c21 k21, PySem.W.mg_of kin hns a21⟩,
    ⟨_, _, fun_mk (st := s_Disk_write) l22 c22 k22, ⟨a22, i22, k22⟩⟩,
    ⟨_, _, fun_mk (st := s_law_write_all) l23 c23 k23, PySem.W.mg_of kin hns a23⟩,
    ⟨_, _, fun_mk (st := s_need_disk) l24 c24 k24, PySem.W.mg_of kin hns a24⟩,
    ⟨_, _, fun_mk (st := s_Disk_read) l25 c25 k25, ⟨a25, i25, k25⟩⟩,
    ⟨_, _, fun_mk (st := s_broken_at) l26 c26 k26, PySem.W.mg_of kin hns a26⟩,
    ⟨_, _, fun_mk (st := s_is_place_word) l27 c27 k27, PySem.W.mg_of kin hns a27⟩,
    ⟨_, _, fun_mk (st := s_is_root_row) l28 c28 k28, PySem.W.mg_of kin hns a28⟩,
    ⟨_, _, fun_mk (st := s_root_at) l29 c29 k29, PySem.W.mg_of kin hns a29⟩,
    ⟨_, _, fun_mk (st := s_judge_root) l30 c30 k30, PySem.W.mg_of kin hns a30⟩,
    ⟨_, _, fun_mk (st := s_newer) l31 c31 k31, PySem.W.mg_of kin hns a31⟩,
    ⟨_, _, fun_mk (st := s_newer_root) l32 c32 k32, PySem.W.mg_of kin hns a32⟩,
    ⟨_, _, fun_mk (st := s_law) l33 c33 k33, PySem.W.mg_of kin hns a33⟩⟩
  have e := hfa.symm.trans (PySem.W.mg_of kin hns a33)
  cases e
  refine ⟨PySem.W.fnOf "law" "law" (defArgs s_law) (defBody s_law) (defScope s_law) .none kV33 dc33 pm33 an33 cd33 ct33, kx, [(t0, ns_BLANK)], h_BLANK.2, rfl, fun s v => .of_eq rfl, fun base _ _ => ?_⟩
  exact fn_m (fun_mk (st := s_law) l33 c33 k33) sc_law rfl (d_law T _)
theorem walk {l : PySem.W.OpenLaw} {q lq : Program} {loose : List Str} {YP : World → Heap → Prop} {d : DefRec} {K : Params → PySem.W.Frag} {lw : List (Str × PySem.W.WData)} (hn : l.most = some 63) (hdf : d.params.defaults = [])
    (hY : ∀ w h, YP w h → (K w.params).In h)
    (F : ∀ (w : World) (mg : Str → Option Value) (fa : Addr) (h : Heap), (K w.params).In h → h.Ns mainGlobals mg → mg d.name = some (.ref fa) → PySem.W.LooseAre lw mg h →
      ∃ (fd : FuncData) (kx : Kx) (ts : List (Addr × List Int)), Held (K w.params) h ts ∧ (kx.cs = ts.map fun p => (V.ref p.1, Dv.tup (p.2.map Dv.int))) ∧ (∀ (s : Shared) (v : Value), BindsTo s fd ⟨[v], []⟩ [("script", v)]) ∧
        ∀ base : Heap, (K w.params).In base → base.Ns mainGlobals mg → FnM l.prog w (K w.params) kx mg base 8 fa fd ["script"] m_law)
    (run : ∀ ns : List Int, ns.length ≤ 63 → ∃ G', m_law [.scr ns] [] = some (.bl true, G')) :
    PySem.W.WalkO q loose (PySem.W.XL lq lw) YP l.row.toRowW d [] (fun f vs => PySem.call f vs) :=
  walk_m (n := 63) (k := 8) (x := "script") hn (by decide) hdf ⟨rfl, by decide, by decide⟩ hY F run
end Lw



namespace Lw
open Mi (Dv MO Sto Sl Rs bnd ME MT MA MS MF Fl MG MGs MI)
theorem is_integer_int (i : Int) (G : Sto) : m_is_integer [.int i] G = some (.bl true, G) := by
  simp only [Mi.bnd, Mi.mVar, Mi.mC, Mi.mkL, Mi.m2, Mi.m1, Mi.uNeg, Mi.bAdd, Mi.bSub, Mi.bDiv, Mi.bMod, Mi.bPow, Mi.sEq, Mi.bEq, Mi.bCmp, Mi.bLt, Mi.bLe, Mi.bGt, Mi.bGe, Mi.isNon, Mi.mIsN, Mi.mChain, Mi.mAnd, Mi.mOr, Mi.mNot, Mi.mTb, Mi.mTand, Mi.mTor, Mi.mTnot, Mi.mIf, Mi.mNil, Mi.mCons, Mi.mTup, Mi.mLst, Mi.mB, Mi.kOf, Mi.mFld, Mi.mCall, Mi.mCallK, Mi.mMeth, Mi.mMethK, Mi.mDef, Mi.fInt, Mi.fMax, Mi.fMin, Mi.isI, Mi.mIsI, Ms.mIsC, Mi.gNm, Mi.gNil, Mi.gCons, Mi.gTup, Mi.mSeq, Mi.mSkip, Mi.mBrk, Mi.mCont, Mi.mAsg, Mi.mPar, Mi.mExpr, Mi.mRet, Mi.mRetN, Mi.mIfS, Mi.tYes, Mi.wipe, Ms.mDct0, Ms.bAddI, List.map_cons, List.map_nil, List.nil_append, List.cons_append, List.length_cons, List.length_nil, List.replicate_succ, List.replicate_zero, List.getElem?_cons_zero, List.getElem?_cons_succ, List.getElem?_nil, List.set_cons_zero, List.set_cons_succ, Option.map_some, Option.map_none, if_true, if_false, reduceIte, decide_true, decide_false, Nat.reduceAdd, Nat.reduceLeDiff, List.mem_cons, List.mem_singleton, true_or, or_true, true_and, and_true, bne_self_eq_false, Bool.not_true, Bool.not_false, reduceCtorEq, Nat.reduceEqDiff, beq_self_eq_true, Nat.reduceLT, Int.reduceLT, Int.reduceLE, Int.reduceToNat, Int.reduceAdd, Int.reduceSub, Int.reduceMul, Int.reduceNeg, String.reduceEq, String.reduceBEq, List.lookup_cons, List.lookup_nil, Mi.big, Mi.putF, List.length_append, List.append_assoc, ite_true, ite_false, Bool.false_eq_true, and_self, not_true_eq_false, not_false_eq_true, Sum.inr.injEq, Sum.inl.injEq, Mi.look, Mi.put, List.any_cons, List.any_nil, Bool.or_true, Bool.or_false, Bool.true_or, Bool.false_or, List.find?_cons, Option.getD_some, Option.getD_none, Bool.bne_false, Bool.false_bne, Bool.true_bne, Bool.bne_true, Int.reduceEq, Int.reducePow, m_is_integer, b_is_integer] <;> rfl
theorem is_between_int (i a b : Int) (G : Sto) : m_is_between [.int i, .int a, .int b] G = some (.bl (decide (a ≤ i ∧ i ≤ b)), G) := by
  simp only [Mi.bnd, Mi.mVar, Mi.mC, Mi.mkL, Mi.m2, Mi.m1, Mi.uNeg, Mi.bAdd, Mi.bSub, Mi.bDiv, Mi.bMod, Mi.bPow, Mi.sEq, Mi.bEq, Mi.bCmp, Mi.bLt, Mi.bLe, Mi.bGt, Mi.bGe, Mi.isNon, Mi.mIsN, Mi.mChain, Mi.mAnd, Mi.mOr, Mi.mNot, Mi.mTb, Mi.mTand, Mi.mTor, Mi.mTnot, Mi.mIf, Mi.mNil, Mi.mCons, Mi.mTup, Mi.mLst, Mi.mB, Mi.kOf, Mi.mFld, Mi.mCall, Mi.mCallK, Mi.mMeth, Mi.mMethK, Mi.mDef, Mi.fInt, Mi.fMax, Mi.fMin, Mi.isI, Mi.mIsI, Ms.mIsC, Mi.gNm, Mi.gNil, Mi.gCons, Mi.gTup, Mi.mSeq, Mi.mSkip, Mi.mBrk, Mi.mCont, Mi.mAsg, Mi.mPar, Mi.mExpr, Mi.mRet, Mi.mRetN, Mi.mIfS, Mi.tYes, Mi.wipe, Ms.mDct0, Ms.bAddI, List.map_cons, List.map_nil, List.nil_append, List.cons_append, List.length_cons, List.length_nil, List.replicate_succ, List.replicate_zero, List.getElem?_cons_zero, List.getElem?_cons_succ, List.getElem?_nil, List.set_cons_zero, List.set_cons_succ, Option.map_some, Option.map_none, if_true, if_false, reduceIte, decide_true, decide_false, Nat.reduceAdd, Nat.reduceLeDiff, List.mem_cons, List.mem_singleton, true_or, or_true, true_and, and_true, bne_self_eq_false, Bool.not_true, Bool.not_false, reduceCtorEq, Nat.reduceEqDiff, beq_self_eq_true, Nat.reduceLT, Int.reduceLT, Int.reduceLE, Int.reduceToNat, Int.reduceAdd, Int.reduceSub, Int.reduceMul, Int.reduceNeg, String.reduceEq, String.reduceBEq, List.lookup_cons, List.lookup_nil, Mi.big, Mi.putF, List.length_append, List.append_assoc, ite_true, ite_false, Bool.false_eq_true, and_self, not_true_eq_false, not_false_eq_true, Sum.inr.injEq, Sum.inl.injEq, Mi.look, Mi.put, List.any_cons, List.any_nil, Bool.or_true, Bool.or_false, Bool.true_or, Bool.false_or, List.find?_cons, Option.getD_some, Option.getD_none, Bool.bne_false, Bool.false_bne, Bool.true_bne, Bool.bne_true, Int.reduceEq, Int.reducePow, m_is_between, b_is_between, is_integer_int]
  by_cases h : a ≤ i <;> simp [h]
theorem need_sizes_ok (s k : Int) (G : Sto) (h1 : 6 ≤ s ∧ s ≤ 40) (h2 : 4 ≤ k ∧ k ≤ 24) : m_need_sizes [.int s, .int k] G = some (.non, G) := by
  simp only [Mi.bnd, Mi.mVar, Mi.mC, Mi.mkL, Mi.m2, Mi.m1, Mi.uNeg, Mi.bAdd, Mi.bSub, Mi.bDiv, Mi.bMod, Mi.bPow, Mi.sEq, Mi.bEq, Mi.bCmp, Mi.bLt, Mi.bLe, Mi.bGt, Mi.bGe, Mi.isNon, Mi.mIsN, Mi.mChain, Mi.mAnd, Mi.mOr, Mi.mNot, Mi.mTb, Mi.mTand, Mi.mTor, Mi.mTnot, Mi.mIf, Mi.mNil, Mi.mCons, Mi.mTup, Mi.mLst, Mi.mB, Mi.kOf, Mi.mFld, Mi.mCall, Mi.mCallK, Mi.mMeth, Mi.mMethK, Mi.mDef, Mi.fInt, Mi.fMax, Mi.fMin, Mi.isI, Mi.mIsI, Ms.mIsC, Mi.gNm, Mi.gNil, Mi.gCons, Mi.gTup, Mi.mSeq, Mi.mSkip, Mi.mBrk, Mi.mCont, Mi.mAsg, Mi.mPar, Mi.mExpr, Mi.mRet, Mi.mRetN, Mi.mIfS, Mi.tYes, Mi.wipe, Ms.mDct0, Ms.bAddI, List.map_cons, List.map_nil, List.nil_append, List.cons_append, List.length_cons, List.length_nil, List.replicate_succ, List.replicate_zero, List.getElem?_cons_zero, List.getElem?_cons_succ, List.getElem?_nil, List.set_cons_zero, List.set_cons_succ, Option.map_some, Option.map_none, if_true, if_false, reduceIte, decide_true, decide_false, Nat.reduceAdd, Nat.reduceLeDiff, List.mem_cons, List.mem_singleton, true_or, or_true, true_and, and_true, bne_self_eq_false, Bool.not_true, Bool.not_false, reduceCtorEq, Nat.reduceEqDiff, beq_self_eq_true, Nat.reduceLT, Int.reduceLT, Int.reduceLE, Int.reduceToNat, Int.reduceAdd, Int.reduceSub, Int.reduceMul, Int.reduceNeg, String.reduceEq, String.reduceBEq, List.lookup_cons, List.lookup_nil, Mi.big, Mi.putF, List.length_append, List.append_assoc, ite_true, ite_false, Bool.false_eq_true, and_self, not_true_eq_false, not_false_eq_true, Sum.inr.injEq, Sum.inl.injEq, Mi.look, Mi.put, List.any_cons, List.any_nil, Bool.or_true, Bool.or_false, Bool.true_or, Bool.false_or, List.find?_cons, Option.getD_some, Option.getD_none, Bool.bne_false, Bool.false_bne, Bool.true_bne, Bool.bne_true, Int.reduceEq, Int.reducePow, m_need_sizes, b_need_sizes, is_between_int, h1, h2]
theorem bMul_small (m : Bool) (a b : Int) (G : Sto) (h : -(2 ^ 64) < b ∧ b < 2 ^ 64) : Mi.bMul m (.int a) (.int b) G = some (.int (a * b), G) := by
  unfold Mi.bMul Mi.okMul
  simp only [h, decide_true, Bool.and_true, Bool.or_true, if_true]
theorem bMul_small' (m : Bool) (a b : Int) (G : Sto) (h : -(2 ^ 64) < a ∧ a < 2 ^ 64) : Mi.bMul m (.int a) (.int b) G = some (.int (a * b), G) := by
  unfold Mi.bMul Mi.okMul
  simp only [h, decide_true, Bool.and_true, Bool.true_or, if_true]
def N' (s k : Int) : Int := (s - 4) * (k - 1)
def R' (s k : Int) : Int := ((s - 4) * (k - 1) + 4 + 28 - 1) / 28
theorem room_of_ok (s k : Int) (G : Sto) (h1 : 6 ≤ s ∧ s ≤ 40) (h2 : 4 ≤ k ∧ k ≤ 24) : m_room_of [.int s, .int k] G = some (.int (N' s k), G) := by
  have := bMul_small false (s - 4) (k - 1) G (by omega)
  simp only [Mi.bnd, Mi.mVar, Mi.mC, Mi.mkL, Mi.m2, Mi.m1, Mi.uNeg, Mi.bAdd, Mi.bSub, Mi.bDiv, Mi.bMod, Mi.bPow, Mi.sEq, Mi.bEq, Mi.bCmp, Mi.bLt, Mi.bLe, Mi.bGt, Mi.bGe, Mi.isNon, Mi.mIsN, Mi.mChain, Mi.mAnd, Mi.mOr, Mi.mNot, Mi.mTb, Mi.mTand, Mi.mTor, Mi.mTnot, Mi.mIf, Mi.mNil, Mi.mCons, Mi.mTup, Mi.mLst, Mi.mB, Mi.kOf, Mi.mFld, Mi.mCall, Mi.mCallK, Mi.mMeth, Mi.mMethK, Mi.mDef, Mi.fInt, Mi.fMax, Mi.fMin, Mi.isI, Mi.mIsI, Ms.mIsC, Mi.gNm, Mi.gNil, Mi.gCons, Mi.gTup, Mi.mSeq, Mi.mSkip, Mi.mBrk, Mi.mCont, Mi.mAsg, Mi.mPar, Mi.mExpr, Mi.mRet, Mi.mRetN, Mi.mIfS, Mi.tYes, Mi.wipe, Ms.mDct0, Ms.bAddI, List.map_cons, List.map_nil, List.nil_append, List.cons_append, List.length_cons, List.length_nil, List.replicate_succ, List.replicate_zero, List.getElem?_cons_zero, List.getElem?_cons_succ, List.getElem?_nil, List.set_cons_zero, List.set_cons_succ, Option.map_some, Option.map_none, if_true, if_false, reduceIte, decide_true, decide_false, Nat.reduceAdd, Nat.reduceLeDiff, List.mem_cons, List.mem_singleton, true_or, or_true, true_and, and_true, bne_self_eq_false, Bool.not_true, Bool.not_false, reduceCtorEq, Nat.reduceEqDiff, beq_self_eq_true, Nat.reduceLT, Int.reduceLT, Int.reduceLE, Int.reduceToNat, Int.reduceAdd, Int.reduceSub, Int.reduceMul, Int.reduceNeg, String.reduceEq, String.reduceBEq, List.lookup_cons, List.lookup_nil, Mi.big, Mi.putF, List.length_append, List.append_assoc, ite_true, ite_false, Bool.false_eq_true, and_self, not_true_eq_false, not_false_eq_true, Sum.inr.injEq, Sum.inl.injEq, Mi.look, Mi.put, List.any_cons, List.any_nil, Bool.or_true, Bool.or_false, Bool.true_or, Bool.false_or, List.find?_cons, Option.getD_some, Option.getD_none, Bool.bne_false, Bool.false_bne, Bool.true_bne, Bool.bne_true, Int.reduceEq, Int.reducePow, m_room_of, b_room_of, this]
  rfl
theorem root_ok (s k : Int) (G : Sto) (h1 : 6 ≤ s ∧ s ≤ 40) (h2 : 4 ≤ k ∧ k ≤ 24) : m_root_blocks_of [.int s, .int k] G = some (.int (R' s k), G) := by
  simp only [Mi.bnd, Mi.mVar, Mi.mC, Mi.mkL, Mi.m2, Mi.m1, Mi.uNeg, Mi.bAdd, Mi.bSub, Mi.bDiv, Mi.bMod, Mi.bPow, Mi.sEq, Mi.bEq, Mi.bCmp, Mi.bLt, Mi.bLe, Mi.bGt, Mi.bGe, Mi.isNon, Mi.mIsN, Mi.mChain, Mi.mAnd, Mi.mOr, Mi.mNot, Mi.mTb, Mi.mTand, Mi.mTor, Mi.mTnot, Mi.mIf, Mi.mNil, Mi.mCons, Mi.mTup, Mi.mLst, Mi.mB, Mi.kOf, Mi.mFld, Mi.mCall, Mi.mCallK, Mi.mMeth, Mi.mMethK, Mi.mDef, Mi.fInt, Mi.fMax, Mi.fMin, Mi.isI, Mi.mIsI, Ms.mIsC, Mi.gNm, Mi.gNil, Mi.gCons, Mi.gTup, Mi.mSeq, Mi.mSkip, Mi.mBrk, Mi.mCont, Mi.mAsg, Mi.mPar, Mi.mExpr, Mi.mRet, Mi.mRetN, Mi.mIfS, Mi.tYes, Mi.wipe, Ms.mDct0, Ms.bAddI, List.map_cons, List.map_nil, List.nil_append, List.cons_append, List.length_cons, List.length_nil, List.replicate_succ, List.replicate_zero, List.getElem?_cons_zero, List.getElem?_cons_succ, List.getElem?_nil, List.set_cons_zero, List.set_cons_succ, Option.map_some, Option.map_none, if_true, if_false, reduceIte, decide_true, decide_false, Nat.reduceAdd, Nat.reduceLeDiff, List.mem_cons, List.mem_singleton, true_or, or_true, true_and, and_true, bne_self_eq_false, Bool.not_true, Bool.not_false, reduceCtorEq, Nat.reduceEqDiff, beq_self_eq_true, Nat.reduceLT, Int.reduceLT, Int.reduceLE, Int.reduceToNat, Int.reduceAdd, Int.reduceSub, Int.reduceMul, Int.reduceNeg, String.reduceEq, String.reduceBEq, List.lookup_cons, List.lookup_nil, Mi.big, Mi.putF, List.length_append, List.append_assoc, ite_true, ite_false, Bool.false_eq_true, and_self, not_true_eq_false, not_false_eq_true, Sum.inr.injEq, Sum.inl.injEq, Mi.look, Mi.put, List.any_cons, List.any_nil, Bool.or_true, Bool.or_false, Bool.true_or, Bool.false_or, List.find?_cons, Option.getD_some, Option.getD_none, Bool.bne_false, Bool.false_bne, Bool.true_bne, Bool.bne_true, Int.reduceEq, Int.reducePow, m_root_blocks_of, b_root_blocks_of, room_of_ok s k G h1 h2]
  rfl
end Lw


namespace Lw
open Mi (Dv MO Sto Sl Rs bnd ME MT MA MS MF Fl MG MGs MI)
theorem get0 {α : Type} (G r : List α) (x : α) : (G ++ x :: r)[G.length]? = some x := by
  rw [List.getElem?_append_right (Nat.le_refl _)]; simp
theorem set0 {α : Type} (G r : List α) (x y : α) : (G ++ x :: r).set G.length y = G ++ y :: r := by
  rw [List.set_append_right _ _ (Nat.le_refl _)]; simp
/-- where the blocks are -/
def Many (s k : Int) : Nat := (2 * R' s k + s * k).toNat
def dfs (s k : Int) (hb hq hn : Nat) (lf : Dv) : List (String × Dv) := [("s", .int s), ("k", .int k), ("n", .int (N' s k)), ("r", .int (R' s k)), ("blocks", .ref hb), ("queue", .ref hq), ("newest", .ref hn), ("left", lf)]
theorem rep1 {α : Type} (n : Nat) (x : α) : (List.replicate n [x]).flatten = List.replicate n x := by
  induction n with
  | zero => rfl
  | succ n ih => rw [List.replicate_succ, List.replicate_succ, List.flatten_cons, ih]; rfl
theorem prodB {s k : Int} (h1 : 6 ≤ s ∧ s ≤ 40) (h2 : 4 ≤ k ∧ k ≤ 24) : 0 < s * k ∧ s * k ≤ 960 ∧ 0 < N' s k ∧ N' s k ≤ 828 := by
  obtain ⟨a, b⟩ := h1
  obtain ⟨c, d⟩ := h2
  refine ⟨Int.mul_pos (by omega) (by omega), ?_, Int.mul_pos (by omega) (by omega), ?_⟩
  · have : s * k ≤ 40 * 24 := Int.mul_le_mul b d (by omega) (by omega)
    omega
  · have : (s - 4) * (k - 1) ≤ 36 * 23 := Int.mul_le_mul (by omega) (by omega) (by omega) (by omega)
    show (s - 4) * (k - 1) ≤ 828
    omega
theorem R'_b {s k : Int} (h1 : 6 ≤ s ∧ s ≤ 40) (h2 : 4 ≤ k ∧ k ≤ 24) : 1 ≤ R' s k ∧ R' s k ≤ 30 := by
  have := prodB h1 h2
  unfold R'
  unfold N' at this
  omega
theorem mk_ok (s k : Int) (G : Sto) (h1 : 6 ≤ s ∧ s ≤ 40) (h2 : 4 ≤ k ∧ k ≤ 24) :
    m_Disk_mk [.ref G.length, .int s, .int k] (G ++ [.ins 0 []]) = some (.non, G ++ [.ins 0 (dfs s k (G.length + 1) (G.length + 2) (G.length + 3) .non), .lst (List.replicate (Many s k) d_BLANK), .lst [], .dct []]) := by
  have e1 := need_sizes_ok s k (G ++ [.ins 0 []]) h1 h2
  have hp := prodB h1 h2
  have hr := R'_b h1 h2
  have c1 : ∀ G, Mi.bMul false (.int 2) (.int (R' s k)) G = some (.int (2 * R' s k), G) := fun G => bMul_small' false _ _ G (by omega)
  have c2 : ∀ G, Mi.bMul false (.int s) (.int k) G = some (.int (s * k), G) := fun G => bMul_small' false _ _ G (by omega)
  have c3 : ∀ G, Mi.bMul true (.fls [d_BLANK]) (.int (2 * R' s k + s * k)) G = some (.ref G.length, G ++ [.lst (List.replicate (Many s k) d_BLANK)]) := fun G => by
    unfold Mi.bMul
    dsimp only
    rw [if_pos ⟨by omega, by omega, by show 1 * (2 * R' s k + s * k).toNat ≤ 16777216; omega⟩, rep1]
    rfl
  simp only [Mi.bnd, Mi.mVar, Mi.mC, Mi.mkL, Mi.m2, Mi.m1, Mi.uNeg, Mi.bAdd, Mi.bSub, Mi.bDiv, Mi.bMod, Mi.bPow, Mi.sEq, Mi.bEq, Mi.bCmp, Mi.bLt, Mi.bLe, Mi.bGt, Mi.bGe, Mi.isNon, Mi.mIsN, Mi.mChain, Mi.mAnd, Mi.mOr, Mi.mNot, Mi.mTb, Mi.mTand, Mi.mTor, Mi.mTnot, Mi.mIf, Mi.mNil, Mi.mCons, Mi.mTup, Mi.mLst, Mi.mB, Mi.kOf, Mi.mFld, Mi.mCall, Mi.mCallK, Mi.mMeth, Mi.mMethK, Mi.mDef, Mi.fInt, Mi.fMax, Mi.fMin, Mi.isI, Mi.mIsI, Ms.mIsC, Mi.gNm, Mi.gNil, Mi.gCons, Mi.gTup, Mi.mSeq, Mi.mSkip, Mi.mBrk, Mi.mCont, Mi.mAsg, Mi.mPar, Mi.mExpr, Mi.mRet, Mi.mRetN, Mi.mIfS, Mi.tYes, Mi.wipe, Ms.mDct0, Ms.bAddI, List.map_cons, List.map_nil, List.nil_append, List.cons_append, List.length_cons, List.length_nil, List.replicate_succ, List.replicate_zero, List.getElem?_cons_zero, List.getElem?_cons_succ, List.getElem?_nil, List.set_cons_zero, List.set_cons_succ, Option.map_some, Option.map_none, if_true, if_false, reduceIte, decide_true, decide_false, Nat.reduceAdd, Nat.reduceLeDiff, List.mem_cons, List.mem_singleton, true_or, or_true, true_and, and_true, bne_self_eq_false, Bool.not_true, Bool.not_false, reduceCtorEq, Nat.reduceEqDiff, beq_self_eq_true, Nat.reduceLT, Int.reduceLT, Int.reduceLE, Int.reduceToNat, Int.reduceAdd, Int.reduceSub, Int.reduceMul, Int.reduceNeg, String.reduceEq, String.reduceBEq, List.lookup_cons, List.lookup_nil, Mi.big, Mi.putF, List.length_append, List.append_assoc, ite_true, ite_false, Bool.false_eq_true, and_self, not_true_eq_false, not_false_eq_true, Sum.inr.injEq, Sum.inl.injEq, Mi.look, Mi.put, List.any_cons, List.any_nil, Bool.or_true, Bool.or_false, Bool.true_or, Bool.false_or, List.find?_cons, Option.getD_some, Option.getD_none, Bool.bne_false, Bool.false_bne, Bool.true_bne, Bool.bne_true, Int.reduceEq, Int.reducePow, m_Disk_mk, b_Disk_mk, e1, Mi.mSetF, get0, set0, Mi.putF, room_of_ok, root_ok, h1, h2, c1, c2, c3]
  rfl
/-- what lies below stays, but for hs -/
structure Sm (hs : List Nat) (G G' : Sto) : Prop where
  le : G.length ≤ G'.length
  at_ : ∀ i, i < G.length → i ∉ hs → G'[i]? = G[i]?
theorem Sm.refl {hs : List Nat} {G : Sto} : Sm hs G G := ⟨Nat.le_refl _, fun _ _ _ => rfl⟩
theorem Sm.trans {hs : List Nat} {G G1 G2 : Sto} (a : Sm hs G G1) (b : Sm hs G1 G2) : Sm hs G G2 := ⟨Nat.le_trans a.le b.le, fun i hi hn => (b.at_ i (Nat.lt_of_lt_of_le hi a.le) hn).trans (a.at_ i hi hn)⟩
theorem Sm.mono {hs hs' : List Nat} {G G' : Sto} (a : Sm hs G G') (h : ∀ i ∈ hs, i ∈ hs') : Sm hs' G G' := ⟨a.le, fun i hi hn => a.at_ i hi fun q => hn (h i q)⟩
theorem Sm.get {hs : List Nat} {G G' : Sto} (a : Sm hs G G') {i : Nat} {o : MO} (hn : i ∉ hs) (e : G[i]? = some o) : G'[i]? = some o := by
  have hi : i < G.length := by
    rcases Nat.lt_or_ge i G.length with q | q
    · exact q
    · rw [List.getElem?_eq_none q] at e; cases e
  rw [a.at_ i hi hn]
  exact e
theorem lt_get {G : Sto} {i : Nat} {o : MO} (e : G[i]? = some o) : i < G.length := by
  rcases Nat.lt_or_ge i G.length with q | q
  · exact q
  · rw [List.getElem?_eq_none q] at e; cases e
theorem sm_set {hs : List Nat} {G : Sto} {i : Nat} {o : MO} (h : i ∈ hs) : Sm hs G (G.set i o) := ⟨by rw [List.length_set]; exact Nat.le_refl _, fun j hj hn => List.getElem?_set_ne (fun e => hn (by rw [← e]; exact h))⟩
theorem sm_app {hs : List Nat} {G r : Sto} : Sm hs G (G ++ r) := ⟨by rw [List.length_append]; omega, fun j hj hn => List.getElem?_append_left hj⟩
theorem set_at {G : Sto} {i : Nat} {o o' : MO} (e : G[i]? = some o) : (G.set i o')[i]? = some o' := List.getElem?_set_self (lt_get e)
/-- the deck -/
structure Dk (hd hc : Nat) (G : Sto) : Prop where
  ne : hd ≠ hc
  ex : ∃ (cs : List Int) (m t : Int), G[hd]? = some (.dct [(.inr "cells", .ref hc), (.inr "mixed", .int m), (.inr "draws", .int t)]) ∧ G[hc]? = some (.lst (cs.map Dv.int)) ∧ cs.length ≤ 63
theorem Dk.sm {hd hc : Nat} {hs : List Nat} {G G' : Sto} (d : Dk hd hc G) (s : Sm hs G G') (h1 : hd ∉ hs) (h2 : hc ∉ hs) : Dk hd hc G' := by
  obtain ⟨cs, m, t, e1, e2, e3⟩ := d.ex
  exact ⟨d.ne, cs, m, t, s.get h1 e1, s.get h2 e2, e3⟩
theorem intsOf_map (cs : List Int) : Mi.intsOf (cs.map Dv.int) = some cs := by
  induction cs with
  | nil => rfl
  | cons c cs ih => rw [List.map_cons]; unfold Mi.intsOf; rw [ih]; rfl
theorem p10 : (Int.natAbs 10 < 2 ^ 64) = True := by decide
theorem draw_ok {hd hc : Nat} {G : Sto} (d : Dk hd hc G) (n : Int) (h1 : 0 < n) (h2 : n < 1073741824) :
    ∃ r G', m_law_draw [.ref hd, .int n] G = some (.int r, G') ∧ 0 ≤ r ∧ r < n ∧ Dk hd hc G' ∧ Sm [hd, hc] G G' ∧ G'.length = G.length := by
  obtain ⟨cs, m, t, e1, e2, e3⟩ := d.ex
  have ne := d.ne
  have ne' : hc ≠ hd := fun z => ne z.symm
  have sq : ∀ (x : Int) G, Mi.bMul false (.int (x % 2147483647)) (.int (x % 2147483647)) G = some (.int (x % 2147483647 * (x % 2147483647)), G) := fun x G => bMul_small false _ _ G (by omega)
  have fin : ∀ (x : Int), 0 ≤ x % n ∧ x % n < n := fun x => ⟨Int.emod_nonneg _ (by omega), Int.emod_lt_of_pos _ h1⟩
  rcases List.eq_nil_or_concat cs with rfl | ⟨cs', c, rfl⟩
  · simp only [Mi.bnd, Mi.mVar, Mi.mC, Mi.mkL, Mi.m2, Mi.m1, Mi.uNeg, Mi.bAdd, Mi.bSub, Mi.bDiv, Mi.bMod, Mi.bPow, Mi.sEq, Mi.bEq, Mi.bCmp, Mi.bLt, Mi.bLe, Mi.bGt, Mi.bGe, Mi.isNon, Mi.mIsN, Mi.mChain, Mi.mAnd, Mi.mOr, Mi.mNot, Mi.mTb, Mi.mTand, Mi.mTor, Mi.mTnot, Mi.mIf, Mi.mNil, Mi.mCons, Mi.mTup, Mi.mLst, Mi.mB, Mi.kOf, Mi.mFld, Mi.mCall, Mi.mCallK, Mi.mMeth, Mi.mMethK, Mi.mDef, Mi.fInt, Mi.fMax, Mi.fMin, Mi.isI, Mi.mIsI, Ms.mIsC, Mi.gNm, Mi.gNil, Mi.gCons, Mi.gTup, Mi.mSeq, Mi.mSkip, Mi.mBrk, Mi.mCont, Mi.mAsg, Mi.mPar, Mi.mExpr, Mi.mRet, Mi.mRetN, Mi.mIfS, Mi.tYes, Mi.wipe, Ms.mDct0, Ms.bAddI, List.map_cons, List.map_nil, List.nil_append, List.cons_append, List.length_cons, List.length_nil, List.replicate_succ, List.replicate_zero, List.getElem?_cons_zero, List.getElem?_cons_succ, List.getElem?_nil, List.set_cons_zero, List.set_cons_succ, Option.map_some, Option.map_none, if_true, if_false, reduceIte, decide_true, decide_false, Nat.reduceAdd, Nat.reduceLeDiff, List.mem_cons, List.mem_singleton, true_or, or_true, true_and, and_true, bne_self_eq_false, Bool.not_true, Bool.not_false, reduceCtorEq, Nat.reduceEqDiff, beq_self_eq_true, Nat.reduceLT, Int.reduceLT, Int.reduceLE, Int.reduceToNat, Int.reduceAdd, Int.reduceSub, Int.reduceMul, Int.reduceNeg, String.reduceEq, String.reduceBEq, List.lookup_cons, List.lookup_nil, Mi.big, Mi.putF, List.length_append, List.append_assoc, ite_true, ite_false, Bool.false_eq_true, and_self, not_true_eq_false, not_false_eq_true, Sum.inr.injEq, Sum.inl.injEq, Mi.look, Mi.put, List.any_cons, List.any_nil, Bool.or_true, Bool.or_false, Bool.true_or, Bool.false_or, List.find?_cons, Option.getD_some, Option.getD_none, Bool.bne_false, Bool.false_bne, Bool.true_bne, Bool.bne_true, Int.reduceEq, Int.reducePow, m_law_draw, b_law_draw, Mi.mSetK, Mi.bSubs, Mi.bGet, e1, e2, set_at e1, bMul_small, bMul_small', sq, List.length_set, Mi.qEq, Mi.lstOf, List.getElem?_set_ne ne, List.getElem?_set_ne ne', Mi.intsOf, Int.reducePow, h1]
    have e1' := set_at (o' := .dct [(.inr "cells", .ref hc), (.inr "mixed", .int m), (.inr "draws", .int (t + 1))]) e1
    refine ⟨_, _, rfl, (fin _).1, (fin _).2, ⟨ne, [], m, t + 1, e1', ?_, e3⟩, sm_set (by simp), List.length_set⟩
    rw [List.getElem?_set_ne ne]
    exact e2
  · rw [List.concat_eq_append, List.map_append, List.map_cons, List.map_nil] at e2
    rw [List.concat_eq_append, List.length_append] at e3
    have q1 : Mi.intsOf (cs'.map Dv.int ++ [Dv.int c]) = some (cs' ++ [c]) := by
      have := intsOf_map (cs' ++ [c])
      rw [List.map_append] at this
      exact this
    have q2 : decide (cs' ++ [c] = []) = false := by simp
    have q3 : (cs'.map Dv.int ++ [Dv.int c]).getLast? = some (.int c) := by simp
    have q4 : (cs'.map Dv.int ++ [Dv.int c]).dropLast = cs'.map Dv.int := by simp
    have q5 : 0 < (if n > 2 then n else 2) ∧ (if n > 2 then n else 2) < 1073741824 := by split <;> omega
    have q6 : (cs'.map Dv.int).length < 16777216 := by rw [List.length_map]; omega
    have sh := set_at (o' := .lst (cs'.map Dv.int)) e2
    have e1' := set_at (o' := .dct [(.inr "cells", .ref hc), (.inr "mixed", .int m), (.inr "draws", .int (t + 1))]) e1
    have e2' : (G.set hd (.dct [(.inr "cells", .ref hc), (.inr "mixed", .int m), (.inr "draws", .int (t + 1))]))[hc]? = some (.lst (cs'.map Dv.int ++ [.int c])) := by rw [List.getElem?_set_ne ne]; exact e2
    have e3' := set_at (o' := .lst (cs'.map Dv.int)) e2'
    have e4' : ((G.set hd (.dct [(.inr "cells", .ref hc), (.inr "mixed", .int m), (.inr "draws", .int (t + 1))])).set hc (.lst (cs'.map Dv.int)))[hd]? = some (.dct [(.inr "cells", .ref hc), (.inr "mixed", .int m), (.inr "draws", .int (t + 1))]) := by rw [List.getElem?_set_ne ne']; exact e1'
    by_cases hc18 : 1000000000000000000 ≤ c
    · simp only [Mi.bnd, Mi.mVar, Mi.mC, Mi.mkL, Mi.m2, Mi.m1, Mi.uNeg, Mi.bAdd, Mi.bSub, Mi.bDiv, Mi.bMod, Mi.bPow, Mi.sEq, Mi.bEq, Mi.bCmp, Mi.bLt, Mi.bLe, Mi.bGt, Mi.bGe, Mi.isNon, Mi.mIsN, Mi.mChain, Mi.mAnd, Mi.mOr, Mi.mNot, Mi.mTb, Mi.mTand, Mi.mTor, Mi.mTnot, Mi.mIf, Mi.mNil, Mi.mCons, Mi.mTup, Mi.mLst, Mi.mB, Mi.kOf, Mi.mFld, Mi.mCall, Mi.mCallK, Mi.mMeth, Mi.mMethK, Mi.mDef, Mi.fInt, Mi.fMax, Mi.fMin, Mi.isI, Mi.mIsI, Ms.mIsC, Mi.gNm, Mi.gNil, Mi.gCons, Mi.gTup, Mi.mSeq, Mi.mSkip, Mi.mBrk, Mi.mCont, Mi.mAsg, Mi.mPar, Mi.mExpr, Mi.mRet, Mi.mRetN, Mi.mIfS, Mi.tYes, Mi.wipe, Ms.mDct0, Ms.bAddI, List.map_cons, List.map_nil, List.nil_append, List.cons_append, List.length_cons, List.length_nil, List.replicate_succ, List.replicate_zero, List.getElem?_cons_zero, List.getElem?_cons_succ, List.getElem?_nil, List.set_cons_zero, List.set_cons_succ, Option.map_some, Option.map_none, if_true, if_false, reduceIte, decide_true, decide_false, Nat.reduceAdd, Nat.reduceLeDiff, List.mem_cons, List.mem_singleton, true_or, or_true, true_and, and_true, bne_self_eq_false, Bool.not_true, Bool.not_false, reduceCtorEq, Nat.reduceEqDiff, beq_self_eq_true, Nat.reduceLT, Int.reduceLT, Int.reduceLE, Int.reduceToNat, Int.reduceAdd, Int.reduceSub, Int.reduceMul, Int.reduceNeg, String.reduceEq, String.reduceBEq, List.lookup_cons, List.lookup_nil, Mi.big, Mi.putF, List.length_append, List.append_assoc, ite_true, ite_false, Bool.false_eq_true, and_self, not_true_eq_false, not_false_eq_true, Sum.inr.injEq, Sum.inl.injEq, Mi.look, Mi.put, List.any_cons, List.any_nil, Bool.or_true, Bool.or_false, Bool.true_or, Bool.false_or, List.find?_cons, Option.getD_some, Option.getD_none, Bool.bne_false, Bool.false_bne, Bool.true_bne, Bool.bne_true, Int.reduceEq, Int.reducePow, m_law_draw, b_law_draw, Mi.mSetK, Mi.bSubs, Mi.bGet, e1, e1', e2', e3', e4', bMul_small, bMul_small', Mi.qEq, Mi.lstOf, Mi.intsOf, Int.reducePow, h1, Mi.mPop, Mi.mAppend, q1, q2, q3, q4, q5, q6, hc18, Bool.false_bne, p10]
      refine ⟨_, _, rfl, (fin _).1, (fin _).2, ⟨ne, cs' ++ [c / (if n > 2 then n else 2)], m, t + 1, ?_, ?_, ?_⟩, ((sm_set (by simp)).trans (sm_set (by simp))).trans (sm_set (by simp)), by simp only [List.length_set]⟩
      · rw [List.getElem?_set_ne ne']
        exact e4'
      · rw [List.map_append]
        exact set_at e3'
      · rw [List.length_append]
        exact e3
    · simp only [Mi.bnd, Mi.mVar, Mi.mC, Mi.mkL, Mi.m2, Mi.m1, Mi.uNeg, Mi.bAdd, Mi.bSub, Mi.bDiv, Mi.bMod, Mi.bPow, Mi.sEq, Mi.bEq, Mi.bCmp, Mi.bLt, Mi.bLe, Mi.bGt, Mi.bGe, Mi.isNon, Mi.mIsN, Mi.mChain, Mi.mAnd, Mi.mOr, Mi.mNot, Mi.mTb, Mi.mTand, Mi.mTor, Mi.mTnot, Mi.mIf, Mi.mNil, Mi.mCons, Mi.mTup, Mi.mLst, Mi.mB, Mi.kOf, Mi.mFld, Mi.mCall, Mi.mCallK, Mi.mMeth, Mi.mMethK, Mi.mDef, Mi.fInt, Mi.fMax, Mi.fMin, Mi.isI, Mi.mIsI, Ms.mIsC, Mi.gNm, Mi.gNil, Mi.gCons, Mi.gTup, Mi.mSeq, Mi.mSkip, Mi.mBrk, Mi.mCont, Mi.mAsg, Mi.mPar, Mi.mExpr, Mi.mRet, Mi.mRetN, Mi.mIfS, Mi.tYes, Mi.wipe, Ms.mDct0, Ms.bAddI, List.map_cons, List.map_nil, List.nil_append, List.cons_append, List.length_cons, List.length_nil, List.replicate_succ, List.replicate_zero, List.getElem?_cons_zero, List.getElem?_cons_succ, List.getElem?_nil, List.set_cons_zero, List.set_cons_succ, Option.map_some, Option.map_none, if_true, if_false, reduceIte, decide_true, decide_false, Nat.reduceAdd, Nat.reduceLeDiff, List.mem_cons, List.mem_singleton, true_or, or_true, true_and, and_true, bne_self_eq_false, Bool.not_true, Bool.not_false, reduceCtorEq, Nat.reduceEqDiff, beq_self_eq_true, Nat.reduceLT, Int.reduceLT, Int.reduceLE, Int.reduceToNat, Int.reduceAdd, Int.reduceSub, Int.reduceMul, Int.reduceNeg, String.reduceEq, String.reduceBEq, List.lookup_cons, List.lookup_nil, Mi.big, Mi.putF, List.length_append, List.append_assoc, ite_true, ite_false, Bool.false_eq_true, and_self, not_true_eq_false, not_false_eq_true, Sum.inr.injEq, Sum.inl.injEq, Mi.look, Mi.put, List.any_cons, List.any_nil, Bool.or_true, Bool.or_false, Bool.true_or, Bool.false_or, List.find?_cons, Option.getD_some, Option.getD_none, Bool.bne_false, Bool.false_bne, Bool.true_bne, Bool.bne_true, Int.reduceEq, Int.reducePow, m_law_draw, b_law_draw, Mi.mSetK, Mi.bSubs, Mi.bGet, e1, e1', e2', e3', e4', bMul_small, bMul_small', sq, Mi.qEq, Mi.lstOf, Mi.intsOf, Int.reducePow, h1, Mi.mPop, Mi.mAppend, q1, q2, q3, q4, q5, q6, hc18, Bool.false_bne, p10]
      refine ⟨_, _, rfl, (fin _).1, (fin _).2, ⟨ne, cs', m, t + 1, e4', e3', by omega⟩, (sm_set (by simp)).trans (sm_set (by simp)), by simp only [List.length_set]⟩
end Lw

namespace Lw
open Mi (Dv MO Sto Sl Rs bnd ME MT MA MS MF Fl MG MGs MI)
theorem loop_inv {g : MG} {b : MS} {st : Sto → Prop} (P : List Dv → Sl → Sto → Prop)
    (h : ∀ d ds δ G, P (d :: ds) δ G → st G ∧ ∃ δ1 G1, g d δ G = some (δ1, G1) ∧ ∃ δ2 G2, b δ1 G1 = some (.nx, δ2, G2) ∧ P ds δ2 G2) (hn : ∀ δ G, P [] δ G → st G) :
    ∀ ds δ G, P ds δ G → ∃ δ' G', Mi.mLoop g b st ds δ G = some (.nx, δ', G') ∧ P [] δ' G'
  | [], δ, G, p => ⟨δ, G, by unfold Mi.mLoop; rw [if_pos (hn _ _ p)], p⟩
  | d :: ds, δ, G, p => by
    obtain ⟨hs, δ1, G1, e1, δ2, G2, e2, q⟩ := h d ds δ G p
    obtain ⟨δ', G', e3, q'⟩ := loop_inv P h hn ds δ2 G2 q
    refine ⟨δ', G', ?_, q'⟩
    unfold Mi.mLoop
    rw [if_pos hs, e1]
    dsimp only
    rw [e2]
    exact e3
theorem lc_inv {g : MG} {t : MT} {e : ME} {st : Sto → Prop} {δ : Sl} (P : List Dv → List Dv → Sto → Prop)
    (h : ∀ d ds acc G, P (d :: ds) acc G → st G ∧ acc.length < Mi.big ∧ ∃ δ1 G1, g d δ G = some (δ1, G1) ∧ ∃ G2, t δ1 G1 = some (true, G2) ∧ ∃ y G3, e δ1 G2 = some (y, G3) ∧ P ds (acc ++ [y]) G3) (hn : ∀ acc G, P [] acc G → st G) :
    ∀ ds acc G, P ds acc G → ∃ acc' G', Mi.mLcLoop g t e st δ ds acc G = some (acc', G') ∧ P [] acc' G'
  | [], acc, G, p => ⟨acc, G, by unfold Mi.mLcLoop; rw [if_pos (hn _ _ p)], p⟩
  | d :: ds, acc, G, p => by
    obtain ⟨hs, hb, δ1, G1, e1, G2, e2, y, G3, e3, q⟩ := h d ds acc G p
    obtain ⟨acc', G', e4, q'⟩ := lc_inv P h hn ds _ G3 q
    refine ⟨acc', G', ?_, q'⟩
    unfold Mi.mLcLoop
    rw [if_pos ⟨hs, hb⟩, e1]
    dsimp only
    rw [e2]
    dsimp only
    rw [e3]
    exact e4
/-- a comprehension whose items change nothing -/
theorem lc_map {i : Nat} {e : ME} {st : Sto → Prop} {δ : Sl} {f : Dv → Dv} {G : Sto} (hs : st G) : ∀ (ds acc : List Dv), (∀ d ∈ ds, e (δ.set i (some d)) G = some (f d, G)) → acc.length + ds.length ≤ Mi.big →
    Mi.mLcLoop (Mi.gNm i) Mi.tYes e st δ ds acc G = some (acc ++ ds.map f, G)
  | [], acc, _, _ => by unfold Mi.mLcLoop; rw [if_pos hs]; simp
  | d :: ds, acc, he, hb => by
    have h1 : acc.length < Mi.big := by rw [List.length_cons] at hb; omega
    unfold Mi.mLcLoop
    rw [if_pos ⟨hs, h1⟩]
    simp only [Mi.gNm, Mi.tYes]
    rw [he d (List.mem_cons_self ..)]
    dsimp only
    rw [lc_map hs ds (acc ++ [f d]) (fun x hx => he x (List.mem_cons_of_mem _ hx)) (by rw [List.length_append]; simp at hb ⊢; omega)]
    simp
/-- a draw's step -/
structure Dr (hd hc : Nat) (G G' : Sto) : Prop where
  d : Dk hd hc G'
  s : Sm [hd, hc] G G'
  l : G'.length = G.length
theorem Dr.trans {hd hc : Nat} {G G1 G2 : Sto} (a : Dr hd hc G G1) (b : Dr hd hc G1 G2) : Dr hd hc G G2 := ⟨b.d, a.s.trans b.s, b.l.trans a.l⟩
theorem draw {hd hc : Nat} {G : Sto} (d : Dk hd hc G) (n : Int) (h1 : 0 < n) (h2 : n < 1073741824) : ∃ r G', m_law_draw [.ref hd, .int n] G = some (.int r, G') ∧ 0 ≤ r ∧ r < n ∧ Dr hd hc G G' := by
  obtain ⟨r, G', e, a, b, c, s, l⟩ := draw_ok d n h1 h2
  exact ⟨r, G', e, a, b, c, s, l⟩
theorem atI_ok {α : Type} (xs : List α) (r : Int) (h1 : 0 ≤ r) (h2 : r < xs.length) : ∃ x, Mi.atI xs r = some x ∧ x ∈ xs := by
  obtain ⟨k, rfl⟩ := Int.eq_ofNat_of_zero_le h1
  have hk : k < xs.length := by exact_mod_cast h2
  refine ⟨xs[k], ?_, List.getElem_mem hk⟩
  unfold Mi.atI Mi.ixN
  rw [if_pos h1, if_pos h2]
  simp [hk]
theorem pick {hd hc : Nat} {G : Sto} (d : Dk hd hc G) (xs : List Dv) (h1 : xs ≠ []) (h2 : xs.length < 1000000) : ∃ x G', m_law_pick [.ref hd, .fls xs] G = some (x, G') ∧ x ∈ xs ∧ Dr hd hc G G' := by
  have hp : 0 < xs.length := List.length_pos_iff.mpr h1
  obtain ⟨r, G', e, a, b, c⟩ := draw d xs.length (by omega) (by omega)
  obtain ⟨x, ex, hx⟩ := atI_ok xs r a b
  refine ⟨x, G', ?_, hx, c⟩
  simp only [Mi.bnd, Mi.mVar, Mi.mC, Mi.mkL, Mi.m2, Mi.m1, Mi.uNeg, Mi.bAdd, Mi.bSub, Mi.bDiv, Mi.bMod, Mi.bPow, Mi.sEq, Mi.bEq, Mi.bCmp, Mi.bLt, Mi.bLe, Mi.bGt, Mi.bGe, Mi.isNon, Mi.mIsN, Mi.mChain, Mi.mAnd, Mi.mOr, Mi.mNot, Mi.mTb, Mi.mTand, Mi.mTor, Mi.mTnot, Mi.mIf, Mi.mNil, Mi.mCons, Mi.mTup, Mi.mLst, Mi.mB, Mi.kOf, Mi.mFld, Mi.mCall, Mi.mCallK, Mi.mMeth, Mi.mMethK, Mi.mDef, Mi.fInt, Mi.fMax, Mi.fMin, Mi.isI, Mi.mIsI, Ms.mIsC, Mi.gNm, Mi.gNil, Mi.gCons, Mi.gTup, Mi.mSeq, Mi.mSkip, Mi.mBrk, Mi.mCont, Mi.mAsg, Mi.mPar, Mi.mExpr, Mi.mRet, Mi.mRetN, Mi.mIfS, Mi.tYes, Mi.wipe, Ms.mDct0, Ms.bAddI, List.map_cons, List.map_nil, List.nil_append, List.cons_append, List.length_cons, List.length_nil, List.replicate_succ, List.replicate_zero, List.getElem?_cons_zero, List.getElem?_cons_succ, List.getElem?_nil, List.set_cons_zero, List.set_cons_succ, Option.map_some, Option.map_none, if_true, if_false, reduceIte, decide_true, decide_false, Nat.reduceAdd, Nat.reduceLeDiff, List.mem_cons, List.mem_singleton, true_or, or_true, true_and, and_true, bne_self_eq_false, Bool.not_true, Bool.not_false, reduceCtorEq, Nat.reduceEqDiff, beq_self_eq_true, Nat.reduceLT, Int.reduceLT, Int.reduceLE, Int.reduceToNat, Int.reduceAdd, Int.reduceSub, Int.reduceMul, Int.reduceNeg, String.reduceEq, String.reduceBEq, List.lookup_cons, List.lookup_nil, Mi.big, Mi.putF, List.length_append, List.append_assoc, ite_true, ite_false, Bool.false_eq_true, and_self, not_true_eq_false, not_false_eq_true, Sum.inr.injEq, Sum.inl.injEq, Mi.look, Mi.put, List.any_cons, List.any_nil, Bool.or_true, Bool.or_false, Bool.true_or, Bool.false_or, List.find?_cons, Option.getD_some, Option.getD_none, Bool.bne_false, Bool.false_bne, Bool.true_bne, Bool.bne_true, Int.reduceEq, Int.reducePow, m_law_pick, b_law_pick, Mi.fLen, Mi.lstOf, e, Mi.bSubs, Mi.bGet, Mi.bIx, Mi.seqOf, ex]
end Lw


namespace Lw
open Mi (Dv MO Sto Sl Rs bnd ME MT MA MS MF Fl MG MGs MI)
theorem lc_draw {hd hc i : Nat} {e : ME} {δ : Sl} {G : Sto} (d0 : Dk hd hc G) (ds : List Dv) (he : ∀ d ∈ ds, ∀ G, Dk hd hc G → ∃ y G', e (δ.set i (some d)) G = some (.int y, G') ∧ (0 ≤ y ∧ y ≤ 1000000000) ∧ Dr hd hc G G') (hb : ds.length < 1000) :
    ∃ (ws : List Int) (G' : Sto), Mi.mLcLoop (Mi.gNm i) Mi.tYes e (fun _ => True) δ ds [] G = some (ws.map Dv.int, G') ∧ ws.length = ds.length ∧ (∀ w ∈ ws, 0 ≤ w ∧ w ≤ 1000000000) ∧ Dr hd hc G G' := by
  obtain ⟨acc, G', e1, ws, rfl, hl, hw, hr⟩ := lc_inv (g := Mi.gNm i) (t := Mi.tYes) (e := e) (st := fun _ => True) (δ := δ)
    (P := fun r acc G' => (∃ ws : List Int, acc = ws.map Dv.int ∧ ws.length + r.length = ds.length ∧ (∀ w ∈ ws, 0 ≤ w ∧ w ≤ 1000000000) ∧ Dr hd hc G G' ∧ ∀ d ∈ r, d ∈ ds))
    (fun d r acc G1 ⟨ws, ea, hl, hw, hr, hm⟩ => by
      obtain ⟨y, G2, e2, hy, r2⟩ := he d (hm d (List.mem_cons_self ..)) G1 hr.d
      refine ⟨trivial, ?_, _, _, rfl, _, rfl, _, _, e2, ws ++ [y], ?_, ?_, ?_, hr.trans r2, fun x hx => hm x (List.mem_cons_of_mem _ hx)⟩
      · rw [ea, List.length_map]
        rw [List.length_cons] at hl
        show ws.length < 16777216
        omega
      · rw [ea, List.map_append]; rfl
      · rw [List.length_append]
        rw [List.length_cons] at hl
        simp
        omega
      · intro w hw'
        rcases List.mem_append.mp hw' with q | q
        · exact hw w q
        · obtain rfl : w = y := by simpa using q
          exact hy)
    (fun _ _ _ => trivial) ds [] G ⟨[], rfl, by simp, by simp, ⟨d0, Sm.refl, rfl⟩, fun d h => h⟩
  exact ⟨ws, G', e1, by simpa using hl, hw, hr.1⟩
def Blk (ws : List Int) : Prop := ws.length = 32 ∧ ∀ w ∈ ws, 0 ≤ w ∧ w ≤ 1000000000
theorem rng_len (n : Nat) : (Mi.rng 0 n).length = n := by simp [Mi.rng]
theorem rng_mem {n : Nat} {d : Dv} (h : d ∈ Mi.rng 0 n) : ∃ k : Nat, k < n ∧ d = .int k := by
  unfold Mi.rng at h
  obtain ⟨k, hk, rfl⟩ := List.mem_map.mp h
  rw [List.mem_range] at hk
  exact ⟨k, by omega, by simp⟩
end Lw

namespace Lw
open Mi (Dv MO Sto Sl Rs bnd ME MT MA MS MF Fl MG MGs MI)
/-! ### the deck at the start: list(script[:63])[::-1] -/
theorem cut63 (ns : List Int) (h : ns.length ≤ 63) : Mi.cut (ns.map Dv.int) none (some 63) = ns.map Dv.int := by
  show ((ns.map Dv.int).drop 0).take (min 63 (ns.map Dv.int).length - 0) = _
  rw [List.drop_zero, List.take_of_length_le]
  rw [List.length_map]
  omega
theorem deck_ok (ns : List Int) (h : ns.length ≤ 63) : ∃ hd hc G, m_law_deck [.scr ns] [] = some (.ref hd, G) ∧ Dk hd hc G := by
  have c := cut63 ns h
  have lp := loop_inv (g := Mi.gNm 2) (b := qb_law_deck_1) (st := fun _ => True) (fun r δ G => (∃ m x, δ = [some (.scr ns), some (.int m), x]) ∧ (∀ d ∈ r, ∃ i, d = .int i) ∧ G = [])
    (fun d ds δ G ⟨⟨m, x, ed⟩, hi, eG⟩ => by
      subst ed eG
      obtain ⟨i, rfl⟩ := hi d (List.mem_cons_self ..)
      refine ⟨trivial, _, _, rfl, ?_⟩
      refine ⟨[some (.scr ns), some (.int ((m * 48271 + i % 2147483629 + 103) % 2147483587)), some (.int i)], [], ?_, ⟨_, _, rfl⟩, fun d hd => hi d (List.mem_cons_of_mem _ hd), rfl⟩
      simp only [Mi.bnd, Mi.mVar, Mi.mC, Mi.mkL, Mi.m2, Mi.m1, Mi.uNeg, Mi.bAdd, Mi.bSub, Mi.bDiv, Mi.bMod, Mi.bPow, Mi.sEq, Mi.bEq, Mi.bCmp, Mi.bLt, Mi.bLe, Mi.bGt, Mi.bGe, Mi.isNon, Mi.mIsN, Mi.mChain, Mi.mAnd, Mi.mOr, Mi.mNot, Mi.mTb, Mi.mTand, Mi.mTor, Mi.mTnot, Mi.mIf, Mi.mNil, Mi.mCons, Mi.mTup, Mi.mLst, Mi.mB, Mi.kOf, Mi.mFld, Mi.mCall, Mi.mCallK, Mi.mMeth, Mi.mMethK, Mi.mDef, Mi.fInt, Mi.fMax, Mi.fMin, Mi.isI, Mi.mIsI, Ms.mIsC, Mi.gNm, Mi.gNil, Mi.gCons, Mi.gTup, Mi.mSeq, Mi.mSkip, Mi.mBrk, Mi.mCont, Mi.mAsg, Mi.mPar, Mi.mExpr, Mi.mRet, Mi.mRetN, Mi.mIfS, Mi.tYes, Mi.wipe, Ms.mDct0, Ms.bAddI, List.map_cons, List.map_nil, List.nil_append, List.cons_append, List.length_cons, List.length_nil, List.replicate_succ, List.replicate_zero, List.getElem?_cons_zero, List.getElem?_cons_succ, List.getElem?_nil, List.set_cons_zero, List.set_cons_succ, Option.map_some, Option.map_none, if_true, if_false, reduceIte, decide_true, decide_false, Nat.reduceAdd, Nat.reduceLeDiff, List.mem_cons, List.mem_singleton, true_or, or_true, true_and, and_true, bne_self_eq_false, Bool.not_true, Bool.not_false, reduceCtorEq, Nat.reduceEqDiff, beq_self_eq_true, Nat.reduceLT, Int.reduceLT, Int.reduceLE, Int.reduceToNat, Int.reduceAdd, Int.reduceSub, Int.reduceMul, Int.reduceNeg, String.reduceEq, String.reduceBEq, List.lookup_cons, List.lookup_nil, Mi.big, Mi.putF, List.length_append, List.append_assoc, ite_true, ite_false, Bool.false_eq_true, and_self, not_true_eq_false, not_false_eq_true, Sum.inr.injEq, Sum.inl.injEq, Mi.look, Mi.put, List.any_cons, List.any_nil, Bool.or_true, Bool.or_false, Bool.true_or, Bool.false_or, List.find?_cons, Option.getD_some, Option.getD_none, Bool.bne_false, Bool.false_bne, Bool.true_bne, Bool.bne_true, Int.reduceEq, Int.reducePow, qb_law_deck_1, bMul_small])
    (fun _ _ _ => trivial) (ns.map Dv.int) [some (.scr ns), some (.int 13746022), none] [] ⟨⟨_, _, rfl⟩, fun d hd => by obtain ⟨i, _, rfl⟩ := List.mem_map.mp hd; exact ⟨i, rfl⟩, rfl⟩
  obtain ⟨δ', G', e1, ⟨m, x, rfl⟩, _, rfl⟩ := lp
  have e4 : qf_law_deck_1 [some (.scr ns), some (.int 13746022), none] [] = some (.nx, [some (.scr ns), some (.int m), x], []) := by
    unfold qf_law_deck_1 qi_law_deck_1 Mi.mFor
    simp only [Mi.bnd, Mi.mVar, Mi.mC, Mi.mkL, Mi.m2, Mi.m1, Mi.uNeg, Mi.bAdd, Mi.bSub, Mi.bDiv, Mi.bMod, Mi.bPow, Mi.sEq, Mi.bEq, Mi.bCmp, Mi.bLt, Mi.bLe, Mi.bGt, Mi.bGe, Mi.isNon, Mi.mIsN, Mi.mChain, Mi.mAnd, Mi.mOr, Mi.mNot, Mi.mTb, Mi.mTand, Mi.mTor, Mi.mTnot, Mi.mIf, Mi.mNil, Mi.mCons, Mi.mTup, Mi.mLst, Mi.mB, Mi.kOf, Mi.mFld, Mi.mCall, Mi.mCallK, Mi.mMeth, Mi.mMethK, Mi.mDef, Mi.fInt, Mi.fMax, Mi.fMin, Mi.isI, Mi.mIsI, Ms.mIsC, Mi.gNm, Mi.gNil, Mi.gCons, Mi.gTup, Mi.mSeq, Mi.mSkip, Mi.mBrk, Mi.mCont, Mi.mAsg, Mi.mPar, Mi.mExpr, Mi.mRet, Mi.mRetN, Mi.mIfS, Mi.tYes, Mi.wipe, Ms.mDct0, Ms.bAddI, List.map_cons, List.map_nil, List.nil_append, List.cons_append, List.length_cons, List.length_nil, List.replicate_succ, List.replicate_zero, List.getElem?_cons_zero, List.getElem?_cons_succ, List.getElem?_nil, List.set_cons_zero, List.set_cons_succ, Option.map_some, Option.map_none, if_true, if_false, reduceIte, decide_true, decide_false, Nat.reduceAdd, Nat.reduceLeDiff, List.mem_cons, List.mem_singleton, true_or, or_true, true_and, and_true, bne_self_eq_false, Bool.not_true, Bool.not_false, reduceCtorEq, Nat.reduceEqDiff, beq_self_eq_true, Nat.reduceLT, Int.reduceLT, Int.reduceLE, Int.reduceToNat, Int.reduceAdd, Int.reduceSub, Int.reduceMul, Int.reduceNeg, String.reduceEq, String.reduceBEq, List.lookup_cons, List.lookup_nil, Mi.big, Mi.putF, List.length_append, List.append_assoc, ite_true, ite_false, Bool.false_eq_true, and_self, not_true_eq_false, not_false_eq_true, Sum.inr.injEq, Sum.inl.injEq, Mi.look, Mi.put, List.any_cons, List.any_nil, Bool.or_true, Bool.or_false, Bool.true_or, Bool.false_or, List.find?_cons, Option.getD_some, Option.getD_none, Bool.bne_false, Bool.false_bne, Bool.true_bne, Bool.bne_true, Int.reduceEq, Int.reducePow, Mi.iSeq, Mi.mSlice, Mi.mO, Mi.lstOf, Mi.seqOf, c, e1]
  refine ⟨0, 1, [.dct [(.inr "cells", .ref 1), (.inr "mixed", .int m), (.inr "draws", .int 0)], .lst (ns.map Dv.int).reverse], ?_, by omega, ns.reverse, m, 0, rfl, by rw [List.map_reverse]; rfl, by rw [List.length_reverse]; exact h⟩
  simp only [Mi.bnd, Mi.mVar, Mi.mC, Mi.mkL, Mi.m2, Mi.m1, Mi.uNeg, Mi.bAdd, Mi.bSub, Mi.bDiv, Mi.bMod, Mi.bPow, Mi.sEq, Mi.bEq, Mi.bCmp, Mi.bLt, Mi.bLe, Mi.bGt, Mi.bGe, Mi.isNon, Mi.mIsN, Mi.mChain, Mi.mAnd, Mi.mOr, Mi.mNot, Mi.mTb, Mi.mTand, Mi.mTor, Mi.mTnot, Mi.mIf, Mi.mNil, Mi.mCons, Mi.mTup, Mi.mLst, Mi.mB, Mi.kOf, Mi.mFld, Mi.mCall, Mi.mCallK, Mi.mMeth, Mi.mMethK, Mi.mDef, Mi.fInt, Mi.fMax, Mi.fMin, Mi.isI, Mi.mIsI, Ms.mIsC, Mi.gNm, Mi.gNil, Mi.gCons, Mi.gTup, Mi.mSeq, Mi.mSkip, Mi.mBrk, Mi.mCont, Mi.mAsg, Mi.mPar, Mi.mExpr, Mi.mRet, Mi.mRetN, Mi.mIfS, Mi.tYes, Mi.wipe, Ms.mDct0, Ms.bAddI, List.map_cons, List.map_nil, List.nil_append, List.cons_append, List.length_cons, List.length_nil, List.replicate_succ, List.replicate_zero, List.getElem?_cons_zero, List.getElem?_cons_succ, List.getElem?_nil, List.set_cons_zero, List.set_cons_succ, Option.map_some, Option.map_none, if_true, if_false, reduceIte, decide_true, decide_false, Nat.reduceAdd, Nat.reduceLeDiff, List.mem_cons, List.mem_singleton, true_or, or_true, true_and, and_true, bne_self_eq_false, Bool.not_true, Bool.not_false, reduceCtorEq, Nat.reduceEqDiff, beq_self_eq_true, Nat.reduceLT, Int.reduceLT, Int.reduceLE, Int.reduceToNat, Int.reduceAdd, Int.reduceSub, Int.reduceMul, Int.reduceNeg, String.reduceEq, String.reduceBEq, List.lookup_cons, List.lookup_nil, Mi.big, Mi.putF, List.length_append, List.append_assoc, ite_true, ite_false, Bool.false_eq_true, and_self, not_true_eq_false, not_false_eq_true, Sum.inr.injEq, Sum.inl.injEq, Mi.look, Mi.put, List.any_cons, List.any_nil, Bool.or_true, Bool.or_false, Bool.true_or, Bool.false_or, List.find?_cons, Option.getD_some, Option.getD_none, Bool.bne_false, Bool.false_bne, Bool.true_bne, Bool.bne_true, Int.reduceEq, Int.reducePow, m_law_deck, b_law_deck, e4, Mi.mDisp, Mi.mPairs, Mi.mRev, Mi.mSlice, Mi.mO, Mi.fList, Mi.lstOf, Mi.seqOf, c, List.foldl_cons, List.foldl_nil]

end Lw


namespace Lw
open Mi (Dv MO Sto Sl Rs bnd ME MT MA MS MF Fl MG MGs MI)
/-! ### a disk -/
structure Dsk (G : Sto) (h hb hq hn : Nat) (s k : Int) (bl qu : List Dv) (nw : List (Mi.Key × Dv)) : Prop where
  ob : G[h]? = some (.ins 0 (dfs s k hb hq hn .non))
  bl : G[hb]? = some (.lst bl)
  qu : G[hq]? = some (.lst qu)
  nw : G[hn]? = some (.dct nw)
  n1 : h ≠ hb
  n2 : h ≠ hq
  n3 : h ≠ hn
  n4 : hb ≠ hq
  n5 : hb ≠ hn
  n6 : hq ≠ hn
theorem Dsk.sm {G G' : Sto} {h hb hq hn : Nat} {s k : Int} {bl qu : List Dv} {nw : List (Mi.Key × Dv)} {hs : List Nat} (D : Dsk G h hb hq hn s k bl qu nw) (S : Sm hs G G') (m1 : h ∉ hs) (m2 : hb ∉ hs) (m3 : hq ∉ hs) (m4 : hn ∉ hs) : Dsk G' h hb hq hn s k bl qu nw :=
  ⟨S.get m1 D.ob, S.get m2 D.bl, S.get m3 D.qu, S.get m4 D.nw, D.n1, D.n2, D.n3, D.n4, D.n5, D.n6⟩
section
variable {G : Sto} {h hb hq hn : Nat} {s k : Int} {bl qu : List Dv} {nw : List (Mi.Key × Dv)}
theorem dsk_mk (s k : Int) (G : Sto) : Dsk (G ++ [.ins 0 (dfs s k (G.length + 1) (G.length + 2) (G.length + 3) .non), .lst (List.replicate (Many s k) d_BLANK), .lst [], .dct []]) G.length (G.length + 1) (G.length + 2) (G.length + 3) s k (List.replicate (Many s k) d_BLANK) [] [] :=
  ⟨get0 _ _ _, by rw [List.getElem?_append_right (by omega)]; simp, by rw [List.getElem?_append_right (by omega)]; simp, by rw [List.getElem?_append_right (by omega)]; simp, by omega, by omega, by omega, by omega, by omega, by omega⟩
theorem need_place_ok (D : Dsk G h hb hq hn s k bl qu nw) (p : Int) (h1 : 0 ≤ p) (h2 : p ≤ bl.length - 1) : m_Disk_need_place [.ref h, .int p] G = some (.non, G) := by
  simp only [Mi.bnd, Mi.mVar, Mi.mC, Mi.mkL, Mi.m2, Mi.m1, Mi.uNeg, Mi.bAdd, Mi.bSub, Mi.bDiv, Mi.bMod, Mi.bPow, Mi.sEq, Mi.bEq, Mi.bCmp, Mi.bLt, Mi.bLe, Mi.bGt, Mi.bGe, Mi.isNon, Mi.mIsN, Mi.mChain, Mi.mAnd, Mi.mOr, Mi.mNot, Mi.mTb, Mi.mTand, Mi.mTor, Mi.mTnot, Mi.mIf, Mi.mNil, Mi.mCons, Mi.mTup, Mi.mLst, Mi.mB, Mi.kOf, Mi.mFld, Mi.mCall, Mi.mCallK, Mi.mMeth, Mi.mMethK, Mi.mDef, Mi.fInt, Mi.fMax, Mi.fMin, Mi.isI, Mi.mIsI, Ms.mIsC, Mi.gNm, Mi.gNil, Mi.gCons, Mi.gTup, Mi.mSeq, Mi.mSkip, Mi.mBrk, Mi.mCont, Mi.mAsg, Mi.mPar, Mi.mExpr, Mi.mRet, Mi.mRetN, Mi.mIfS, Mi.tYes, Mi.wipe, Ms.mDct0, Ms.bAddI, List.map_cons, List.map_nil, List.nil_append, List.cons_append, List.length_cons, List.length_nil, List.replicate_succ, List.replicate_zero, List.getElem?_cons_zero, List.getElem?_cons_succ, List.getElem?_nil, List.set_cons_zero, List.set_cons_succ, Option.map_some, Option.map_none, if_true, if_false, reduceIte, decide_true, decide_false, Nat.reduceAdd, Nat.reduceLeDiff, List.mem_cons, List.mem_singleton, true_or, or_true, true_and, and_true, bne_self_eq_false, Bool.not_true, Bool.not_false, reduceCtorEq, Nat.reduceEqDiff, beq_self_eq_true, Nat.reduceLT, Int.reduceLT, Int.reduceLE, Int.reduceToNat, Int.reduceAdd, Int.reduceSub, Int.reduceMul, Int.reduceNeg, String.reduceEq, String.reduceBEq, List.lookup_cons, List.lookup_nil, Mi.big, Mi.putF, List.length_append, List.append_assoc, ite_true, ite_false, Bool.false_eq_true, and_self, not_true_eq_false, not_false_eq_true, Sum.inr.injEq, Sum.inl.injEq, Mi.look, Mi.put, List.any_cons, List.any_nil, Bool.or_true, Bool.or_false, Bool.true_or, Bool.false_or, List.find?_cons, Option.getD_some, Option.getD_none, Bool.bne_false, Bool.false_bne, Bool.true_bne, Bool.bne_true, Int.reduceEq, Int.reducePow, m_Disk_need_place, b_Disk_need_place, D.ob, dfs, Mi.fLen, Mi.lstOf, D.bl, is_between_int, h1, h2]
theorem read_ok (D : Dsk G h hb hq hn s k bl qu nw) (p : Int) (x : Dv) (h1 : 0 ≤ p) (h2 : p ≤ bl.length - 1) (hx : Mi.atI bl p = some x) : m_Disk_read [.ref h, .int p] G = some ((Mi.look nw (.inl p)).getD x, G) := by
  have e := need_place_ok D p h1 h2
  simp only [Mi.bnd, Mi.mVar, Mi.mC, Mi.mkL, Mi.m2, Mi.m1, Mi.uNeg, Mi.bAdd, Mi.bSub, Mi.bDiv, Mi.bMod, Mi.bPow, Mi.sEq, Mi.bEq, Mi.bCmp, Mi.bLt, Mi.bLe, Mi.bGt, Mi.bGe, Mi.isNon, Mi.mIsN, Mi.mChain, Mi.mAnd, Mi.mOr, Mi.mNot, Mi.mTb, Mi.mTand, Mi.mTor, Mi.mTnot, Mi.mIf, Mi.mNil, Mi.mCons, Mi.mTup, Mi.mLst, Mi.mB, Mi.kOf, Mi.mFld, Mi.mCall, Mi.mCallK, Mi.mMeth, Mi.mMethK, Mi.mDef, Mi.fInt, Mi.fMax, Mi.fMin, Mi.isI, Mi.mIsI, Ms.mIsC, Mi.gNm, Mi.gNil, Mi.gCons, Mi.gTup, Mi.mSeq, Mi.mSkip, Mi.mBrk, Mi.mCont, Mi.mAsg, Mi.mPar, Mi.mExpr, Mi.mRet, Mi.mRetN, Mi.mIfS, Mi.tYes, Mi.wipe, Ms.mDct0, Ms.bAddI, List.map_cons, List.map_nil, List.nil_append, List.cons_append, List.length_cons, List.length_nil, List.replicate_succ, List.replicate_zero, List.getElem?_cons_zero, List.getElem?_cons_succ, List.getElem?_nil, List.set_cons_zero, List.set_cons_succ, Option.map_some, Option.map_none, if_true, if_false, reduceIte, decide_true, decide_false, Nat.reduceAdd, Nat.reduceLeDiff, List.mem_cons, List.mem_singleton, true_or, or_true, true_and, and_true, bne_self_eq_false, Bool.not_true, Bool.not_false, reduceCtorEq, Nat.reduceEqDiff, beq_self_eq_true, Nat.reduceLT, Int.reduceLT, Int.reduceLE, Int.reduceToNat, Int.reduceAdd, Int.reduceSub, Int.reduceMul, Int.reduceNeg, String.reduceEq, String.reduceBEq, List.lookup_cons, List.lookup_nil, Mi.big, Mi.putF, List.length_append, List.append_assoc, ite_true, ite_false, Bool.false_eq_true, and_self, not_true_eq_false, not_false_eq_true, Sum.inr.injEq, Sum.inl.injEq, Mi.look, Mi.put, List.any_cons, List.any_nil, Bool.or_true, Bool.or_false, Bool.true_or, Bool.false_or, List.find?_cons, Option.getD_some, Option.getD_none, Bool.bne_false, Bool.false_bne, Bool.true_bne, Bool.bne_true, Int.reduceEq, Int.reducePow, -Mi.look, m_Disk_read, b_Disk_read, Mi.mGet2, D.ob, dfs, e, Mi.bSubs, Mi.bGet, Mi.bIx, Mi.seqOf, Mi.lstOf, D.bl, D.nw, hx]
theorem need_disk_ok (D : Dsk G h hb hq hn s k bl qu nw) : m_need_disk [.ref h] G = some (.non, G) := by
  simp only [Mi.bnd, Mi.mVar, Mi.mC, Mi.mkL, Mi.m2, Mi.m1, Mi.uNeg, Mi.bAdd, Mi.bSub, Mi.bDiv, Mi.bMod, Mi.bPow, Mi.sEq, Mi.bEq, Mi.bCmp, Mi.bLt, Mi.bLe, Mi.bGt, Mi.bGe, Mi.isNon, Mi.mIsN, Mi.mChain, Mi.mAnd, Mi.mOr, Mi.mNot, Mi.mTb, Mi.mTand, Mi.mTor, Mi.mTnot, Mi.mIf, Mi.mNil, Mi.mCons, Mi.mTup, Mi.mLst, Mi.mB, Mi.kOf, Mi.mFld, Mi.mCall, Mi.mCallK, Mi.mMeth, Mi.mMethK, Mi.mDef, Mi.fInt, Mi.fMax, Mi.fMin, Mi.isI, Mi.mIsI, Ms.mIsC, Mi.gNm, Mi.gNil, Mi.gCons, Mi.gTup, Mi.mSeq, Mi.mSkip, Mi.mBrk, Mi.mCont, Mi.mAsg, Mi.mPar, Mi.mExpr, Mi.mRet, Mi.mRetN, Mi.mIfS, Mi.tYes, Mi.wipe, Ms.mDct0, Ms.bAddI, List.map_cons, List.map_nil, List.nil_append, List.cons_append, List.length_cons, List.length_nil, List.replicate_succ, List.replicate_zero, List.getElem?_cons_zero, List.getElem?_cons_succ, List.getElem?_nil, List.set_cons_zero, List.set_cons_succ, Option.map_some, Option.map_none, if_true, if_false, reduceIte, decide_true, decide_false, Nat.reduceAdd, Nat.reduceLeDiff, List.mem_cons, List.mem_singleton, true_or, or_true, true_and, and_true, bne_self_eq_false, Bool.not_true, Bool.not_false, reduceCtorEq, Nat.reduceEqDiff, beq_self_eq_true, Nat.reduceLT, Int.reduceLT, Int.reduceLE, Int.reduceToNat, Int.reduceAdd, Int.reduceSub, Int.reduceMul, Int.reduceNeg, String.reduceEq, String.reduceBEq, List.lookup_cons, List.lookup_nil, Mi.big, Mi.putF, List.length_append, List.append_assoc, ite_true, ite_false, Bool.false_eq_true, and_self, not_true_eq_false, not_false_eq_true, Sum.inr.injEq, Sum.inl.injEq, Mi.look, Mi.put, List.any_cons, List.any_nil, Bool.or_true, Bool.or_false, Bool.true_or, Bool.false_or, List.find?_cons, Option.getD_some, Option.getD_none, Bool.bne_false, Bool.false_bne, Bool.true_bne, Bool.bne_true, Int.reduceEq, Int.reducePow, m_need_disk, b_need_disk, D.ob]
theorem is_word_ok (i : Int) (G : Sto) (h : 0 ≤ i ∧ i ≤ 1000000000) : m_is_word [.int i] G = some (.bl true, G) := by
  simp only [Mi.bnd, Mi.mVar, Mi.mC, Mi.mkL, Mi.m2, Mi.m1, Mi.uNeg, Mi.bAdd, Mi.bSub, Mi.bDiv, Mi.bMod, Mi.bPow, Mi.sEq, Mi.bEq, Mi.bCmp, Mi.bLt, Mi.bLe, Mi.bGt, Mi.bGe, Mi.isNon, Mi.mIsN, Mi.mChain, Mi.mAnd, Mi.mOr, Mi.mNot, Mi.mTb, Mi.mTand, Mi.mTor, Mi.mTnot, Mi.mIf, Mi.mNil, Mi.mCons, Mi.mTup, Mi.mLst, Mi.mB, Mi.kOf, Mi.mFld, Mi.mCall, Mi.mCallK, Mi.mMeth, Mi.mMethK, Mi.mDef, Mi.fInt, Mi.fMax, Mi.fMin, Mi.isI, Mi.mIsI, Ms.mIsC, Mi.gNm, Mi.gNil, Mi.gCons, Mi.gTup, Mi.mSeq, Mi.mSkip, Mi.mBrk, Mi.mCont, Mi.mAsg, Mi.mPar, Mi.mExpr, Mi.mRet, Mi.mRetN, Mi.mIfS, Mi.tYes, Mi.wipe, Ms.mDct0, Ms.bAddI, List.map_cons, List.map_nil, List.nil_append, List.cons_append, List.length_cons, List.length_nil, List.replicate_succ, List.replicate_zero, List.getElem?_cons_zero, List.getElem?_cons_succ, List.getElem?_nil, List.set_cons_zero, List.set_cons_succ, Option.map_some, Option.map_none, if_true, if_false, reduceIte, decide_true, decide_false, Nat.reduceAdd, Nat.reduceLeDiff, List.mem_cons, List.mem_singleton, true_or, or_true, true_and, and_true, bne_self_eq_false, Bool.not_true, Bool.not_false, reduceCtorEq, Nat.reduceEqDiff, beq_self_eq_true, Nat.reduceLT, Int.reduceLT, Int.reduceLE, Int.reduceToNat, Int.reduceAdd, Int.reduceSub, Int.reduceMul, Int.reduceNeg, String.reduceEq, String.reduceBEq, List.lookup_cons, List.lookup_nil, Mi.big, Mi.putF, List.length_append, List.append_assoc, ite_true, ite_false, Bool.false_eq_true, and_self, not_true_eq_false, not_false_eq_true, Sum.inr.injEq, Sum.inl.injEq, Mi.look, Mi.put, List.any_cons, List.any_nil, Bool.or_true, Bool.or_false, Bool.true_or, Bool.false_or, List.find?_cons, Option.getD_some, Option.getD_none, Bool.bne_false, Bool.false_bne, Bool.true_bne, Bool.bne_true, Int.reduceEq, Int.reducePow, m_is_word, b_is_word, is_between_int, h]
theorem bools_true : ∀ ds : List Dv, Mi.bools (ds.map fun _ => Dv.bl true) = some (ds.map fun _ => true)
  | [] => rfl
  | d :: ds => by rw [List.map_cons]; unfold Mi.bools; rw [bools_true ds]; rfl
theorem is_block_ok (ws : List Int) (G : Sto) (B : Blk ws) : m_is_block [.tup (ws.map Dv.int)] G = some (.bl true, G) := by
  have e := lc_map (i := 2) (e := qe_are_words_1) (st := fun _ => True) (δ := [some (.tup (ws.map Dv.int)), some (.int 32), none]) (f := fun _ => .bl true) (G := G) trivial (ws.map Dv.int) [] (fun d hd => by
    obtain ⟨i, hi, rfl⟩ := List.mem_map.mp hd
    simp only [Mi.bnd, Mi.mVar, Mi.mC, Mi.mkL, Mi.m2, Mi.m1, Mi.uNeg, Mi.bAdd, Mi.bSub, Mi.bDiv, Mi.bMod, Mi.bPow, Mi.sEq, Mi.bEq, Mi.bCmp, Mi.bLt, Mi.bLe, Mi.bGt, Mi.bGe, Mi.isNon, Mi.mIsN, Mi.mChain, Mi.mAnd, Mi.mOr, Mi.mNot, Mi.mTb, Mi.mTand, Mi.mTor, Mi.mTnot, Mi.mIf, Mi.mNil, Mi.mCons, Mi.mTup, Mi.mLst, Mi.mB, Mi.kOf, Mi.mFld, Mi.mCall, Mi.mCallK, Mi.mMeth, Mi.mMethK, Mi.mDef, Mi.fInt, Mi.fMax, Mi.fMin, Mi.isI, Mi.mIsI, Ms.mIsC, Mi.gNm, Mi.gNil, Mi.gCons, Mi.gTup, Mi.mSeq, Mi.mSkip, Mi.mBrk, Mi.mCont, Mi.mAsg, Mi.mPar, Mi.mExpr, Mi.mRet, Mi.mRetN, Mi.mIfS, Mi.tYes, Mi.wipe, Ms.mDct0, Ms.bAddI, List.map_cons, List.map_nil, List.nil_append, List.cons_append, List.length_cons, List.length_nil, List.replicate_succ, List.replicate_zero, List.getElem?_cons_zero, List.getElem?_cons_succ, List.getElem?_nil, List.set_cons_zero, List.set_cons_succ, Option.map_some, Option.map_none, if_true, if_false, reduceIte, decide_true, decide_false, Nat.reduceAdd, Nat.reduceLeDiff, List.mem_cons, List.mem_singleton, true_or, or_true, true_and, and_true, bne_self_eq_false, Bool.not_true, Bool.not_false, reduceCtorEq, Nat.reduceEqDiff, beq_self_eq_true, Nat.reduceLT, Int.reduceLT, Int.reduceLE, Int.reduceToNat, Int.reduceAdd, Int.reduceSub, Int.reduceMul, Int.reduceNeg, String.reduceEq, String.reduceBEq, List.lookup_cons, List.lookup_nil, Mi.big, Mi.putF, List.length_append, List.append_assoc, ite_true, ite_false, Bool.false_eq_true, and_self, not_true_eq_false, not_false_eq_true, Sum.inr.injEq, Sum.inl.injEq, Mi.look, Mi.put, List.any_cons, List.any_nil, Bool.or_true, Bool.or_false, Bool.true_or, Bool.false_or, List.find?_cons, Option.getD_some, Option.getD_none, Bool.bne_false, Bool.false_bne, Bool.true_bne, Bool.bne_true, Int.reduceEq, Int.reducePow, qe_are_words_1, is_word_ok i G (B.2 i hi)]) (by rw [List.length_map, B.1]; decide)
  rw [List.nil_append] at e
  have e2 : ql_are_words_1 [some (.tup (ws.map Dv.int)), some (.int 32), none] G = some (.fls ((ws.map Dv.int).map fun _ => .bl true), G) := by
    unfold ql_are_words_1 qi_are_words_1 Mi.mLc
    simp only [Mi.bnd, Mi.mVar, Mi.mC, Mi.mkL, Mi.m2, Mi.m1, Mi.uNeg, Mi.bAdd, Mi.bSub, Mi.bDiv, Mi.bMod, Mi.bPow, Mi.sEq, Mi.bEq, Mi.bCmp, Mi.bLt, Mi.bLe, Mi.bGt, Mi.bGe, Mi.isNon, Mi.mIsN, Mi.mChain, Mi.mAnd, Mi.mOr, Mi.mNot, Mi.mTb, Mi.mTand, Mi.mTor, Mi.mTnot, Mi.mIf, Mi.mNil, Mi.mCons, Mi.mTup, Mi.mLst, Mi.mB, Mi.kOf, Mi.mFld, Mi.mCall, Mi.mCallK, Mi.mMeth, Mi.mMethK, Mi.mDef, Mi.fInt, Mi.fMax, Mi.fMin, Mi.isI, Mi.mIsI, Ms.mIsC, Mi.gNm, Mi.gNil, Mi.gCons, Mi.gTup, Mi.mSeq, Mi.mSkip, Mi.mBrk, Mi.mCont, Mi.mAsg, Mi.mPar, Mi.mExpr, Mi.mRet, Mi.mRetN, Mi.mIfS, Mi.tYes, Mi.wipe, Ms.mDct0, Ms.bAddI, List.map_cons, List.map_nil, List.nil_append, List.cons_append, List.length_cons, List.length_nil, List.replicate_succ, List.replicate_zero, List.getElem?_cons_zero, List.getElem?_cons_succ, List.getElem?_nil, List.set_cons_zero, List.set_cons_succ, Option.map_some, Option.map_none, if_true, if_false, reduceIte, decide_true, decide_false, Nat.reduceAdd, Nat.reduceLeDiff, List.mem_cons, List.mem_singleton, true_or, or_true, true_and, and_true, bne_self_eq_false, Bool.not_true, Bool.not_false, reduceCtorEq, Nat.reduceEqDiff, beq_self_eq_true, Nat.reduceLT, Int.reduceLT, Int.reduceLE, Int.reduceToNat, Int.reduceAdd, Int.reduceSub, Int.reduceMul, Int.reduceNeg, String.reduceEq, String.reduceBEq, List.lookup_cons, List.lookup_nil, Mi.big, Mi.putF, List.length_append, List.append_assoc, ite_true, ite_false, Bool.false_eq_true, and_self, not_true_eq_false, not_false_eq_true, Sum.inr.injEq, Sum.inl.injEq, Mi.look, Mi.put, List.any_cons, List.any_nil, Bool.or_true, Bool.or_false, Bool.true_or, Bool.false_or, List.find?_cons, Option.getD_some, Option.getD_none, Bool.bne_false, Bool.false_bne, Bool.true_bne, Bool.bne_true, Int.reduceEq, Int.reducePow, Mi.iSeq, Mi.seqOf, e]
  have e3 := bools_true (ws.map Dv.int)
  have l := B.1
  simp only [Mi.bnd, Mi.mVar, Mi.mC, Mi.mkL, Mi.m2, Mi.m1, Mi.uNeg, Mi.bAdd, Mi.bSub, Mi.bDiv, Mi.bMod, Mi.bPow, Mi.sEq, Mi.bEq, Mi.bCmp, Mi.bLt, Mi.bLe, Mi.bGt, Mi.bGe, Mi.isNon, Mi.mIsN, Mi.mChain, Mi.mAnd, Mi.mOr, Mi.mNot, Mi.mTb, Mi.mTand, Mi.mTor, Mi.mTnot, Mi.mIf, Mi.mNil, Mi.mCons, Mi.mTup, Mi.mLst, Mi.mB, Mi.kOf, Mi.mFld, Mi.mCall, Mi.mCallK, Mi.mMeth, Mi.mMethK, Mi.mDef, Mi.fInt, Mi.fMax, Mi.fMin, Mi.isI, Mi.mIsI, Ms.mIsC, Mi.gNm, Mi.gNil, Mi.gCons, Mi.gTup, Mi.mSeq, Mi.mSkip, Mi.mBrk, Mi.mCont, Mi.mAsg, Mi.mPar, Mi.mExpr, Mi.mRet, Mi.mRetN, Mi.mIfS, Mi.tYes, Mi.wipe, Ms.mDct0, Ms.bAddI, List.map_cons, List.map_nil, List.nil_append, List.cons_append, List.length_cons, List.length_nil, List.replicate_succ, List.replicate_zero, List.getElem?_cons_zero, List.getElem?_cons_succ, List.getElem?_nil, List.set_cons_zero, List.set_cons_succ, Option.map_some, Option.map_none, if_true, if_false, reduceIte, decide_true, decide_false, Nat.reduceAdd, Nat.reduceLeDiff, List.mem_cons, List.mem_singleton, true_or, or_true, true_and, and_true, bne_self_eq_false, Bool.not_true, Bool.not_false, reduceCtorEq, Nat.reduceEqDiff, beq_self_eq_true, Nat.reduceLT, Int.reduceLT, Int.reduceLE, Int.reduceToNat, Int.reduceAdd, Int.reduceSub, Int.reduceMul, Int.reduceNeg, String.reduceEq, String.reduceBEq, List.lookup_cons, List.lookup_nil, Mi.big, Mi.putF, List.length_append, List.append_assoc, ite_true, ite_false, Bool.false_eq_true, and_self, not_true_eq_false, not_false_eq_true, Sum.inr.injEq, Sum.inl.injEq, Mi.look, Mi.put, List.any_cons, List.any_nil, Bool.or_true, Bool.or_false, Bool.true_or, Bool.false_or, List.find?_cons, Option.getD_some, Option.getD_none, Bool.bne_false, Bool.false_bne, Bool.true_bne, Bool.bne_true, Int.reduceEq, Int.reducePow, m_is_block, b_is_block, m_are_words, b_are_words, e2, Mi.fAll, Mi.lstOf, e3, Mi.fLen, List.length_map, l]
  simp
theorem burn_ok (D : Dsk G h hb hq hn s k bl qu nw) : m_Disk_burn [.ref h] G = some (.non, G) := by
  simp only [Mi.bnd, Mi.mVar, Mi.mC, Mi.mkL, Mi.m2, Mi.m1, Mi.uNeg, Mi.bAdd, Mi.bSub, Mi.bDiv, Mi.bMod, Mi.bPow, Mi.sEq, Mi.bEq, Mi.bCmp, Mi.bLt, Mi.bLe, Mi.bGt, Mi.bGe, Mi.isNon, Mi.mIsN, Mi.mChain, Mi.mAnd, Mi.mOr, Mi.mNot, Mi.mTb, Mi.mTand, Mi.mTor, Mi.mTnot, Mi.mIf, Mi.mNil, Mi.mCons, Mi.mTup, Mi.mLst, Mi.mB, Mi.kOf, Mi.mFld, Mi.mCall, Mi.mCallK, Mi.mMeth, Mi.mMethK, Mi.mDef, Mi.fInt, Mi.fMax, Mi.fMin, Mi.isI, Mi.mIsI, Ms.mIsC, Mi.gNm, Mi.gNil, Mi.gCons, Mi.gTup, Mi.mSeq, Mi.mSkip, Mi.mBrk, Mi.mCont, Mi.mAsg, Mi.mPar, Mi.mExpr, Mi.mRet, Mi.mRetN, Mi.mIfS, Mi.tYes, Mi.wipe, Ms.mDct0, Ms.bAddI, List.map_cons, List.map_nil, List.nil_append, List.cons_append, List.length_cons, List.length_nil, List.replicate_succ, List.replicate_zero, List.getElem?_cons_zero, List.getElem?_cons_succ, List.getElem?_nil, List.set_cons_zero, List.set_cons_succ, Option.map_some, Option.map_none, if_true, if_false, reduceIte, decide_true, decide_false, Nat.reduceAdd, Nat.reduceLeDiff, List.mem_cons, List.mem_singleton, true_or, or_true, true_and, and_true, bne_self_eq_false, Bool.not_true, Bool.not_false, reduceCtorEq, Nat.reduceEqDiff, beq_self_eq_true, Nat.reduceLT, Int.reduceLT, Int.reduceLE, Int.reduceToNat, Int.reduceAdd, Int.reduceSub, Int.reduceMul, Int.reduceNeg, String.reduceEq, String.reduceBEq, List.lookup_cons, List.lookup_nil, Mi.big, Mi.putF, List.length_append, List.append_assoc, ite_true, ite_false, Bool.false_eq_true, and_self, not_true_eq_false, not_false_eq_true, Sum.inr.injEq, Sum.inl.injEq, Mi.look, Mi.put, List.any_cons, List.any_nil, Bool.or_true, Bool.or_false, Bool.true_or, Bool.false_or, List.find?_cons, Option.getD_some, Option.getD_none, Bool.bne_false, Bool.false_bne, Bool.true_bne, Bool.bne_true, Int.reduceEq, Int.reducePow, m_Disk_burn, b_Disk_burn, D.ob, dfs]
theorem write_ok (D : Dsk G h hb hq hn s k bl qu nw) (p : Int) (ws : List Int) (B : Blk ws) (h1 : 0 ≤ p) (h2 : p ≤ bl.length - 1) (z1 : qu.length < 10000) (z2 : nw.length < 10000) :
    ∃ G', m_Disk_write [.ref h, .int p, .tup (ws.map Dv.int)] G = some (.non, G') ∧ Dsk G' h hb hq hn s k bl (qu ++ [.tup [.int p, .tup (ws.map Dv.int)]]) (Mi.put nw (.inl p) (.tup (ws.map Dv.int))) ∧ Sm [hq, hn] G G' ∧ G'.length = G.length := by
  have e1 := need_place_ok D p h1 h2
  have e2 := is_block_ok ws G B
  have e3 := burn_ok D
  have z1' : qu.length < 16777216 := by omega
  have z2' : nw.length < 16777216 := by omega
  have ob' : ∀ o, (G.set hq o)[h]? = some (.ins 0 (dfs s k hb hq hn .non)) := fun o => by rw [List.getElem?_set_ne D.n2.symm]; exact D.ob
  have nw' : ∀ o, (G.set hq o)[hn]? = some (.dct nw) := fun o => by rw [List.getElem?_set_ne D.n6]; exact D.nw
  refine ⟨(G.set hq (.lst (qu ++ [.tup [.int p, .tup (ws.map Dv.int)]]))).set hn (.dct (Mi.put nw (.inl p) (.tup (ws.map Dv.int)))), ?_, ⟨?_, ?_, ?_, ?_, D.n1, D.n2, D.n3, D.n4, D.n5, D.n6⟩, (sm_set (by simp)).trans (sm_set (by simp)), by simp⟩
  · simp only [Mi.bnd, Mi.mVar, Mi.mC, Mi.mkL, Mi.m2, Mi.m1, Mi.uNeg, Mi.bAdd, Mi.bSub, Mi.bDiv, Mi.bMod, Mi.bPow, Mi.sEq, Mi.bEq, Mi.bCmp, Mi.bLt, Mi.bLe, Mi.bGt, Mi.bGe, Mi.isNon, Mi.mIsN, Mi.mChain, Mi.mAnd, Mi.mOr, Mi.mNot, Mi.mTb, Mi.mTand, Mi.mTor, Mi.mTnot, Mi.mIf, Mi.mNil, Mi.mCons, Mi.mTup, Mi.mLst, Mi.mB, Mi.kOf, Mi.mFld, Mi.mCall, Mi.mCallK, Mi.mMeth, Mi.mMethK, Mi.mDef, Mi.fInt, Mi.fMax, Mi.fMin, Mi.isI, Mi.mIsI, Ms.mIsC, Mi.gNm, Mi.gNil, Mi.gCons, Mi.gTup, Mi.mSeq, Mi.mSkip, Mi.mBrk, Mi.mCont, Mi.mAsg, Mi.mPar, Mi.mExpr, Mi.mRet, Mi.mRetN, Mi.mIfS, Mi.tYes, Mi.wipe, Ms.mDct0, Ms.bAddI, List.map_cons, List.map_nil, List.nil_append, List.cons_append, List.length_cons, List.length_nil, List.replicate_succ, List.replicate_zero, List.getElem?_cons_zero, List.getElem?_cons_succ, List.getElem?_nil, List.set_cons_zero, List.set_cons_succ, Option.map_some, Option.map_none, if_true, if_false, reduceIte, decide_true, decide_false, Nat.reduceAdd, Nat.reduceLeDiff, List.mem_cons, List.mem_singleton, true_or, or_true, true_and, and_true, bne_self_eq_false, Bool.not_true, Bool.not_false, reduceCtorEq, Nat.reduceEqDiff, beq_self_eq_true, Nat.reduceLT, Int.reduceLT, Int.reduceLE, Int.reduceToNat, Int.reduceAdd, Int.reduceSub, Int.reduceMul, Int.reduceNeg, String.reduceEq, String.reduceBEq, List.lookup_cons, List.lookup_nil, Mi.big, Mi.putF, List.length_append, List.append_assoc, ite_true, ite_false, Bool.false_eq_true, and_self, not_true_eq_false, not_false_eq_true, Sum.inr.injEq, Sum.inl.injEq, Mi.look, Mi.put, List.any_cons, List.any_nil, Bool.or_true, Bool.or_false, Bool.true_or, Bool.false_or, List.find?_cons, Option.getD_some, Option.getD_none, Bool.bne_false, Bool.false_bne, Bool.true_bne, Bool.bne_true, Int.reduceEq, Int.reducePow, -Mi.put, m_Disk_write, b_Disk_write, Mi.mAppend, Mi.mSetK, D.ob, ob', dfs, e1, e2, e3, D.qu, nw', z1', z2']
  · rw [List.getElem?_set_ne D.n3.symm]; exact ob' _
  · rw [List.getElem?_set_ne D.n5.symm, List.getElem?_set_ne D.n4.symm]; exact D.bl
  · rw [List.getElem?_set_ne D.n6.symm]; exact set_at D.qu
  · exact set_at (nw' _)
end
end Lw


namespace Lw
open Mi (Dv MO Sto Sl Rs bnd ME MT MA MS MF Fl MG MGs MI)
section
variable {G : Sto} {h hb hq hn : Nat} {s k : Int} {bl : List Dv} {nw : List (Mi.Key × Dv)}
theorem seq_ref {G : Sto} {h : Nat} {xs : List Dv} (e : G[h]? = some (.lst xs)) : Mi.seqOf G (.ref h) = some xs := by simp only [Mi.seqOf, Mi.lstOf, e]
/-- what waits, as a list of tuples -/
def qOf (its : List (Nat × Dv)) : List Dv := its.map fun p => .tup [.int p.1, p.2]
/-- all that waits, laid -/
def layAll (bl : List Dv) (its : List (Nat × Dv)) : List Dv := its.foldl (fun b p => b.set p.1 p.2) bl
theorem ixN_nat {n p : Nat} (h : p < n) : Mi.ixN n (p : Int) = some p := by
  unfold Mi.ixN
  rw [if_pos (by omega)]; rw [if_pos (by omega)]
  simp
theorem force_ok {its : List (Nat × Dv)} (D : Dsk G h hb hq hn s k bl (qOf its) nw) (hp : ∀ p ∈ its, p.1 < bl.length) :
    ∃ G', m_Disk_force [.ref h] G = some (.non, G') ∧ Dsk G' h hb G.length (G.length + 1) s k (layAll bl its) [] [] ∧ Sm [h, hb] G G' ∧ G'.length = G.length + 2 := by
  have e1 := burn_ok D
  obtain ⟨δ', G1, e2, bl', r, ⟨x, y, rfl⟩, er, D1, S1, L1, hp1, ef⟩ := loop_inv (g := Mi.gTup 2 (Mi.gCons (Mi.gNm 1) (Mi.gCons (Mi.gNm 2) Mi.gNil))) (b := qb_Disk_force_1) (st := fun G' => Mi.seqOf G' (.ref hq) = some (qOf its))
    (fun rest δ G1 => ∃ (bl' : List Dv) (r : List (Nat × Dv)), (∃ x y, δ = [some (.ref h), x, y]) ∧ rest = qOf r ∧ Dsk G1 h hb hq hn s k bl' (qOf its) nw ∧ Sm [h, hb] G G1 ∧ G1.length = G.length ∧ (∀ p ∈ r, p.1 < bl'.length) ∧ layAll bl' r = layAll bl its)
    (fun d ds δ G1 ⟨bl', r, ⟨x, y, ed⟩, er, D1, S1, L1, hp1, ef⟩ => by
      subst ed
      cases r with
      | nil => cases er
      | cons p r =>
        cases er
        refine ⟨seq_ref D1.qu, _, _, rfl, [some (.ref h), some (.int p.1), some p.2], G1.set hb (.lst (bl'.set p.1 p.2)), ?_, bl'.set p.1 p.2, r, ⟨_, _, rfl⟩, rfl, ?_, S1.trans (sm_set (by simp)), by rw [List.length_set]; exact L1, fun q hq => by rw [List.length_set]; exact hp1 q (List.mem_cons_of_mem _ hq), ef⟩
        · have ei := ixN_nat (hp1 p (List.mem_cons_self ..))
          simp only [Mi.bnd, Mi.mVar, Mi.mC, Mi.mkL, Mi.m2, Mi.m1, Mi.uNeg, Mi.bAdd, Mi.bSub, Mi.bDiv, Mi.bMod, Mi.bPow, Mi.sEq, Mi.bEq, Mi.bCmp, Mi.bLt, Mi.bLe, Mi.bGt, Mi.bGe, Mi.isNon, Mi.mIsN, Mi.mChain, Mi.mAnd, Mi.mOr, Mi.mNot, Mi.mTb, Mi.mTand, Mi.mTor, Mi.mTnot, Mi.mIf, Mi.mNil, Mi.mCons, Mi.mTup, Mi.mLst, Mi.mB, Mi.kOf, Mi.mFld, Mi.mCall, Mi.mCallK, Mi.mMeth, Mi.mMethK, Mi.mDef, Mi.fInt, Mi.fMax, Mi.fMin, Mi.isI, Mi.mIsI, Ms.mIsC, Mi.gNm, Mi.gNil, Mi.gCons, Mi.gTup, Mi.mSeq, Mi.mSkip, Mi.mBrk, Mi.mCont, Mi.mAsg, Mi.mPar, Mi.mExpr, Mi.mRet, Mi.mRetN, Mi.mIfS, Mi.tYes, Mi.wipe, Ms.mDct0, Ms.bAddI, List.map_cons, List.map_nil, List.nil_append, List.cons_append, List.length_cons, List.length_nil, List.replicate_succ, List.replicate_zero, List.getElem?_cons_zero, List.getElem?_cons_succ, List.getElem?_nil, List.set_cons_zero, List.set_cons_succ, Option.map_some, Option.map_none, if_true, if_false, reduceIte, decide_true, decide_false, Nat.reduceAdd, Nat.reduceLeDiff, List.mem_cons, List.mem_singleton, true_or, or_true, true_and, and_true, bne_self_eq_false, Bool.not_true, Bool.not_false, reduceCtorEq, Nat.reduceEqDiff, beq_self_eq_true, Nat.reduceLT, Int.reduceLT, Int.reduceLE, Int.reduceToNat, Int.reduceAdd, Int.reduceSub, Int.reduceMul, Int.reduceNeg, String.reduceEq, String.reduceBEq, List.lookup_cons, List.lookup_nil, Mi.big, Mi.putF, List.length_append, List.append_assoc, ite_true, ite_false, Bool.false_eq_true, and_self, not_true_eq_false, not_false_eq_true, Sum.inr.injEq, Sum.inl.injEq, Mi.look, Mi.put, List.any_cons, List.any_nil, Bool.or_true, Bool.or_false, Bool.true_or, Bool.false_or, List.find?_cons, Option.getD_some, Option.getD_none, Bool.bne_false, Bool.false_bne, Bool.true_bne, Bool.bne_true, Int.reduceEq, Int.reducePow, qb_Disk_force_1, Mi.mSetI, D1.ob, dfs, D1.bl, ei]
        · exact ⟨by rw [List.getElem?_set_ne D1.n1.symm]; exact D1.ob, set_at D1.bl, by rw [List.getElem?_set_ne D1.n4]; exact D1.qu, by rw [List.getElem?_set_ne D1.n5]; exact D1.nw, D1.n1, D1.n2, D1.n3, D1.n4, D1.n5, D1.n6⟩)
    (fun δ G1 ⟨bl', r, _, _, D1, _⟩ => seq_ref D1.qu)
    (qOf its) [some (.ref h), none, none] G ⟨bl, its, ⟨_, _, rfl⟩, rfl, D, Sm.refl, rfl, hp, rfl⟩
  have hr : r = [] := by
    cases r with
    | nil => rfl
    | cons p r => cases er
  subst hr
  have e3 : qf_Disk_force_1 [some (.ref h), none, none] G = some (.nx, [some (.ref h), x, y], G1) := by
    unfold qf_Disk_force_1 qi_Disk_force_1 Mi.mFor
    have hs : Mi.seqOf G (.ref hq) = some (qOf its) := seq_ref D.qu
    simp only [Mi.bnd, Mi.mVar, Mi.mC, Mi.mkL, Mi.m2, Mi.m1, Mi.uNeg, Mi.bAdd, Mi.bSub, Mi.bDiv, Mi.bMod, Mi.bPow, Mi.sEq, Mi.bEq, Mi.bCmp, Mi.bLt, Mi.bLe, Mi.bGt, Mi.bGe, Mi.isNon, Mi.mIsN, Mi.mChain, Mi.mAnd, Mi.mOr, Mi.mNot, Mi.mTb, Mi.mTand, Mi.mTor, Mi.mTnot, Mi.mIf, Mi.mNil, Mi.mCons, Mi.mTup, Mi.mLst, Mi.mB, Mi.kOf, Mi.mFld, Mi.mCall, Mi.mCallK, Mi.mMeth, Mi.mMethK, Mi.mDef, Mi.fInt, Mi.fMax, Mi.fMin, Mi.isI, Mi.mIsI, Ms.mIsC, Mi.gNm, Mi.gNil, Mi.gCons, Mi.gTup, Mi.mSeq, Mi.mSkip, Mi.mBrk, Mi.mCont, Mi.mAsg, Mi.mPar, Mi.mExpr, Mi.mRet, Mi.mRetN, Mi.mIfS, Mi.tYes, Mi.wipe, Ms.mDct0, Ms.bAddI, List.map_cons, List.map_nil, List.nil_append, List.cons_append, List.length_cons, List.length_nil, List.replicate_succ, List.replicate_zero, List.getElem?_cons_zero, List.getElem?_cons_succ, List.getElem?_nil, List.set_cons_zero, List.set_cons_succ, Option.map_some, Option.map_none, if_true, if_false, reduceIte, decide_true, decide_false, Nat.reduceAdd, Nat.reduceLeDiff, List.mem_cons, List.mem_singleton, true_or, or_true, true_and, and_true, bne_self_eq_false, Bool.not_true, Bool.not_false, reduceCtorEq, Nat.reduceEqDiff, beq_self_eq_true, Nat.reduceLT, Int.reduceLT, Int.reduceLE, Int.reduceToNat, Int.reduceAdd, Int.reduceSub, Int.reduceMul, Int.reduceNeg, String.reduceEq, String.reduceBEq, List.lookup_cons, List.lookup_nil, Mi.big, Mi.putF, List.length_append, List.append_assoc, ite_true, ite_false, Bool.false_eq_true, and_self, not_true_eq_false, not_false_eq_true, Sum.inr.injEq, Sum.inl.injEq, Mi.look, Mi.put, List.any_cons, List.any_nil, Bool.or_true, Bool.or_false, Bool.true_or, Bool.false_or, List.find?_cons, Option.getD_some, Option.getD_none, Bool.bne_false, Bool.false_bne, Bool.true_bne, Bool.bne_true, Int.reduceEq, Int.reducePow, Mi.iSeq, D.ob, dfs, hs, e2]
  have o1 : (G1 ++ [MO.lst []])[h]? = some (.ins 0 (dfs s k hb hq hn .non)) := by rw [List.getElem?_append_left (lt_get D1.ob)]; exact D1.ob
  have o2 := set_at (o' := .ins 0 (dfs s k hb G1.length hn .non)) o1
  have o3 : ((G1 ++ [MO.lst []]).set h (.ins 0 (dfs s k hb G1.length hn .non)) ++ [MO.dct []])[h]? = some (.ins 0 (dfs s k hb G1.length hn .non)) := by rw [List.getElem?_append_left (lt_get o2)]; exact o2
  have hh : h < G1.length := lt_get D1.ob
  have hhb : hb < G1.length := lt_get D1.bl
  refine ⟨((G1 ++ [MO.lst []]).set h (.ins 0 (dfs s k hb G1.length hn .non)) ++ [MO.dct []]).set h (.ins 0 (dfs s k hb G1.length (G1.length + 1) .non)), ?_, ?_, ?_, ?_⟩
  · have o1' := o1
    have o3' := o3
    simp only [dfs] at o1' o3'
    simp only [Mi.bnd, Mi.mVar, Mi.mC, Mi.mkL, Mi.m2, Mi.m1, Mi.uNeg, Mi.bAdd, Mi.bSub, Mi.bDiv, Mi.bMod, Mi.bPow, Mi.sEq, Mi.bEq, Mi.bCmp, Mi.bLt, Mi.bLe, Mi.bGt, Mi.bGe, Mi.isNon, Mi.mIsN, Mi.mChain, Mi.mAnd, Mi.mOr, Mi.mNot, Mi.mTb, Mi.mTand, Mi.mTor, Mi.mTnot, Mi.mIf, Mi.mNil, Mi.mCons, Mi.mTup, Mi.mLst, Mi.mB, Mi.kOf, Mi.mFld, Mi.mCall, Mi.mCallK, Mi.mMeth, Mi.mMethK, Mi.mDef, Mi.fInt, Mi.fMax, Mi.fMin, Mi.isI, Mi.mIsI, Ms.mIsC, Mi.gNm, Mi.gNil, Mi.gCons, Mi.gTup, Mi.mSeq, Mi.mSkip, Mi.mBrk, Mi.mCont, Mi.mAsg, Mi.mPar, Mi.mExpr, Mi.mRet, Mi.mRetN, Mi.mIfS, Mi.tYes, Mi.wipe, Ms.mDct0, Ms.bAddI, List.map_cons, List.map_nil, List.nil_append, List.cons_append, List.length_cons, List.length_nil, List.replicate_succ, List.replicate_zero, List.getElem?_cons_zero, List.getElem?_cons_succ, List.getElem?_nil, List.set_cons_zero, List.set_cons_succ, Option.map_some, Option.map_none, if_true, if_false, reduceIte, decide_true, decide_false, Nat.reduceAdd, Nat.reduceLeDiff, List.mem_cons, List.mem_singleton, true_or, or_true, true_and, and_true, bne_self_eq_false, Bool.not_true, Bool.not_false, reduceCtorEq, Nat.reduceEqDiff, beq_self_eq_true, Nat.reduceLT, Int.reduceLT, Int.reduceLE, Int.reduceToNat, Int.reduceAdd, Int.reduceSub, Int.reduceMul, Int.reduceNeg, String.reduceEq, String.reduceBEq, List.lookup_cons, List.lookup_nil, Mi.big, Mi.putF, List.length_append, List.append_assoc, ite_true, ite_false, Bool.false_eq_true, and_self, not_true_eq_false, not_false_eq_true, Sum.inr.injEq, Sum.inl.injEq, Mi.look, Mi.put, List.any_cons, List.any_nil, Bool.or_true, Bool.or_false, Bool.true_or, Bool.false_or, List.find?_cons, Option.getD_some, Option.getD_none, Bool.bne_false, Bool.false_bne, Bool.true_bne, Bool.bne_true, Int.reduceEq, Int.reducePow, m_Disk_force, b_Disk_force, D.ob, dfs, e1, e3, Mi.mSetF, o1', o3', List.length_set]

  · rw [← L1]
    refine ⟨set_at o3, ?_, ?_, ?_, D.n1, by omega, by omega, by omega, by omega, by omega⟩
    · rw [List.getElem?_set_ne D.n1, List.getElem?_append_left (by simp; omega), List.getElem?_set_ne D.n1, List.getElem?_append_left hhb, ← ef]
      exact D1.bl
    · rw [List.getElem?_set_ne (by omega), List.getElem?_append_left (by simp), List.getElem?_set_ne (by omega), List.getElem?_append_right (Nat.le_refl _)]
      simp
    · rw [List.getElem?_set_ne (by omega), List.getElem?_append_right (by simp)]
      simp
  · exact (((S1.trans sm_app).trans (sm_set (by simp))).trans sm_app).trans (sm_set (by simp))
  · simp [L1]
end
/-! ### the law's own -/
theorem at0 {α : Type} (a b c d : α) : Mi.atI [a, b, c, d] 0 = some a := rfl
theorem at1 {α : Type} (a b c d : α) : Mi.atI [a, b, c, d] 1 = some b := rfl
theorem at3 {α : Type} (a b c d : α) : Mi.atI [a, b, c, d] 3 = some d := rfl
end Lw


namespace Lw
open Mi (Dv MO Sto Sl Rs bnd ME MT MA MS MF Fl MG MGs MI)
open PySem (PyData)
theorem abs18 {i : Int} (h : -1000000 ≤ i ∧ i ≤ 1000000) : i.natAbs < 10 ^ 18 := by omega
theorem abs18' {i : Int} (h : 0 ≤ i ∧ i ≤ 1000000000) : i.natAbs < 10 ^ 18 := by omega
/-! ### data whose text is known -/
structure Re (x : Dv) (d : PyData) (n m : Nat) : Prop where
  p : ∀ G, Mi.py G x = some d
  w : Mi.wt d = some n
  e : Mi.dep d ≤ m
structure ReL (xs : List Dv) (ds : List PyData) (n m : Nat) : Prop where
  p : ∀ G, Mi.pys G xs = some ds
  w : Mi.wts ds = some n
  e : Mi.deps ds ≤ m
theorem re_int {i : Int} (h : i.natAbs < 10 ^ 18) : Re (.int i) (.int i) 20 0 := ⟨fun _ => rfl, by unfold Mi.wt; rw [if_pos h], Nat.le_refl _⟩
theorem re_nil {m : Nat} : ReL [] [] 0 m := ⟨fun _ => rfl, rfl, Nat.zero_le _⟩
theorem re_cons {x : Dv} {xs : List Dv} {d : PyData} {ds : List PyData} {a b m m' : Nat} (h : Re x d a m') (h2 : ReL xs ds b m) (hm : m' ≤ m) : ReL (x :: xs) (d :: ds) (a + b + 2) m := by
  refine ⟨fun G => ?_, ?_, ?_⟩
  · unfold Mi.pys; rw [h.p G, h2.p G]
  · unfold Mi.wts; rw [h.w, h2.w]
  · unfold Mi.deps; exact Nat.max_le.mpr ⟨Nat.le_trans h.e hm, h2.e⟩
theorem re_tup {xs : List Dv} {ds : List PyData} {n m : Nat} (h : ReL xs ds n m) : Re (.tup xs) (.tuple ds) (n + 3) (m + 1) := by
  refine ⟨fun G => ?_, ?_, ?_⟩
  · unfold Mi.py; rw [h.p G]; rfl
  · unfold Mi.wt; rw [h.w]; rfl
  · unfold Mi.dep; exact Nat.succ_le_succ h.e
theorem re_fls {xs : List Dv} {ds : List PyData} {n m : Nat} (h : ReL xs ds n m) : Re (.fls xs) (.list ds) (n + 3) (m + 1) := by
  refine ⟨fun G => ?_, ?_, ?_⟩
  · unfold Mi.py; rw [h.p G]; rfl
  · unfold Mi.wt; rw [h.w]; rfl
  · unfold Mi.dep; exact Nat.succ_le_succ h.e
theorem re_ints {ws : List Int} (h : ∀ w ∈ ws, w.natAbs < 10 ^ 18) : ReL (ws.map Dv.int) (ws.map PyData.int) (22 * ws.length) 0 := by
  induction ws with
  | nil => exact re_nil
  | cons w ws ih =>
    have := re_cons (re_int (h w (List.mem_cons_self ..))) (ih fun x hx => h x (List.mem_cons_of_mem _ hx)) (Nat.le_refl _)
    rw [List.map_cons, List.map_cons, List.length_cons]
    have e : 22 * (ws.length + 1) = 20 + 22 * ws.length + 2 := by omega
    rw [e]
    exact this
/-- the test that repr makes -/
def Rq (G1 G2 : Sto) (x y : Dv) : Prop := ∃ d, Mi.pyT G1 x = some d ∧ Mi.pyT G2 y = some d ∧ Mi.okR d
theorem Re.pyT {x : Dv} {d : PyData} {n m : Nat} (h : Re x d n m) (G : Sto) : Mi.pyT G x = some d := by
  have := h.p G
  cases x <;> first | exact this | cases this
theorem Re.rq {x : Dv} {d : PyData} {n m : Nat} (h : Re x d n m) (hn : n ≤ 16000000) (hm : m ≤ 40) (G1 G2 : Sto) : ∃ d, Mi.pyT G1 x = some d ∧ Mi.pyT G2 x = some d ∧ Mi.okR d :=
  ⟨d, h.pyT G1, h.pyT G2, n, h.w, hn, Nat.le_trans h.e hm⟩
theorem re_blank : Re d_BLANK (.tuple (ns_BLANK.map PyData.int)) (22 * ns_BLANK.length + 3) 1 := re_tup (re_ints fun w hw => by
    have : w = 0 := (List.mem_replicate.mp hw).2
    subst this
    decide)
theorem mul2 (x : Dv) (G : Sto) : Mi.bMul false (.fls [x]) (.int 2) G = some (.fls [x, x], G) := by
  unfold Mi.bMul
  dsimp only
  rw [if_pos (by refine ⟨by decide, by decide, ?_⟩; show 1 * 2 ≤ 16777216; decide)]
  rfl
theorem listR (a b : Int) (G : Sto) (h1 : 0 ≤ a) (h2 : a ≤ b) (h3 : b ≤ 100000) : Mi.bListR false (.int a) (.int b) G = some (.fls (Mi.rng a b), G) := by
  unfold Mi.bListR
  dsimp only
  rw [if_pos (by refine ⟨?_, ?_, ?_, ?_, ?_⟩ <;> omega)]
  rfl
def addD (a : Int) : Dv → Dv
  | .int j => .int (a + j)
  | d => d
theorem rng_map (a k : Int) : (Mi.rng 0 k).map (addD a) = Mi.rng a (a + k) := by
  unfold Mi.rng
  rw [List.map_map, show (a + k - a) = k by omega, Int.sub_zero]
  refine List.map_congr_left ?_; intro i _
  show Dv.int (a + (0 + (i : Int))) = Dv.int (a + i)
  rw [Int.zero_add]
theorem atI_rep {n : Nat} {x : Dv} {p : Int} (h1 : 0 ≤ p) (h2 : p < n) : Mi.atI (List.replicate n x) p = some x := by
  obtain ⟨y, e, hy⟩ := atI_ok (List.replicate n x) p h1 (by rw [List.length_replicate]; exact h2)
  rw [e, (List.mem_replicate.mp hy).2]
theorem atI_set {xs : List Dv} {x : Dv} {p : Nat} (h : p < xs.length) : Mi.atI (xs.set p x) (p : Int) = some x := by
  unfold Mi.atI
  rw [List.length_set, ixN_nat h]
  show (xs.set p x)[p]? = some x
  rw [List.getElem?_set_self h]
theorem Dk.disk {hd hc : Nat} {G G' : Sto} (d : Dk hd hc G) (s : Sm [] G G') : Dk hd hc G' := d.sm s (by simp) (by simp)
theorem Dk.lt {hd hc : Nat} {G : Sto} (d : Dk hd hc G) : hd < G.length ∧ hc < G.length := by
  obtain ⟨cs, m, t, e1, e2, _⟩ := d.ex
  exact ⟨lt_get e1, lt_get e2⟩
end Lw



namespace Lw
open Mi (Dv MO Sto Sl Rs bnd ME MT MA MS MF Fl MG MGs MI)
open PySem (PyData)
/-! ### blocks, what waits, what is newest -/
abbrev T (w : List Int) : Dv := .tup (w.map Dv.int)
def BlkD (x : Dv) : Prop := ∃ w, x = T w ∧ Blk w
theorem blkd_blank : BlkD d_BLANK := ⟨ns_BLANK, rfl, rfl, fun w hw => by rw [(List.mem_replicate.mp hw).2]; decide⟩
theorem snoc_ind {α : Type} {P : List α → Prop} (h0 : P []) (h1 : ∀ xs x, P xs → P (xs ++ [x])) (xs : List α) : P xs := by
  have : ∀ ys : List α, P ys.reverse := fun ys => by
    induction ys with
    | nil => exact h0
    | cons y ys ih => rw [List.reverse_cons]; exact h1 _ _ ih
  have q := this xs.reverse
  rw [List.reverse_reverse] at q
  exact q
/-- the newest blocks of what waits -/
def nwOf (its : List (Nat × Dv)) : List (Mi.Key × Dv) := its.foldl (fun m p => Mi.put m (Sum.inl (p.1 : Int)) p.2) []
theorem nwOf_app (its : List (Nat × Dv)) (p : Nat × Dv) : nwOf (its ++ [p]) = Mi.put (nwOf its) (Sum.inl (p.1 : Int)) p.2 := by
  unfold nwOf
  rw [List.foldl_append]
  rfl
theorem look_map_ne {k k' : Mi.Key} {v : Dv} (h : k' ≠ k) : ∀ m : List (Mi.Key × Dv), Mi.look (m.map fun kv => if kv.1 = k then (kv.1, v) else kv) k' = Mi.look m k'
  | [] => rfl
  | (a, b) :: m => by
    have ih := look_map_ne (v := v) h m
    unfold Mi.look at ih ⊢
    rw [List.map_cons, List.find?_cons, List.find?_cons]
    by_cases ha : a = k
    · rw [if_pos ha]
      have : decide (a = k') = false := decide_eq_false fun e => h (e ▸ ha)
      simp only [this]
      exact ih
    · rw [if_neg ha]
      by_cases hk : a = k'
      · simp only [decide_eq_true hk]
      · simp only [decide_eq_false hk]
        exact ih
theorem look_map_eq {k : Mi.Key} {v : Dv} : ∀ m : List (Mi.Key × Dv), (m.any fun kv => decide (kv.1 = k)) = true → Mi.look (m.map fun kv => if kv.1 = k then (kv.1, v) else kv) k = some v
  | [], h => by cases h
  | (a, b) :: m, h => by
    unfold Mi.look
    rw [List.map_cons, List.find?_cons]
    by_cases ha : a = k
    · rw [if_pos ha]
      simp only [decide_eq_true ha]
      rfl
    · rw [if_neg ha]
      simp only [decide_eq_false ha]
      rw [List.any_cons, decide_eq_false ha, Bool.false_or] at h
      exact look_map_eq m h
theorem look_none {k : Mi.Key} : ∀ m : List (Mi.Key × Dv), (m.any fun kv => decide (kv.1 = k)) = false → m.find? (fun kv => decide (kv.1 = k)) = none
  | [], _ => rfl
  | (a, b) :: m, h => by
    rw [List.any_cons, Bool.or_eq_false_iff] at h
    rw [List.find?_cons, h.1]
    exact look_none m h.2
theorem look_put (m : List (Mi.Key × Dv)) (k k' : Mi.Key) (v : Dv) : Mi.look (Mi.put m k v) k' = if k' = k then some v else Mi.look m k' := by
  unfold Mi.put
  by_cases h : (m.any fun kv => decide (kv.1 = k)) = true
  · rw [if_pos h]
    by_cases e : k' = k
    · rw [if_pos e, e]
      exact look_map_eq m h
    · rw [if_neg e]
      exact look_map_ne e m
  · rw [if_neg h]
    have h' : (m.any fun kv => decide (kv.1 = k)) = false := Bool.eq_false_iff.mpr h
    unfold Mi.look
    rw [List.find?_append]
    by_cases e : k' = k
    · subst e
      rw [if_pos rfl, look_none m h']
      simp
    · rw [if_neg e]
      have : ([(k, v)] : List (Mi.Key × Dv)).find? (fun kv => decide (kv.1 = k')) = none := by
        rw [List.find?_cons]
        simp only [decide_eq_false (show ¬ k = k' from fun z => e z.symm)]
        rfl
      rw [this]
      simp
/-- the newest block of a place among what waits -/
def rd (its : List (Nat × Dv)) (p : Nat) : Option Dv := (its.reverse.find? fun q => decide (q.1 = p)).map (·.2)
theorem look_nw (p : Nat) : ∀ its : List (Nat × Dv), Mi.look (nwOf its) (Sum.inl (p : Int)) = rd its p := by
  refine snoc_ind rfl fun its q ih => ?_
  · skip
    rw [nwOf_app, look_put, ih]
    unfold rd
    rw [List.reverse_append, List.reverse_singleton, List.singleton_append, List.find?_cons]
    by_cases e : q.1 = p
    · rw [if_pos (by rw [e]), decide_eq_true e]
      rfl
    · rw [if_neg (by intro z; apply e; have := Sum.inl.inj z; omega), decide_eq_false e]
theorem nw_len : ∀ its : List (Nat × Dv), (nwOf its).length ≤ its.length := by
  refine snoc_ind (Nat.le_refl _) fun its q ih => ?_
  · skip
    rw [nwOf_app, List.length_append]
    unfold Mi.put
    split
    · rw [List.length_map]; simp; omega
    · rw [List.length_append]; simp <;> omega
/-- a torn write: m words of the new one, the others as they stood -/
def mix (m : Int) : Dv → Dv → Dv
  | .tup a, .tup b => .tup (Mi.cut a none (some m) ++ Mi.cut b (some m) none)
  | x, _ => x
theorem cut_lo (a : List Dv) (m : Nat) (h : m ≤ a.length) : Mi.cut a none (some (m : Int)) = a.take m := by
  unfold Mi.cut Mi.sIx
  simp only
  rw [if_neg (by omega)]
  have e : min (m : Int).toNat a.length = m := Nat.min_eq_left h
  rw [e, List.drop_zero, Nat.sub_zero]
theorem cut_hi (a : List Dv) (m : Nat) (h : m ≤ a.length) : Mi.cut a (some (m : Int)) none = a.drop m := by
  unfold Mi.cut Mi.sIx
  simp only
  rw [if_neg (by omega)]
  have e : min (m : Int).toNat a.length = m := Nat.min_eq_left h
  rw [e, List.take_of_length_le]
  rw [List.length_drop]
  exact Nat.le_refl _
theorem mix_blk {x y : Dv} {m : Nat} (hx : BlkD x) (hy : BlkD y) (h : m ≤ 32) : BlkD (mix m x y) := by
  obtain ⟨w, rfl, b1⟩ := hx
  obtain ⟨v, rfl, b2⟩ := hy
  refine ⟨w.take m ++ v.drop m, ?_, ?_, fun z hz => ?_⟩
  · unfold mix
    dsimp only
    rw [cut_lo _ _ (by rw [List.length_map, b1.1]; exact h), cut_hi _ _ (by rw [List.length_map, b2.1]; exact h)]
    show Dv.tup _ = Dv.tup _
    rw [List.map_append, List.map_take, List.map_drop]
  · rw [List.length_append, List.length_take, List.length_drop, b1.1, b2.1]
    omega
  · rcases (List.mem_append.mp hz : _ ∨ _) with q | q
    · exact b1.2 z (List.mem_of_mem_take q)
    · exact b2.2 z (List.mem_of_mem_drop q)
theorem mix_zero {x y : Dv} (hx : BlkD x) (hy : BlkD y) : mix 0 x y = y := by
  obtain ⟨w, rfl, b1⟩ := hx
  obtain ⟨v, rfl, b2⟩ := hy
  have := cut_lo (w.map Dv.int) 0 (Nat.zero_le _)
  have h2 := cut_hi (v.map Dv.int) 0 (Nat.zero_le _)
  unfold mix
  dsimp only
  rw [show (0 : Int) = ((0 : Nat) : Int) from rfl, this, h2]
  rfl
/-- all that waits, torn by the keep -/
def cutAll : List Dv → List (Nat × Dv) → List Nat → List Dv
  | bl, p :: its, m :: ks => cutAll (bl.set p.1 (mix m p.2 (bl.getD p.1 .non))) its ks
  | bl, _, _ => bl
end Lw


namespace Lw
open Mi (Dv MO Sto Sl Rs bnd ME MT MA MS MF Fl MG MGs MI)
open PySem (PyData)
theorem atI_nat {xs : List Dv} {p : Nat} (h : p < xs.length) : Mi.atI xs (p : Int) = some (xs.getD p .non) := by
  unfold Mi.atI
  rw [ixN_nat h]
  show xs[p]? = _
  simp only [List.getElem?_eq_getElem h, List.getD_eq_getElem?_getD]
  rfl
theorem cut_le (xs : List Dv) (lo hi : Option Int) : (Mi.cut xs lo hi).length ≤ xs.length := by
  unfold Mi.cut
  simp only [List.length_take, List.length_drop]
  omega
theorem blk_len {x : Dv} (h : BlkD x) : ∃ a, x = .tup a ∧ a.length = 32 := by
  obtain ⟨w, rfl, b⟩ := h
  exact ⟨_, rfl, by rw [List.length_map]; exact b.1⟩
theorem mixE (a b : List Dv) (m : Int) (G : Sto) (h1 : a.length = 32) (h2 : b.length = 32) : Mi.bAdd false (.tup (Mi.cut a none (some m))) (.tup (Mi.cut b (some m) none)) G = some (mix m (.tup a) (.tup b), G) := by
  unfold Mi.bAdd
  dsimp only
  rw [if_pos]
  · rfl
  · have := cut_le a none (some m)
    have := cut_le b (some m) none
    show _ ≤ 16777216
    omega
/-- the law's own disk -/
def itD (s k : Int) (hs : Nat) (wt fu : Dv) : List (Mi.Key × Dv) := [(Sum.inr "sizes", .tup [.int s, .int k, .int (N' s k), .int (R' s k)]), (Sum.inr "stand", .ref hs), (Sum.inr "wait", wt), (Sum.inr "fuse", fu)]
section
variable {G : Sto} {hi hs h hb hq hn : Nat} {s k : Int} {bl : List Dv} {its : List (Nat × Dv)} {nw : List (Mi.Key × Dv)}
/-- the law's read -/
theorem qOf_rev (its : List (Nat × Dv)) : (qOf its).reverse = qOf its.reverse := by unfold qOf; rw [List.map_reverse]
end
end Lw


namespace Lw
open Mi (Dv MO Sto Sl Rs bnd ME MT MA MS MF Fl MG MGs MI)
open PySem (PyData)
def AllB (bl : List Dv) : Prop := ∀ x ∈ bl, BlkD x
theorem AllB.get {bl : List Dv} (h : AllB bl) {p : Nat} (hp : p < bl.length) : BlkD (bl.getD p .non) := by
  rw [List.getD_eq_getElem?_getD, List.getElem?_eq_getElem hp]
  exact h _ (List.getElem_mem hp)
theorem AllB.set {bl : List Dv} (h : AllB bl) (p : Nat) {x : Dv} (hx : BlkD x) : AllB (bl.set p x) := fun y hy => by
  rcases List.mem_or_eq_of_mem_set hy with q | q
  · exact h y q
  · rw [q]; exact hx
theorem set_same {bl : List Dv} {p : Nat} (hp : p < bl.length) : bl.set p (bl.getD p .non) = bl := by
  rw [List.getD_eq_getElem?_getD, List.getElem?_eq_getElem hp]
  exact List.set_getElem_self hp
theorem enum_cons (n : Nat) (p : Nat × Dv) (r : List (Nat × Dv)) : Mi.enumD n (qOf (p :: r)) = .tup [.int (n : Nat), .tup [.int p.1, p.2]] :: Mi.enumD (n + 1) (qOf r) := rfl
section
variable {G : Sto} {hi hs h hb hq hn : Nat} {s k : Int} {bl : List Dv} {its : List (Nat × Dv)} {nw : List (Mi.Key × Dv)}
/-- one torn write of the law's own -/
theorem tearE {a b : Dv} (ha : BlkD a) (hb : BlkD b) (m : Int) (G : Sto) : (∃ xs ys, a = .tup xs ∧ b = .tup ys ∧ Mi.bAdd false (.tup (Mi.cut xs none (some m))) (.tup (Mi.cut ys (some m) none)) G = some (mix m a b, G)) := by
  obtain ⟨xs, rfl, l1⟩ := blk_len ha
  obtain ⟨ys, rfl, l2⟩ := blk_len hb
  exact ⟨xs, ys, rfl, rfl, mixE xs ys m G l1 l2⟩
end
end Lw


namespace Lw
open Mi (Dv MO Sto Sl Rs bnd ME MT MA MS MF Fl MG MGs MI)
open PySem (PyData)
abbrev kD (ks : List Nat) : List Dv := ks.map fun m => .int (m : Nat)
theorem lst_ref {G : Sto} {h : Nat} {xs : List Dv} (e : G[h]? = some (.lst xs)) : Mi.lstOf G (.ref h) = some xs := by simp only [Mi.lstOf, e]
section
variable {G : Sto} {hi hs h hb hq hn : Nat} {s k : Int} {bl : List Dv} {its : List (Nat × Dv)} {nw : List (Mi.Key × Dv)}
end
end Lw


namespace Lw
open Mi (Dv MO Sto Sl Rs bnd ME MT MA MS MF Fl MG MGs MI)
open PySem (PyData)
theorem lc_drw {hd hc i : Nat} {e : ME} {δ : Sl} {G : Sto} {P : Int → Prop} (d0 : Dk hd hc G) (ds : List Dv) (he : ∀ d ∈ ds, ∀ G1, Dr hd hc G G1 → ∃ y G', e (δ.set i (some d)) G1 = some (.int y, G') ∧ P y ∧ Dr hd hc G1 G') (hb : ds.length < 1000) :
    ∃ (ws : List Int) (G' : Sto), Mi.mLcLoop (Mi.gNm i) Mi.tYes e (fun _ => True) δ ds [] G = some (ws.map Dv.int, G') ∧ ws.length = ds.length ∧ (∀ w ∈ ws, P w) ∧ Dr hd hc G G' := by
  obtain ⟨acc, G', e1, ws, rfl, hl, hw, hr⟩ := lc_inv (g := Mi.gNm i) (t := Mi.tYes) (e := e) (st := fun _ => True) (δ := δ)
    (P := fun r acc G' => (∃ ws : List Int, acc = ws.map Dv.int ∧ ws.length + r.length = ds.length ∧ (∀ w ∈ ws, P w) ∧ Dr hd hc G G' ∧ ∀ d ∈ r, d ∈ ds))
    (fun d r acc G1 ⟨ws, ea, hl, hw, hr, hm⟩ => by
      obtain ⟨y, G2, e2, hy, r2⟩ := he d (hm d (List.mem_cons_self ..)) G1 hr
      rw [List.length_cons] at hl
      refine ⟨trivial, ?_, _, _, rfl, _, rfl, _, _, e2, ws ++ [y], ?_, ?_, ?_, hr.trans r2, fun x hx => hm x (List.mem_cons_of_mem _ hx)⟩
      · rw [ea, List.length_map]
        show ws.length < 16777216
        omega
      · rw [ea, List.map_append]; rfl
      · simp only [List.length_append, List.length_singleton]
        omega
      · intro w hw'
        rcases List.mem_append.mp hw' with q | q
        · exact hw w q
        · rw [List.mem_singleton.mp q]
          exact hy)
    (fun _ _ _ => trivial) ds [] G ⟨[], rfl, by simp, by simp, ⟨d0, Sm.refl, rfl⟩, fun d h => h⟩
  exact ⟨ws, G', e1, by simpa using hl, hw, hr.1⟩
theorem lc_pure {g : MG} {e : ME} {st : Sto → Prop} {δ : Sl} {f : Dv → Dv} {G : Sto} (hs : st G) : ∀ (ds acc : List Dv), (∀ d ∈ ds, ∃ δ1, g d δ G = some (δ1, G) ∧ e δ1 G = some (f d, G)) → acc.length + ds.length ≤ Mi.big →
    Mi.mLcLoop g Mi.tYes e st δ ds acc G = some (acc ++ ds.map f, G)
  | [], acc, _, _ => by unfold Mi.mLcLoop; rw [if_pos hs]; simp
  | d :: ds, acc, he, hb => by
    have h1 : acc.length < Mi.big := by rw [List.length_cons] at hb; omega
    obtain ⟨δ1, e1, e2⟩ := he d (List.mem_cons_self ..)
    unfold Mi.mLcLoop
    rw [if_pos ⟨hs, h1⟩, e1]
    simp only [Mi.tYes]
    rw [e2]
    dsimp only
    rw [lc_pure hs ds (acc ++ [f d]) (fun x hx => he x (List.mem_cons_of_mem _ hx)) (by rw [List.length_append]; simp at hb ⊢; omega)]
    simp
theorem kD_of {ws : List Int} (h : ∀ w ∈ ws, 0 ≤ w ∧ w ≤ 32) : ws.map Dv.int = kD (ws.map Int.toNat) ∧ ∀ m ∈ ws.map Int.toNat, m ≤ 32 := by
  refine ⟨?_, fun m hm => ?_⟩
  · show _ = (ws.map Int.toNat).map _
    rw [List.map_map]
    refine List.map_congr_left fun w hw => ?_
    show Dv.int w = Dv.int (w.toNat : Int)
    rw [Int.toNat_of_nonneg (h w hw).1]
  · obtain ⟨w, hw, rfl⟩ := List.mem_map.mp hm
    have := h w hw
    omega
theorem rng_toNat (z : Int) : (Mi.rng 0 z).length = z.toNat := by simp [Mi.rng]
/-! ### what repr tells of blocks -/
theorem re_blk {x : Dv} (h : BlkD x) : ∃ d, Re x d 707 1 := by
  obtain ⟨w, rfl, b⟩ := h
  have := re_tup (re_ints fun z hz => abs18' (b.2 z hz))
  rw [b.1] at this
  exact ⟨_, this⟩
theorem re_bl : ∀ {bl : List Dv}, AllB bl → ∃ ds, ReL bl ds (709 * bl.length) 1
  | [], _ => ⟨[], re_nil⟩
  | x :: bl, h => by
    obtain ⟨d, hd⟩ := re_blk (h x (List.mem_cons_self ..))
    obtain ⟨ds, hds⟩ := re_bl (bl := bl) fun y hy => h y (List.mem_cons_of_mem _ hy)
    have := re_cons hd hds (Nat.le_refl _)
    rw [show 707 + 709 * bl.length + 2 = 709 * (x :: bl).length by rw [List.length_cons]; omega] at this
    exact ⟨_, this⟩
theorem re_q : ∀ {its : List (Nat × Dv)}, (∀ p ∈ its, p.1 < 100000 ∧ BlkD p.2) → ∃ ds, ReL (qOf its) ds (736 * its.length) 2
  | [], _ => ⟨[], re_nil⟩
  | p :: its, h => by
    have ⟨h1, h2⟩ := h p (List.mem_cons_self ..)
    obtain ⟨d, hd⟩ := re_blk h2
    obtain ⟨ds, hds⟩ := re_q (its := its) fun y hy => h y (List.mem_cons_of_mem _ hy)
    have hi : Re (.int (p.1 : Int)) (.int p.1) 20 0 := re_int (abs18 (by omega))
    have := re_cons (re_tup (re_cons hi (re_cons hd (re_nil (m := 1)) (Nat.le_refl _)) (by omega))) hds (Nat.le_refl _)
    rw [show 20 + (707 + 0 + 2) + 2 + 3 + 736 * its.length + 2 = 736 * (p :: its).length by rw [List.length_cons]; omega] at this
    exact ⟨_, this⟩
end Lw


namespace Lw
open Mi (Dv MO Sto Sl Rs bnd ME MT MA MS MF Fl MG MGs MI)
open Ms (mExtend mPar3 fMaxL mLc2 mLc2Loop)
/-! ### what both judges look at in a block -/
def mid (w : List Int) : List Int := (w.drop 3).take 28
def bad (n : Int) (i : Nat) (w : List Int) : Bool := decide (n = 0) || (decide (w.getD 0 0 ≠ n) || (decide (w.getD 31 0 ≠ n) || (decide (w.getD 1 0 ≠ 3) || decide (w.getD 2 0 ≠ (i : Int)))))
def fstBad (n : Int) : Nat → List (List Int) → Option Nat
  | _, [] => none
  | i, w :: r => if bad n i w = true then some i else fstBad n (i + 1) r
def rowOf (bs : List (List Int)) : List Int := (bs.map mid).flatten
theorem w32 {w : List Int} (h : w.length = 32) : ∃ a0 a1 a2 a3 a4 a5 a6 a7 a8 a9 b0 b1 b2 b3 b4 b5 b6 b7 b8 b9 c0 c1 c2 c3 c4 c5 c6 c7 c8 c9 d0 d1 : Int, w = [a0, a1, a2, a3, a4, a5, a6, a7, a8, a9, b0, b1, b2, b3, b4, b5, b6, b7, b8, b9, c0, c1, c2, c3, c4, c5, c6, c7, c8, c9, d0, d1] := by
  match w, h with
  | [a0, a1, a2, a3, a4, a5, a6, a7, a8, a9, b0, b1, b2, b3, b4, b5, b6, b7, b8, b9, c0, c1, c2, c3, c4, c5, c6, c7, c8, c9, d0, d1], _ => exact ⟨_, _, _, _, _, _, _, _, _, _, _, _, _, _, _, _, _, _, _, _, _, _, _, _, _, _, _, _, _, _, _, _, rfl⟩
theorem wI0 {w : List Int} (h : w.length = 32) (G : Sto) : Mi.bSubs (T w) (.int 0) G = some (.int (w.getD 0 0), G) := by
  obtain ⟨a0, a1, a2, a3, a4, a5, a6, a7, a8, a9, b0, b1, b2, b3, b4, b5, b6, b7, b8, b9, c0, c1, c2, c3, c4, c5, c6, c7, c8, c9, d0, d1, rfl⟩ := w32 h
  rfl
theorem wI31 {w : List Int} (h : w.length = 32) (G : Sto) : Mi.bSubs (T w) (.int 31) G = some (.int (w.getD 31 0), G) := by
  obtain ⟨a0, a1, a2, a3, a4, a5, a6, a7, a8, a9, b0, b1, b2, b3, b4, b5, b6, b7, b8, b9, c0, c1, c2, c3, c4, c5, c6, c7, c8, c9, d0, d1, rfl⟩ := w32 h
  rfl
theorem wIm {w : List Int} (h : w.length = 32) (G : Sto) : Mi.bSubs (T w) (.int (-1)) G = some (.int (w.getD 31 0), G) := by
  obtain ⟨a0, a1, a2, a3, a4, a5, a6, a7, a8, a9, b0, b1, b2, b3, b4, b5, b6, b7, b8, b9, c0, c1, c2, c3, c4, c5, c6, c7, c8, c9, d0, d1, rfl⟩ := w32 h
  rfl
theorem wC13 {w : List Int} (h : w.length = 32) : Mi.cut (w.map Dv.int) (some 1) (some 3) = [.int (w.getD 1 0), .int (w.getD 2 0)] := by
  obtain ⟨a0, a1, a2, a3, a4, a5, a6, a7, a8, a9, b0, b1, b2, b3, b4, b5, b6, b7, b8, b9, c0, c1, c2, c3, c4, c5, c6, c7, c8, c9, d0, d1, rfl⟩ := w32 h
  rfl
theorem wC03 {w : List Int} (h : w.length = 32) : Mi.cut (w.map Dv.int) none (some 3) = [.int (w.getD 0 0), .int (w.getD 1 0), .int (w.getD 2 0)] := by
  obtain ⟨a0, a1, a2, a3, a4, a5, a6, a7, a8, a9, b0, b1, b2, b3, b4, b5, b6, b7, b8, b9, c0, c1, c2, c3, c4, c5, c6, c7, c8, c9, d0, d1, rfl⟩ := w32 h
  rfl
theorem wC331 {w : List Int} (h : w.length = 32) : Mi.cut (w.map Dv.int) (some 3) (some 31) = (mid w).map Dv.int := by
  obtain ⟨a0, a1, a2, a3, a4, a5, a6, a7, a8, a9, b0, b1, b2, b3, b4, b5, b6, b7, b8, b9, c0, c1, c2, c3, c4, c5, c6, c7, c8, c9, d0, d1, rfl⟩ := w32 h
  rfl
theorem wC3m {w : List Int} (h : w.length = 32) : Mi.cut (w.map Dv.int) (some 3) (some (-1)) = (mid w).map Dv.int := by
  obtain ⟨a0, a1, a2, a3, a4, a5, a6, a7, a8, a9, b0, b1, b2, b3, b4, b5, b6, b7, b8, b9, c0, c1, c2, c3, c4, c5, c6, c7, c8, c9, d0, d1, rfl⟩ := w32 h
  rfl
theorem mid_len {w : List Int} (h : w.length = 32) : (mid w).length = 28 := by unfold mid; rw [List.length_take, List.length_drop, h]; rfl
/-- the program's look at one block -/
theorem prog_body {w : List Int} (h : w.length = 32) (n : Int) (i : Nat) (a : Option Dv) (G : Sto) :
    qb_broken_at_1 [a, some (.int n), some (.int i), some (T w)] G = if bad n i w = true then some (.rt (.int i), [a, some (.int n), some (.int i), some (T w)], G) else some (.nx, [a, some (.int n), some (.int i), some (T w)], G) := by
  unfold bad
  by_cases h0 : n = 0
  · simp only [Mi.bnd, Mi.mVar, Mi.mC, Mi.mkL, Mi.m2, Mi.m1, Mi.uNeg, Mi.bAdd, Mi.bSub, Mi.bDiv, Mi.bMod, Mi.bPow, Mi.sEq, Mi.bEq, Mi.bCmp, Mi.bLt, Mi.bLe, Mi.bGt, Mi.bGe, Mi.isNon, Mi.mIsN, Mi.mChain, Mi.mAnd, Mi.mOr, Mi.mNot, Mi.mTb, Mi.mTand, Mi.mTor, Mi.mTnot, Mi.mIf, Mi.mNil, Mi.mCons, Mi.mTup, Mi.mLst, Mi.mB, Mi.kOf, Mi.mFld, Mi.mCall, Mi.mCallK, Mi.mMeth, Mi.mMethK, Mi.mDef, Mi.fInt, Mi.fMax, Mi.fMin, Mi.isI, Mi.mIsI, Ms.mIsC, Mi.gNm, Mi.gNil, Mi.gCons, Mi.gTup, Mi.mSeq, Mi.mSkip, Mi.mBrk, Mi.mCont, Mi.mAsg, Mi.mPar, Mi.mExpr, Mi.mRet, Mi.mRetN, Mi.mIfS, Mi.tYes, Mi.wipe, Ms.mDct0, Ms.bAddI, List.map_cons, List.map_nil, List.nil_append, List.cons_append, List.length_cons, List.length_nil, List.replicate_succ, List.replicate_zero, List.getElem?_cons_zero, List.getElem?_cons_succ, List.getElem?_nil, List.set_cons_zero, List.set_cons_succ, Option.map_some, Option.map_none, if_true, if_false, reduceIte, decide_true, decide_false, Nat.reduceAdd, Nat.reduceLeDiff, List.mem_cons, List.mem_singleton, true_or, or_true, true_and, and_true, bne_self_eq_false, Bool.not_true, Bool.not_false, reduceCtorEq, Nat.reduceEqDiff, beq_self_eq_true, Nat.reduceLT, Int.reduceLT, Int.reduceLE, Int.reduceToNat, Int.reduceAdd, Int.reduceSub, Int.reduceMul, Int.reduceNeg, String.reduceEq, String.reduceBEq, List.lookup_cons, List.lookup_nil, Mi.big, Mi.putF, List.length_append, List.append_assoc, ite_true, ite_false, Bool.false_eq_true, and_self, not_true_eq_false, not_false_eq_true, Sum.inr.injEq, Sum.inl.injEq, Mi.look, Mi.put, List.any_cons, List.any_nil, Bool.or_true, Bool.or_false, Bool.true_or, Bool.false_or, List.find?_cons, Option.getD_some, Option.getD_none, Bool.bne_false, Bool.false_bne, Bool.true_bne, Bool.bne_true, Int.reduceEq, Int.reducePow, qb_broken_at_1, h0]
  · by_cases h1 : [w.getD 0 0, w.getD 1 0, w.getD 2 0] = [n, 3, (i : Int)]
    · have q := h1
      simp only [List.cons.injEq, and_true] at q
      by_cases h2 : w.getD 31 0 = n
      · simp only [Mi.bnd, Mi.mVar, Mi.mC, Mi.mkL, Mi.m2, Mi.m1, Mi.uNeg, Mi.bAdd, Mi.bSub, Mi.bDiv, Mi.bMod, Mi.bPow, Mi.sEq, Mi.bEq, Mi.bCmp, Mi.bLt, Mi.bLe, Mi.bGt, Mi.bGe, Mi.isNon, Mi.mIsN, Mi.mChain, Mi.mAnd, Mi.mOr, Mi.mNot, Mi.mTb, Mi.mTand, Mi.mTor, Mi.mTnot, Mi.mIf, Mi.mNil, Mi.mCons, Mi.mTup, Mi.mLst, Mi.mB, Mi.kOf, Mi.mFld, Mi.mCall, Mi.mCallK, Mi.mMeth, Mi.mMethK, Mi.mDef, Mi.fInt, Mi.fMax, Mi.fMin, Mi.isI, Mi.mIsI, Ms.mIsC, Mi.gNm, Mi.gNil, Mi.gCons, Mi.gTup, Mi.mSeq, Mi.mSkip, Mi.mBrk, Mi.mCont, Mi.mAsg, Mi.mPar, Mi.mExpr, Mi.mRet, Mi.mRetN, Mi.mIfS, Mi.tYes, Mi.wipe, Ms.mDct0, Ms.bAddI, List.map_cons, List.map_nil, List.nil_append, List.cons_append, List.length_cons, List.length_nil, List.replicate_succ, List.replicate_zero, List.getElem?_cons_zero, List.getElem?_cons_succ, List.getElem?_nil, List.set_cons_zero, List.set_cons_succ, Option.map_some, Option.map_none, if_true, if_false, reduceIte, decide_true, decide_false, Nat.reduceAdd, Nat.reduceLeDiff, List.mem_cons, List.mem_singleton, true_or, or_true, true_and, and_true, bne_self_eq_false, Bool.not_true, Bool.not_false, reduceCtorEq, Nat.reduceEqDiff, beq_self_eq_true, Nat.reduceLT, Int.reduceLT, Int.reduceLE, Int.reduceToNat, Int.reduceAdd, Int.reduceSub, Int.reduceMul, Int.reduceNeg, String.reduceEq, String.reduceBEq, List.lookup_cons, List.lookup_nil, Mi.big, Mi.putF, List.length_append, List.append_assoc, ite_true, ite_false, Bool.false_eq_true, and_self, not_true_eq_false, not_false_eq_true, Sum.inr.injEq, Sum.inl.injEq, Mi.look, Mi.put, List.any_cons, List.any_nil, Bool.or_true, Bool.or_false, Bool.true_or, Bool.false_or, List.find?_cons, Option.getD_some, Option.getD_none, Bool.bne_false, Bool.false_bne, Bool.true_bne, Bool.bne_true, Int.reduceEq, Int.reducePow, qb_broken_at_1, h0, h1, h2, wC03 h, wIm h, Mi.mSlice, Mi.mO, Mi.qEq, Mi.intsOf, q.1, q.2.1, q.2.2]
        simp [h0]
      · simp only [Mi.bnd, Mi.mVar, Mi.mC, Mi.mkL, Mi.m2, Mi.m1, Mi.uNeg, Mi.bAdd, Mi.bSub, Mi.bDiv, Mi.bMod, Mi.bPow, Mi.sEq, Mi.bEq, Mi.bCmp, Mi.bLt, Mi.bLe, Mi.bGt, Mi.bGe, Mi.isNon, Mi.mIsN, Mi.mChain, Mi.mAnd, Mi.mOr, Mi.mNot, Mi.mTb, Mi.mTand, Mi.mTor, Mi.mTnot, Mi.mIf, Mi.mNil, Mi.mCons, Mi.mTup, Mi.mLst, Mi.mB, Mi.kOf, Mi.mFld, Mi.mCall, Mi.mCallK, Mi.mMeth, Mi.mMethK, Mi.mDef, Mi.fInt, Mi.fMax, Mi.fMin, Mi.isI, Mi.mIsI, Ms.mIsC, Mi.gNm, Mi.gNil, Mi.gCons, Mi.gTup, Mi.mSeq, Mi.mSkip, Mi.mBrk, Mi.mCont, Mi.mAsg, Mi.mPar, Mi.mExpr, Mi.mRet, Mi.mRetN, Mi.mIfS, Mi.tYes, Mi.wipe, Ms.mDct0, Ms.bAddI, List.map_cons, List.map_nil, List.nil_append, List.cons_append, List.length_cons, List.length_nil, List.replicate_succ, List.replicate_zero, List.getElem?_cons_zero, List.getElem?_cons_succ, List.getElem?_nil, List.set_cons_zero, List.set_cons_succ, Option.map_some, Option.map_none, if_true, if_false, reduceIte, decide_true, decide_false, Nat.reduceAdd, Nat.reduceLeDiff, List.mem_cons, List.mem_singleton, true_or, or_true, true_and, and_true, bne_self_eq_false, Bool.not_true, Bool.not_false, reduceCtorEq, Nat.reduceEqDiff, beq_self_eq_true, Nat.reduceLT, Int.reduceLT, Int.reduceLE, Int.reduceToNat, Int.reduceAdd, Int.reduceSub, Int.reduceMul, Int.reduceNeg, String.reduceEq, String.reduceBEq, List.lookup_cons, List.lookup_nil, Mi.big, Mi.putF, List.length_append, List.append_assoc, ite_true, ite_false, Bool.false_eq_true, and_self, not_true_eq_false, not_false_eq_true, Sum.inr.injEq, Sum.inl.injEq, Mi.look, Mi.put, List.any_cons, List.any_nil, Bool.or_true, Bool.or_false, Bool.true_or, Bool.false_or, List.find?_cons, Option.getD_some, Option.getD_none, Bool.bne_false, Bool.false_bne, Bool.true_bne, Bool.bne_true, Int.reduceEq, Int.reducePow, qb_broken_at_1, h0, h1, h2, wC03 h, wIm h, Mi.mSlice, Mi.mO, Mi.qEq, Mi.intsOf, q.1, q.2.1, q.2.2]
        simp [h0]
        simpa using h2
    · have q : (decide (n = 0) || (decide (w.getD 0 0 ≠ n) || (decide (w.getD 31 0 ≠ n) || (decide (w.getD 1 0 ≠ 3) || decide (w.getD 2 0 ≠ (i : Int)))))) = true := by
        simp only [List.cons.injEq, and_true] at h1
        simp only [Bool.or_eq_true, decide_eq_true_eq]
        omega
      rw [if_pos q]
      simp only [Mi.bnd, Mi.mVar, Mi.mC, Mi.mkL, Mi.m2, Mi.m1, Mi.uNeg, Mi.bAdd, Mi.bSub, Mi.bDiv, Mi.bMod, Mi.bPow, Mi.sEq, Mi.bEq, Mi.bCmp, Mi.bLt, Mi.bLe, Mi.bGt, Mi.bGe, Mi.isNon, Mi.mIsN, Mi.mChain, Mi.mAnd, Mi.mOr, Mi.mNot, Mi.mTb, Mi.mTand, Mi.mTor, Mi.mTnot, Mi.mIf, Mi.mNil, Mi.mCons, Mi.mTup, Mi.mLst, Mi.mB, Mi.kOf, Mi.mFld, Mi.mCall, Mi.mCallK, Mi.mMeth, Mi.mMethK, Mi.mDef, Mi.fInt, Mi.fMax, Mi.fMin, Mi.isI, Mi.mIsI, Ms.mIsC, Mi.gNm, Mi.gNil, Mi.gCons, Mi.gTup, Mi.mSeq, Mi.mSkip, Mi.mBrk, Mi.mCont, Mi.mAsg, Mi.mPar, Mi.mExpr, Mi.mRet, Mi.mRetN, Mi.mIfS, Mi.tYes, Mi.wipe, Ms.mDct0, Ms.bAddI, List.map_cons, List.map_nil, List.nil_append, List.cons_append, List.length_cons, List.length_nil, List.replicate_succ, List.replicate_zero, List.getElem?_cons_zero, List.getElem?_cons_succ, List.getElem?_nil, List.set_cons_zero, List.set_cons_succ, Option.map_some, Option.map_none, if_true, if_false, reduceIte, decide_true, decide_false, Nat.reduceAdd, Nat.reduceLeDiff, List.mem_cons, List.mem_singleton, true_or, or_true, true_and, and_true, bne_self_eq_false, Bool.not_true, Bool.not_false, reduceCtorEq, Nat.reduceEqDiff, beq_self_eq_true, Nat.reduceLT, Int.reduceLT, Int.reduceLE, Int.reduceToNat, Int.reduceAdd, Int.reduceSub, Int.reduceMul, Int.reduceNeg, String.reduceEq, String.reduceBEq, List.lookup_cons, List.lookup_nil, Mi.big, Mi.putF, List.length_append, List.append_assoc, ite_true, ite_false, Bool.false_eq_true, and_self, not_true_eq_false, not_false_eq_true, Sum.inr.injEq, Sum.inl.injEq, Mi.look, Mi.put, List.any_cons, List.any_nil, Bool.or_true, Bool.or_false, Bool.true_or, Bool.false_or, List.find?_cons, Option.getD_some, Option.getD_none, Bool.bne_false, Bool.false_bne, Bool.true_bne, Bool.bne_true, Int.reduceEq, Int.reducePow, qb_broken_at_1, h0, h1, wC03 h, wIm h, Mi.mSlice, Mi.mO, Mi.qEq, Mi.intsOf]

/-- the law's look at one block -/
theorem law_body {w : List Int} (h : w.length = 32) (n : Int) (i : Nat) (a0 a1 a2 a3 c0 c1 c2 c3 c4 c5 c6 c7 : Option Dv) (G : Sto) (hw : Nat) (pre : List Int) (eG : G[hw]? = some (.lst (pre.map Dv.int))) (hp : pre.length ≤ 10000) :
    qb_law_judge_root_1 [a0, a1, a2, a3, some (.ref hw), some (.int n), some (.int i), some (T w), c0, c1, c2, c3, c4, c5, c6, c7] G =
      if bad n i w = true then some (.rt (.tup [.str "broken", .int i]), [a0, a1, a2, a3, some (.ref hw), some (.int n), some (.int i), some (T w), c0, c1, c2, c3, c4, c5, c6, c7], G)
      else some (.nx, [a0, a1, a2, a3, some (.ref hw), some (.int n), some (.int i), some (T w), c0, c1, c2, c3, c4, c5, c6, c7], G.set hw (.lst ((pre ++ mid w).map Dv.int))) := by
  have l : (pre.map Dv.int).length + ((mid w).map Dv.int).length ≤ 16777216 := by rw [List.length_map, List.length_map, mid_len h]; omega
  by_cases h0 : n = 0
  · have q : bad n i w = true := by unfold bad; simp [h0]
    rw [if_pos q]
    simp only [Mi.bnd, Mi.mVar, Mi.mC, Mi.mkL, Mi.m2, Mi.m1, Mi.uNeg, Mi.bAdd, Mi.bSub, Mi.bDiv, Mi.bMod, Mi.bPow, Mi.sEq, Mi.bEq, Mi.bCmp, Mi.bLt, Mi.bLe, Mi.bGt, Mi.bGe, Mi.isNon, Mi.mIsN, Mi.mChain, Mi.mAnd, Mi.mOr, Mi.mNot, Mi.mTb, Mi.mTand, Mi.mTor, Mi.mTnot, Mi.mIf, Mi.mNil, Mi.mCons, Mi.mTup, Mi.mLst, Mi.mB, Mi.kOf, Mi.mFld, Mi.mCall, Mi.mCallK, Mi.mMeth, Mi.mMethK, Mi.mDef, Mi.fInt, Mi.fMax, Mi.fMin, Mi.isI, Mi.mIsI, Ms.mIsC, Mi.gNm, Mi.gNil, Mi.gCons, Mi.gTup, Mi.mSeq, Mi.mSkip, Mi.mBrk, Mi.mCont, Mi.mAsg, Mi.mPar, Mi.mExpr, Mi.mRet, Mi.mRetN, Mi.mIfS, Mi.tYes, Mi.wipe, Ms.mDct0, Ms.bAddI, List.map_cons, List.map_nil, List.nil_append, List.cons_append, List.length_cons, List.length_nil, List.replicate_succ, List.replicate_zero, List.getElem?_cons_zero, List.getElem?_cons_succ, List.getElem?_nil, List.set_cons_zero, List.set_cons_succ, Option.map_some, Option.map_none, if_true, if_false, reduceIte, decide_true, decide_false, Nat.reduceAdd, Nat.reduceLeDiff, List.mem_cons, List.mem_singleton, true_or, or_true, true_and, and_true, bne_self_eq_false, Bool.not_true, Bool.not_false, reduceCtorEq, Nat.reduceEqDiff, beq_self_eq_true, Nat.reduceLT, Int.reduceLT, Int.reduceLE, Int.reduceToNat, Int.reduceAdd, Int.reduceSub, Int.reduceMul, Int.reduceNeg, String.reduceEq, String.reduceBEq, List.lookup_cons, List.lookup_nil, Mi.big, Mi.putF, List.length_append, List.append_assoc, ite_true, ite_false, Bool.false_eq_true, and_self, not_true_eq_false, not_false_eq_true, Sum.inr.injEq, Sum.inl.injEq, Mi.look, Mi.put, List.any_cons, List.any_nil, Bool.or_true, Bool.or_false, Bool.true_or, Bool.false_or, List.find?_cons, Option.getD_some, Option.getD_none, Bool.bne_false, Bool.false_bne, Bool.true_bne, Bool.bne_true, Int.reduceEq, Int.reducePow, qb_law_judge_root_1, h0]
  · by_cases h1 : [w.getD 0 0, w.getD 31 0] = [n, n]
    · have q1 := h1
      simp only [List.cons.injEq, and_true] at q1
      by_cases h2 : [w.getD 1 0, w.getD 2 0] = [3, (i : Int)]
      · have q2 := h2
        simp only [List.cons.injEq, and_true] at q2
        have q : bad n i w = false := by
          unfold bad
          rw [q1.1, q1.2, q2.1, q2.2]
          simp [h0]
        rw [if_neg (by rw [q]; exact Bool.false_ne_true)]
        simp only [Mi.bnd, Mi.mVar, Mi.mC, Mi.mkL, Mi.m2, Mi.m1, Mi.uNeg, Mi.bAdd, Mi.bSub, Mi.bDiv, Mi.bMod, Mi.bPow, Mi.sEq, Mi.bEq, Mi.bCmp, Mi.bLt, Mi.bLe, Mi.bGt, Mi.bGe, Mi.isNon, Mi.mIsN, Mi.mChain, Mi.mAnd, Mi.mOr, Mi.mNot, Mi.mTb, Mi.mTand, Mi.mTor, Mi.mTnot, Mi.mIf, Mi.mNil, Mi.mCons, Mi.mTup, Mi.mLst, Mi.mB, Mi.kOf, Mi.mFld, Mi.mCall, Mi.mCallK, Mi.mMeth, Mi.mMethK, Mi.mDef, Mi.fInt, Mi.fMax, Mi.fMin, Mi.isI, Mi.mIsI, Ms.mIsC, Mi.gNm, Mi.gNil, Mi.gCons, Mi.gTup, Mi.mSeq, Mi.mSkip, Mi.mBrk, Mi.mCont, Mi.mAsg, Mi.mPar, Mi.mExpr, Mi.mRet, Mi.mRetN, Mi.mIfS, Mi.tYes, Mi.wipe, Ms.mDct0, Ms.bAddI, List.map_cons, List.map_nil, List.nil_append, List.cons_append, List.length_cons, List.length_nil, List.replicate_succ, List.replicate_zero, List.getElem?_cons_zero, List.getElem?_cons_succ, List.getElem?_nil, List.set_cons_zero, List.set_cons_succ, Option.map_some, Option.map_none, if_true, if_false, reduceIte, decide_true, decide_false, Nat.reduceAdd, Nat.reduceLeDiff, List.mem_cons, List.mem_singleton, true_or, or_true, true_and, and_true, bne_self_eq_false, Bool.not_true, Bool.not_false, reduceCtorEq, Nat.reduceEqDiff, beq_self_eq_true, Nat.reduceLT, Int.reduceLT, Int.reduceLE, Int.reduceToNat, Int.reduceAdd, Int.reduceSub, Int.reduceMul, Int.reduceNeg, String.reduceEq, String.reduceBEq, List.lookup_cons, List.lookup_nil, Mi.big, Mi.putF, List.length_append, List.append_assoc, ite_true, ite_false, Bool.false_eq_true, and_self, not_true_eq_false, not_false_eq_true, Sum.inr.injEq, Sum.inl.injEq, Mi.look, Mi.put, List.any_cons, List.any_nil, Bool.or_true, Bool.or_false, Bool.true_or, Bool.false_or, List.find?_cons, Option.getD_some, Option.getD_none, Bool.bne_false, Bool.false_bne, Bool.true_bne, Bool.bne_true, Int.reduceEq, Int.reducePow, qb_law_judge_root_1, h0, h1, h2, wC13 h, wI0 h, wI31 h, wC331 h, Mi.mSlice, Mi.mO, Mi.qEq, Mi.intsOf, mExtend, eG, l, List.map_append]
      · have q : bad n i w = true := by
          simp only [List.cons.injEq, and_true] at h2
          unfold bad
          simp only [Bool.or_eq_true, decide_eq_true_eq]
          omega
        rw [if_pos q]
        simp only [Mi.bnd, Mi.mVar, Mi.mC, Mi.mkL, Mi.m2, Mi.m1, Mi.uNeg, Mi.bAdd, Mi.bSub, Mi.bDiv, Mi.bMod, Mi.bPow, Mi.sEq, Mi.bEq, Mi.bCmp, Mi.bLt, Mi.bLe, Mi.bGt, Mi.bGe, Mi.isNon, Mi.mIsN, Mi.mChain, Mi.mAnd, Mi.mOr, Mi.mNot, Mi.mTb, Mi.mTand, Mi.mTor, Mi.mTnot, Mi.mIf, Mi.mNil, Mi.mCons, Mi.mTup, Mi.mLst, Mi.mB, Mi.kOf, Mi.mFld, Mi.mCall, Mi.mCallK, Mi.mMeth, Mi.mMethK, Mi.mDef, Mi.fInt, Mi.fMax, Mi.fMin, Mi.isI, Mi.mIsI, Ms.mIsC, Mi.gNm, Mi.gNil, Mi.gCons, Mi.gTup, Mi.mSeq, Mi.mSkip, Mi.mBrk, Mi.mCont, Mi.mAsg, Mi.mPar, Mi.mExpr, Mi.mRet, Mi.mRetN, Mi.mIfS, Mi.tYes, Mi.wipe, Ms.mDct0, Ms.bAddI, List.map_cons, List.map_nil, List.nil_append, List.cons_append, List.length_cons, List.length_nil, List.replicate_succ, List.replicate_zero, List.getElem?_cons_zero, List.getElem?_cons_succ, List.getElem?_nil, List.set_cons_zero, List.set_cons_succ, Option.map_some, Option.map_none, if_true, if_false, reduceIte, decide_true, decide_false, Nat.reduceAdd, Nat.reduceLeDiff, List.mem_cons, List.mem_singleton, true_or, or_true, true_and, and_true, bne_self_eq_false, Bool.not_true, Bool.not_false, reduceCtorEq, Nat.reduceEqDiff, beq_self_eq_true, Nat.reduceLT, Int.reduceLT, Int.reduceLE, Int.reduceToNat, Int.reduceAdd, Int.reduceSub, Int.reduceMul, Int.reduceNeg, String.reduceEq, String.reduceBEq, List.lookup_cons, List.lookup_nil, Mi.big, Mi.putF, List.length_append, List.append_assoc, ite_true, ite_false, Bool.false_eq_true, and_self, not_true_eq_false, not_false_eq_true, Sum.inr.injEq, Sum.inl.injEq, Mi.look, Mi.put, List.any_cons, List.any_nil, Bool.or_true, Bool.or_false, Bool.true_or, Bool.false_or, List.find?_cons, Option.getD_some, Option.getD_none, Bool.bne_false, Bool.false_bne, Bool.true_bne, Bool.bne_true, Int.reduceEq, Int.reducePow, qb_law_judge_root_1, h0, h1, h2, wC13 h, wI0 h, wI31 h, Mi.mSlice, Mi.mO, Mi.qEq, Mi.intsOf]
    · have q : bad n i w = true := by
        simp only [List.cons.injEq, and_true] at h1
        unfold bad
        simp only [Bool.or_eq_true, decide_eq_true_eq]
        omega
      rw [if_pos q]
      simp only [Mi.bnd, Mi.mVar, Mi.mC, Mi.mkL, Mi.m2, Mi.m1, Mi.uNeg, Mi.bAdd, Mi.bSub, Mi.bDiv, Mi.bMod, Mi.bPow, Mi.sEq, Mi.bEq, Mi.bCmp, Mi.bLt, Mi.bLe, Mi.bGt, Mi.bGe, Mi.isNon, Mi.mIsN, Mi.mChain, Mi.mAnd, Mi.mOr, Mi.mNot, Mi.mTb, Mi.mTand, Mi.mTor, Mi.mTnot, Mi.mIf, Mi.mNil, Mi.mCons, Mi.mTup, Mi.mLst, Mi.mB, Mi.kOf, Mi.mFld, Mi.mCall, Mi.mCallK, Mi.mMeth, Mi.mMethK, Mi.mDef, Mi.fInt, Mi.fMax, Mi.fMin, Mi.isI, Mi.mIsI, Ms.mIsC, Mi.gNm, Mi.gNil, Mi.gCons, Mi.gTup, Mi.mSeq, Mi.mSkip, Mi.mBrk, Mi.mCont, Mi.mAsg, Mi.mPar, Mi.mExpr, Mi.mRet, Mi.mRetN, Mi.mIfS, Mi.tYes, Mi.wipe, Ms.mDct0, Ms.bAddI, List.map_cons, List.map_nil, List.nil_append, List.cons_append, List.length_cons, List.length_nil, List.replicate_succ, List.replicate_zero, List.getElem?_cons_zero, List.getElem?_cons_succ, List.getElem?_nil, List.set_cons_zero, List.set_cons_succ, Option.map_some, Option.map_none, if_true, if_false, reduceIte, decide_true, decide_false, Nat.reduceAdd, Nat.reduceLeDiff, List.mem_cons, List.mem_singleton, true_or, or_true, true_and, and_true, bne_self_eq_false, Bool.not_true, Bool.not_false, reduceCtorEq, Nat.reduceEqDiff, beq_self_eq_true, Nat.reduceLT, Int.reduceLT, Int.reduceLE, Int.reduceToNat, Int.reduceAdd, Int.reduceSub, Int.reduceMul, Int.reduceNeg, String.reduceEq, String.reduceBEq, List.lookup_cons, List.lookup_nil, Mi.big, Mi.putF, List.length_append, List.append_assoc, ite_true, ite_false, Bool.false_eq_true, and_self, not_true_eq_false, not_false_eq_true, Sum.inr.injEq, Sum.inl.injEq, Mi.look, Mi.put, List.any_cons, List.any_nil, Bool.or_true, Bool.or_false, Bool.true_or, Bool.false_or, List.find?_cons, Option.getD_some, Option.getD_none, Bool.bne_false, Bool.false_bne, Bool.true_bne, Bool.bne_true, Int.reduceEq, Int.reducePow, qb_law_judge_root_1, h0, h1, wC13 h, wI0 h, wI31 h, Mi.mSlice, Mi.mO, Mi.qEq, Mi.intsOf]
/-! ### the loops -/
theorem prog_loop (n : Int) (a : Option Dv) (G : Sto) (st : Sto → Prop) (hst : st G) : ∀ (bs : List (List Int)) (i : Nat) (x y : Option Dv), (∀ w ∈ bs, w.length = 32) → ∃ δ', Mi.mLoop (Mi.gTup 2 (Mi.gCons (Mi.gNm 2) (Mi.gCons (Mi.gNm 3) Mi.gNil))) qb_broken_at_1 st (Mi.enumD i (bs.map T)) [a, some (.int n), x, y] G =
    match fstBad n i bs with
    | some j => some (.rt (.int j), δ', G)
    | none => some (.nx, δ', G)
  | [], i, x, y, _ => ⟨_, by
    rw [List.map_nil, Mi.enumD, Mi.mLoop, if_pos hst]
    rfl⟩
  | w :: bs, i, x, y, hb => by
    have hw := hb w (List.mem_cons_self ..)
    have e := prog_body hw n i a G
    obtain ⟨δ', ih⟩ := prog_loop n a G st hst bs (i + 1) (some (.int i)) (some (T w)) fun v hv => hb v (List.mem_cons_of_mem _ hv)
    by_cases hq : bad n i w = true
    · refine ⟨[a, some (.int n), some (.int i), some (T w)], ?_⟩
      rw [if_pos hq] at e
      rw [List.map_cons, Mi.enumD, Mi.mLoop, if_pos hst]
      simp only [Mi.bnd, Mi.mVar, Mi.mC, Mi.mkL, Mi.m2, Mi.m1, Mi.uNeg, Mi.bAdd, Mi.bSub, Mi.bDiv, Mi.bMod, Mi.bPow, Mi.sEq, Mi.bEq, Mi.bCmp, Mi.bLt, Mi.bLe, Mi.bGt, Mi.bGe, Mi.isNon, Mi.mIsN, Mi.mChain, Mi.mAnd, Mi.mOr, Mi.mNot, Mi.mTb, Mi.mTand, Mi.mTor, Mi.mTnot, Mi.mIf, Mi.mNil, Mi.mCons, Mi.mTup, Mi.mLst, Mi.mB, Mi.kOf, Mi.mFld, Mi.mCall, Mi.mCallK, Mi.mMeth, Mi.mMethK, Mi.mDef, Mi.fInt, Mi.fMax, Mi.fMin, Mi.isI, Mi.mIsI, Ms.mIsC, Mi.gNm, Mi.gNil, Mi.gCons, Mi.gTup, Mi.mSeq, Mi.mSkip, Mi.mBrk, Mi.mCont, Mi.mAsg, Mi.mPar, Mi.mExpr, Mi.mRet, Mi.mRetN, Mi.mIfS, Mi.tYes, Mi.wipe, Ms.mDct0, Ms.bAddI, List.map_cons, List.map_nil, List.nil_append, List.cons_append, List.length_cons, List.length_nil, List.replicate_succ, List.replicate_zero, List.getElem?_cons_zero, List.getElem?_cons_succ, List.getElem?_nil, List.set_cons_zero, List.set_cons_succ, Option.map_some, Option.map_none, if_true, if_false, reduceIte, decide_true, decide_false, Nat.reduceAdd, Nat.reduceLeDiff, List.mem_cons, List.mem_singleton, true_or, or_true, true_and, and_true, bne_self_eq_false, Bool.not_true, Bool.not_false, reduceCtorEq, Nat.reduceEqDiff, beq_self_eq_true, Nat.reduceLT, Int.reduceLT, Int.reduceLE, Int.reduceToNat, Int.reduceAdd, Int.reduceSub, Int.reduceMul, Int.reduceNeg, String.reduceEq, String.reduceBEq, List.lookup_cons, List.lookup_nil, Mi.big, Mi.putF, List.length_append, List.append_assoc, ite_true, ite_false, Bool.false_eq_true, and_self, not_true_eq_false, not_false_eq_true, Sum.inr.injEq, Sum.inl.injEq, Mi.look, Mi.put, List.any_cons, List.any_nil, Bool.or_true, Bool.or_false, Bool.true_or, Bool.false_or, List.find?_cons, Option.getD_some, Option.getD_none, Bool.bne_false, Bool.false_bne, Bool.true_bne, Bool.bne_true, Int.reduceEq, Int.reducePow, e, fstBad, hq]
    · refine ⟨δ', ?_⟩
      rw [if_neg hq] at e
      rw [List.map_cons, Mi.enumD, Mi.mLoop, if_pos hst]
      unfold fstBad
      rw [if_neg hq, ← ih]
      simp only [Mi.bnd, Mi.mVar, Mi.mC, Mi.mkL, Mi.m2, Mi.m1, Mi.uNeg, Mi.bAdd, Mi.bSub, Mi.bDiv, Mi.bMod, Mi.bPow, Mi.sEq, Mi.bEq, Mi.bCmp, Mi.bLt, Mi.bLe, Mi.bGt, Mi.bGe, Mi.isNon, Mi.mIsN, Mi.mChain, Mi.mAnd, Mi.mOr, Mi.mNot, Mi.mTb, Mi.mTand, Mi.mTor, Mi.mTnot, Mi.mIf, Mi.mNil, Mi.mCons, Mi.mTup, Mi.mLst, Mi.mB, Mi.kOf, Mi.mFld, Mi.mCall, Mi.mCallK, Mi.mMeth, Mi.mMethK, Mi.mDef, Mi.fInt, Mi.fMax, Mi.fMin, Mi.isI, Mi.mIsI, Ms.mIsC, Mi.gNm, Mi.gNil, Mi.gCons, Mi.gTup, Mi.mSeq, Mi.mSkip, Mi.mBrk, Mi.mCont, Mi.mAsg, Mi.mPar, Mi.mExpr, Mi.mRet, Mi.mRetN, Mi.mIfS, Mi.tYes, Mi.wipe, Ms.mDct0, Ms.bAddI, List.map_cons, List.map_nil, List.nil_append, List.cons_append, List.length_cons, List.length_nil, List.replicate_succ, List.replicate_zero, List.getElem?_cons_zero, List.getElem?_cons_succ, List.getElem?_nil, List.set_cons_zero, List.set_cons_succ, Option.map_some, Option.map_none, if_true, if_false, reduceIte, decide_true, decide_false, Nat.reduceAdd, Nat.reduceLeDiff, List.mem_cons, List.mem_singleton, true_or, or_true, true_and, and_true, bne_self_eq_false, Bool.not_true, Bool.not_false, reduceCtorEq, Nat.reduceEqDiff, beq_self_eq_true, Nat.reduceLT, Int.reduceLT, Int.reduceLE, Int.reduceToNat, Int.reduceAdd, Int.reduceSub, Int.reduceMul, Int.reduceNeg, String.reduceEq, String.reduceBEq, List.lookup_cons, List.lookup_nil, Mi.big, Mi.putF, List.length_append, List.append_assoc, ite_true, ite_false, Bool.false_eq_true, and_self, not_true_eq_false, not_false_eq_true, Sum.inr.injEq, Sum.inl.injEq, Mi.look, Mi.put, List.any_cons, List.any_nil, Bool.or_true, Bool.or_false, Bool.true_or, Bool.false_or, List.find?_cons, Option.getD_some, Option.getD_none, Bool.bne_false, Bool.false_bne, Bool.true_bne, Bool.bne_true, Int.reduceEq, Int.reducePow, e]
theorem law_loop (n : Int) (a0 a1 a2 a3 c0 c1 c2 c3 c4 c5 c6 c7 : Option Dv) (hw : Nat) (st : Sto → Prop) (hst : ∀ G, st G) : ∀ (bs : List (List Int)) (i : Nat) (pre : List Int) (G : Sto) (x y : Option Dv), (∀ w ∈ bs, w.length = 32) → G[hw]? = some (.lst (pre.map Dv.int)) → pre.length + 28 * bs.length ≤ 10000 →
    ∃ x' y' G', Mi.mLoop (Mi.gTup 2 (Mi.gCons (Mi.gNm 6) (Mi.gCons (Mi.gNm 7) Mi.gNil))) qb_law_judge_root_1 st (Mi.enumD i (bs.map T)) [a0, a1, a2, a3, some (.ref hw), some (.int n), x, y, c0, c1, c2, c3, c4, c5, c6, c7] G =
      (match fstBad n i bs with
      | some j => some (.rt (.tup [.str "broken", .int j]), [a0, a1, a2, a3, some (.ref hw), some (.int n), x', y', c0, c1, c2, c3, c4, c5, c6, c7], G')
      | none => some (.nx, [a0, a1, a2, a3, some (.ref hw), some (.int n), x', y', c0, c1, c2, c3, c4, c5, c6, c7], G')) ∧ Sm [hw] G G' ∧ G'.length = G.length ∧ (fstBad n i bs = none → G'[hw]? = some (.lst ((pre ++ rowOf bs).map Dv.int)))
  | [], i, pre, G, x, y, _, eG, _ => ⟨x, y, G, by
    rw [List.map_nil, Mi.enumD, Mi.mLoop, if_pos (hst G)]
    rfl, Sm.refl, rfl, fun _ => by
      show _ = some (MO.lst ((pre ++ []).map Dv.int))
      rw [List.append_nil]
      exact eG⟩
  | w :: bs, i, pre, G, x, y, hb, eG, hp => by
    have hw' := hb w (List.mem_cons_self ..)
    rw [List.length_cons] at hp
    have e := law_body hw' n i a0 a1 a2 a3 c0 c1 c2 c3 c4 c5 c6 c7 G hw pre eG (by omega)
    by_cases hq : bad n i w = true
    · rw [if_pos hq] at e
      refine ⟨some (.int i), some (T w), G, ?_, Sm.refl, rfl, fun z => ?_⟩
      · rw [List.map_cons, Mi.enumD, Mi.mLoop, if_pos (hst G)]
        simp only [Mi.bnd, Mi.mVar, Mi.mC, Mi.mkL, Mi.m2, Mi.m1, Mi.uNeg, Mi.bAdd, Mi.bSub, Mi.bDiv, Mi.bMod, Mi.bPow, Mi.sEq, Mi.bEq, Mi.bCmp, Mi.bLt, Mi.bLe, Mi.bGt, Mi.bGe, Mi.isNon, Mi.mIsN, Mi.mChain, Mi.mAnd, Mi.mOr, Mi.mNot, Mi.mTb, Mi.mTand, Mi.mTor, Mi.mTnot, Mi.mIf, Mi.mNil, Mi.mCons, Mi.mTup, Mi.mLst, Mi.mB, Mi.kOf, Mi.mFld, Mi.mCall, Mi.mCallK, Mi.mMeth, Mi.mMethK, Mi.mDef, Mi.fInt, Mi.fMax, Mi.fMin, Mi.isI, Mi.mIsI, Ms.mIsC, Mi.gNm, Mi.gNil, Mi.gCons, Mi.gTup, Mi.mSeq, Mi.mSkip, Mi.mBrk, Mi.mCont, Mi.mAsg, Mi.mPar, Mi.mExpr, Mi.mRet, Mi.mRetN, Mi.mIfS, Mi.tYes, Mi.wipe, Ms.mDct0, Ms.bAddI, List.map_cons, List.map_nil, List.nil_append, List.cons_append, List.length_cons, List.length_nil, List.replicate_succ, List.replicate_zero, List.getElem?_cons_zero, List.getElem?_cons_succ, List.getElem?_nil, List.set_cons_zero, List.set_cons_succ, Option.map_some, Option.map_none, if_true, if_false, reduceIte, decide_true, decide_false, Nat.reduceAdd, Nat.reduceLeDiff, List.mem_cons, List.mem_singleton, true_or, or_true, true_and, and_true, bne_self_eq_false, Bool.not_true, Bool.not_false, reduceCtorEq, Nat.reduceEqDiff, beq_self_eq_true, Nat.reduceLT, Int.reduceLT, Int.reduceLE, Int.reduceToNat, Int.reduceAdd, Int.reduceSub, Int.reduceMul, Int.reduceNeg, String.reduceEq, String.reduceBEq, List.lookup_cons, List.lookup_nil, Mi.big, Mi.putF, List.length_append, List.append_assoc, ite_true, ite_false, Bool.false_eq_true, and_self, not_true_eq_false, not_false_eq_true, Sum.inr.injEq, Sum.inl.injEq, Mi.look, Mi.put, List.any_cons, List.any_nil, Bool.or_true, Bool.or_false, Bool.true_or, Bool.false_or, List.find?_cons, Option.getD_some, Option.getD_none, Bool.bne_false, Bool.false_bne, Bool.true_bne, Bool.bne_true, Int.reduceEq, Int.reducePow, e, fstBad, hq]
      · unfold fstBad at z
        rw [if_pos hq] at z
        cases z
    · rw [if_neg hq] at e
      obtain ⟨x', y', G', ih, s1, l1, r1⟩ := law_loop n a0 a1 a2 a3 c0 c1 c2 c3 c4 c5 c6 c7 hw st hst bs (i + 1) (pre ++ mid w) (G.set hw (.lst ((pre ++ mid w).map Dv.int))) (some (.int i)) (some (T w)) (fun v hv => hb v (List.mem_cons_of_mem _ hv)) (set_at eG) (by rw [List.length_append, mid_len hw']; omega)
      refine ⟨x', y', G', ?_, (sm_set (by simp)).trans s1, by rw [l1, List.length_set], fun z => ?_⟩
      · rw [List.map_cons, Mi.enumD, Mi.mLoop, if_pos (hst G)]
        unfold fstBad
        rw [if_neg hq, ← ih]
        simp only [Mi.bnd, Mi.mVar, Mi.mC, Mi.mkL, Mi.m2, Mi.m1, Mi.uNeg, Mi.bAdd, Mi.bSub, Mi.bDiv, Mi.bMod, Mi.bPow, Mi.sEq, Mi.bEq, Mi.bCmp, Mi.bLt, Mi.bLe, Mi.bGt, Mi.bGe, Mi.isNon, Mi.mIsN, Mi.mChain, Mi.mAnd, Mi.mOr, Mi.mNot, Mi.mTb, Mi.mTand, Mi.mTor, Mi.mTnot, Mi.mIf, Mi.mNil, Mi.mCons, Mi.mTup, Mi.mLst, Mi.mB, Mi.kOf, Mi.mFld, Mi.mCall, Mi.mCallK, Mi.mMeth, Mi.mMethK, Mi.mDef, Mi.fInt, Mi.fMax, Mi.fMin, Mi.isI, Mi.mIsI, Ms.mIsC, Mi.gNm, Mi.gNil, Mi.gCons, Mi.gTup, Mi.mSeq, Mi.mSkip, Mi.mBrk, Mi.mCont, Mi.mAsg, Mi.mPar, Mi.mExpr, Mi.mRet, Mi.mRetN, Mi.mIfS, Mi.tYes, Mi.wipe, Ms.mDct0, Ms.bAddI, List.map_cons, List.map_nil, List.nil_append, List.cons_append, List.length_cons, List.length_nil, List.replicate_succ, List.replicate_zero, List.getElem?_cons_zero, List.getElem?_cons_succ, List.getElem?_nil, List.set_cons_zero, List.set_cons_succ, Option.map_some, Option.map_none, if_true, if_false, reduceIte, decide_true, decide_false, Nat.reduceAdd, Nat.reduceLeDiff, List.mem_cons, List.mem_singleton, true_or, or_true, true_and, and_true, bne_self_eq_false, Bool.not_true, Bool.not_false, reduceCtorEq, Nat.reduceEqDiff, beq_self_eq_true, Nat.reduceLT, Int.reduceLT, Int.reduceLE, Int.reduceToNat, Int.reduceAdd, Int.reduceSub, Int.reduceMul, Int.reduceNeg, String.reduceEq, String.reduceBEq, List.lookup_cons, List.lookup_nil, Mi.big, Mi.putF, List.length_append, List.append_assoc, ite_true, ite_false, Bool.false_eq_true, and_self, not_true_eq_false, not_false_eq_true, Sum.inr.injEq, Sum.inl.injEq, Mi.look, Mi.put, List.any_cons, List.any_nil, Bool.or_true, Bool.or_false, Bool.true_or, Bool.false_or, List.find?_cons, Option.getD_some, Option.getD_none, Bool.bne_false, Bool.false_bne, Bool.true_bne, Bool.bne_true, Int.reduceEq, Int.reducePow, e]
      · unfold fstBad at z
        rw [if_neg hq] at z
        rw [r1 z]
        simp [rowOf]
end Lw

namespace Lw
open Mi (Dv MO Sto Sl Rs bnd ME MT MA MS MF Fl MG MGs MI)
open Ms (mExtend mPar3 fMaxL mLc2 mLc2Loop)
def n0 (bs : List (List Int)) : Int := (bs.headD []).getD 0 0
def brk (n : Int) (bs : List (List Int)) : Dv := match fstBad n 0 bs with
  | some j => .int j
  | none => .non
theorem subs0 (x : Dv) (xs : List Dv) (G : Sto) : Mi.bSubs (.fls (x :: xs)) (.int 0) G = some (x, G) := by
  have e : Mi.atI (x :: xs) 0 = some x := by
    unfold Mi.atI Mi.ixN
    rw [if_pos (by decide), if_pos (by rw [List.length_cons]; omega)]
    rfl
  simp [Mi.bSubs, Mi.bGet, Mi.bIx, Mi.lstOf, Mi.seqOf, e]
theorem broken_ok {b : List Int} {r : List (List Int)} (hb : ∀ w ∈ b :: r, w.length = 32) (G : Sto) : m_broken_at [.fls ((b :: r).map T)] G = some (brk (b.getD 0 0) (b :: r), G) := by
  have e : Mi.bSubs (.fls ((b :: r).map T)) (.int 0) G = some (T b, G) := subs0 _ _ _
  have e1 := wI0 (hb b (List.mem_cons_self ..)) G
  obtain ⟨δ', e2⟩ := prog_loop (b.getD 0 0) (some (.fls ((b :: r).map T))) G (fun G' => Mi.lstOf G' (.fls ((b :: r).map T)) = some ((b :: r).map T)) rfl (b :: r) 0 none none hb
  have z : qf_broken_at_1 [some (.fls ((b :: r).map T)), some (.int (b.getD 0 0)), none, none] G = Mi.mLoop (Mi.gTup 2 (Mi.gCons (Mi.gNm 2) (Mi.gCons (Mi.gNm 3) Mi.gNil))) qb_broken_at_1 (fun G' => Mi.lstOf G' (.fls ((b :: r).map T)) = some ((b :: r).map T)) (Mi.enumD 0 ((b :: r).map T)) [some (.fls ((b :: r).map T)), some (.int (b.getD 0 0)), none, none] G := rfl
  have e3 := z.trans e2
  clear z e2
  unfold brk
  generalize (b :: r).map T = X at e e3 ⊢
  cases hq : fstBad (b.getD 0 0) 0 (b :: r) with
  | some j =>
    rw [hq] at e3
    simp only [Mi.bnd, Mi.mVar, Mi.mC, Mi.mkL, Mi.m2, Mi.m1, Mi.uNeg, Mi.bAdd, Mi.bSub, Mi.bDiv, Mi.bMod, Mi.bPow, Mi.sEq, Mi.bEq, Mi.bCmp, Mi.bLt, Mi.bLe, Mi.bGt, Mi.bGe, Mi.isNon, Mi.mIsN, Mi.mChain, Mi.mAnd, Mi.mOr, Mi.mNot, Mi.mTb, Mi.mTand, Mi.mTor, Mi.mTnot, Mi.mIf, Mi.mNil, Mi.mCons, Mi.mTup, Mi.mLst, Mi.mB, Mi.kOf, Mi.mFld, Mi.mCall, Mi.mCallK, Mi.mMeth, Mi.mMethK, Mi.mDef, Mi.fInt, Mi.fMax, Mi.fMin, Mi.isI, Mi.mIsI, Ms.mIsC, Mi.gNm, Mi.gNil, Mi.gCons, Mi.gTup, Mi.mSeq, Mi.mSkip, Mi.mBrk, Mi.mCont, Mi.mAsg, Mi.mPar, Mi.mExpr, Mi.mRet, Mi.mRetN, Mi.mIfS, Mi.tYes, Mi.wipe, Ms.mDct0, Ms.bAddI, List.map_cons, List.map_nil, List.nil_append, List.cons_append, List.length_cons, List.length_nil, List.replicate_succ, List.replicate_zero, List.getElem?_cons_zero, List.getElem?_cons_succ, List.getElem?_nil, List.set_cons_zero, List.set_cons_succ, Option.map_some, Option.map_none, if_true, if_false, reduceIte, decide_true, decide_false, Nat.reduceAdd, Nat.reduceLeDiff, List.mem_cons, List.mem_singleton, true_or, or_true, true_and, and_true, bne_self_eq_false, Bool.not_true, Bool.not_false, reduceCtorEq, Nat.reduceEqDiff, beq_self_eq_true, Nat.reduceLT, Int.reduceLT, Int.reduceLE, Int.reduceToNat, Int.reduceAdd, Int.reduceSub, Int.reduceMul, Int.reduceNeg, String.reduceEq, String.reduceBEq, List.lookup_cons, List.lookup_nil, Mi.big, Mi.putF, List.length_append, List.append_assoc, ite_true, ite_false, Bool.false_eq_true, and_self, not_true_eq_false, not_false_eq_true, Sum.inr.injEq, Sum.inl.injEq, Mi.look, Mi.put, List.any_cons, List.any_nil, Bool.or_true, Bool.or_false, Bool.true_or, Bool.false_or, List.find?_cons, Option.getD_some, Option.getD_none, Bool.bne_false, Bool.false_bne, Bool.true_bne, Bool.bne_true, Int.reduceEq, Int.reducePow, m_broken_at, b_broken_at, e, e1, e3]
  | none =>
    rw [hq] at e3
    simp only [Mi.bnd, Mi.mVar, Mi.mC, Mi.mkL, Mi.m2, Mi.m1, Mi.uNeg, Mi.bAdd, Mi.bSub, Mi.bDiv, Mi.bMod, Mi.bPow, Mi.sEq, Mi.bEq, Mi.bCmp, Mi.bLt, Mi.bLe, Mi.bGt, Mi.bGe, Mi.isNon, Mi.mIsN, Mi.mChain, Mi.mAnd, Mi.mOr, Mi.mNot, Mi.mTb, Mi.mTand, Mi.mTor, Mi.mTnot, Mi.mIf, Mi.mNil, Mi.mCons, Mi.mTup, Mi.mLst, Mi.mB, Mi.kOf, Mi.mFld, Mi.mCall, Mi.mCallK, Mi.mMeth, Mi.mMethK, Mi.mDef, Mi.fInt, Mi.fMax, Mi.fMin, Mi.isI, Mi.mIsI, Ms.mIsC, Mi.gNm, Mi.gNil, Mi.gCons, Mi.gTup, Mi.mSeq, Mi.mSkip, Mi.mBrk, Mi.mCont, Mi.mAsg, Mi.mPar, Mi.mExpr, Mi.mRet, Mi.mRetN, Mi.mIfS, Mi.tYes, Mi.wipe, Ms.mDct0, Ms.bAddI, List.map_cons, List.map_nil, List.nil_append, List.cons_append, List.length_cons, List.length_nil, List.replicate_succ, List.replicate_zero, List.getElem?_cons_zero, List.getElem?_cons_succ, List.getElem?_nil, List.set_cons_zero, List.set_cons_succ, Option.map_some, Option.map_none, if_true, if_false, reduceIte, decide_true, decide_false, Nat.reduceAdd, Nat.reduceLeDiff, List.mem_cons, List.mem_singleton, true_or, or_true, true_and, and_true, bne_self_eq_false, Bool.not_true, Bool.not_false, reduceCtorEq, Nat.reduceEqDiff, beq_self_eq_true, Nat.reduceLT, Int.reduceLT, Int.reduceLE, Int.reduceToNat, Int.reduceAdd, Int.reduceSub, Int.reduceMul, Int.reduceNeg, String.reduceEq, String.reduceBEq, List.lookup_cons, List.lookup_nil, Mi.big, Mi.putF, List.length_append, List.append_assoc, ite_true, ite_false, Bool.false_eq_true, and_self, not_true_eq_false, not_false_eq_true, Sum.inr.injEq, Sum.inl.injEq, Mi.look, Mi.put, List.any_cons, List.any_nil, Bool.or_true, Bool.or_false, Bool.true_or, Bool.false_or, List.find?_cons, Option.getD_some, Option.getD_none, Bool.bne_false, Bool.false_bne, Bool.true_bne, Bool.bne_true, Int.reduceEq, Int.reducePow, m_broken_at, b_broken_at, e, e1, e3]
theorem row_loop (a0 a1 a2 a3 a4 a5 a6 a7 a8 : Option Dv) (G : Sto) (st : Sto → Prop) (hst : st G) : ∀ (bs : List (List Int)) (acc : List Dv), (∀ w ∈ bs, w.length = 32) → acc.length + 28 * bs.length ≤ 10000 →
    mLc2Loop (Mi.gNm 9) Mi.tYes qi_root_at_3 (Mi.gNm 10) Mi.tYes qe_root_at_2 [10] st [a0, a1, a2, a3, a4, a5, a6, a7, a8, none, none] (bs.map T) acc G = some (acc ++ (rowOf bs).map Dv.int, G)
  | [], acc, _, _ => by
    rw [List.map_nil, mLc2Loop, if_pos hst]
    simp [rowOf]
  | w :: bs, acc, hb, hl => by
    have hw := hb w (List.mem_cons_self ..)
    rw [List.length_cons] at hl
    have ih := row_loop a0 a1 a2 a3 a4 a5 a6 a7 a8 G st hst bs (acc ++ (mid w).map Dv.int) (fun v hv => hb v (List.mem_cons_of_mem _ hv)) (by rw [List.length_append, List.length_map, mid_len hw]; omega)
    have e1 : qi_root_at_3 [a0, a1, a2, a3, a4, a5, a6, a7, a8, some (T w), none] G = some (((mid w).map Dv.int, fun G' => Mi.seqOf G' (.tup ((mid w).map Dv.int)) = some ((mid w).map Dv.int)), G) := by
      simp only [Mi.bnd, Mi.mVar, Mi.mC, Mi.mkL, Mi.m2, Mi.m1, Mi.uNeg, Mi.bAdd, Mi.bSub, Mi.bDiv, Mi.bMod, Mi.bPow, Mi.sEq, Mi.bEq, Mi.bCmp, Mi.bLt, Mi.bLe, Mi.bGt, Mi.bGe, Mi.isNon, Mi.mIsN, Mi.mChain, Mi.mAnd, Mi.mOr, Mi.mNot, Mi.mTb, Mi.mTand, Mi.mTor, Mi.mTnot, Mi.mIf, Mi.mNil, Mi.mCons, Mi.mTup, Mi.mLst, Mi.mB, Mi.kOf, Mi.mFld, Mi.mCall, Mi.mCallK, Mi.mMeth, Mi.mMethK, Mi.mDef, Mi.fInt, Mi.fMax, Mi.fMin, Mi.isI, Mi.mIsI, Ms.mIsC, Mi.gNm, Mi.gNil, Mi.gCons, Mi.gTup, Mi.mSeq, Mi.mSkip, Mi.mBrk, Mi.mCont, Mi.mAsg, Mi.mPar, Mi.mExpr, Mi.mRet, Mi.mRetN, Mi.mIfS, Mi.tYes, Mi.wipe, Ms.mDct0, Ms.bAddI, List.map_cons, List.map_nil, List.nil_append, List.cons_append, List.length_cons, List.length_nil, List.replicate_succ, List.replicate_zero, List.getElem?_cons_zero, List.getElem?_cons_succ, List.getElem?_nil, List.set_cons_zero, List.set_cons_succ, Option.map_some, Option.map_none, if_true, if_false, reduceIte, decide_true, decide_false, Nat.reduceAdd, Nat.reduceLeDiff, List.mem_cons, List.mem_singleton, true_or, or_true, true_and, and_true, bne_self_eq_false, Bool.not_true, Bool.not_false, reduceCtorEq, Nat.reduceEqDiff, beq_self_eq_true, Nat.reduceLT, Int.reduceLT, Int.reduceLE, Int.reduceToNat, Int.reduceAdd, Int.reduceSub, Int.reduceMul, Int.reduceNeg, String.reduceEq, String.reduceBEq, List.lookup_cons, List.lookup_nil, Mi.big, Mi.putF, List.length_append, List.append_assoc, ite_true, ite_false, Bool.false_eq_true, and_self, not_true_eq_false, not_false_eq_true, Sum.inr.injEq, Sum.inl.injEq, Mi.look, Mi.put, List.any_cons, List.any_nil, Bool.or_true, Bool.or_false, Bool.true_or, Bool.false_or, List.find?_cons, Option.getD_some, Option.getD_none, Bool.bne_false, Bool.false_bne, Bool.true_bne, Bool.bne_true, Int.reduceEq, Int.reducePow, qi_root_at_3, Mi.iSeq, Mi.mSlice, Mi.mO, wC3m hw, Mi.seqOf]
    have e2 := lc_map (i := 10) (e := qe_root_at_2) (st := fun G' => Mi.seqOf G' (.tup ((mid w).map Dv.int)) = some ((mid w).map Dv.int)) (δ := [a0, a1, a2, a3, a4, a5, a6, a7, a8, some (T w), none]) (f := id) (G := G) rfl ((mid w).map Dv.int) acc (fun d _ => by simp only [Mi.bnd, Mi.mVar, Mi.mC, Mi.mkL, Mi.m2, Mi.m1, Mi.uNeg, Mi.bAdd, Mi.bSub, Mi.bDiv, Mi.bMod, Mi.bPow, Mi.sEq, Mi.bEq, Mi.bCmp, Mi.bLt, Mi.bLe, Mi.bGt, Mi.bGe, Mi.isNon, Mi.mIsN, Mi.mChain, Mi.mAnd, Mi.mOr, Mi.mNot, Mi.mTb, Mi.mTand, Mi.mTor, Mi.mTnot, Mi.mIf, Mi.mNil, Mi.mCons, Mi.mTup, Mi.mLst, Mi.mB, Mi.kOf, Mi.mFld, Mi.mCall, Mi.mCallK, Mi.mMeth, Mi.mMethK, Mi.mDef, Mi.fInt, Mi.fMax, Mi.fMin, Mi.isI, Mi.mIsI, Ms.mIsC, Mi.gNm, Mi.gNil, Mi.gCons, Mi.gTup, Mi.mSeq, Mi.mSkip, Mi.mBrk, Mi.mCont, Mi.mAsg, Mi.mPar, Mi.mExpr, Mi.mRet, Mi.mRetN, Mi.mIfS, Mi.tYes, Mi.wipe, Ms.mDct0, Ms.bAddI, List.map_cons, List.map_nil, List.nil_append, List.cons_append, List.length_cons, List.length_nil, List.replicate_succ, List.replicate_zero, List.getElem?_cons_zero, List.getElem?_cons_succ, List.getElem?_nil, List.set_cons_zero, List.set_cons_succ, Option.map_some, Option.map_none, if_true, if_false, reduceIte, decide_true, decide_false, Nat.reduceAdd, Nat.reduceLeDiff, List.mem_cons, List.mem_singleton, true_or, or_true, true_and, and_true, bne_self_eq_false, Bool.not_true, Bool.not_false, reduceCtorEq, Nat.reduceEqDiff, beq_self_eq_true, Nat.reduceLT, Int.reduceLT, Int.reduceLE, Int.reduceToNat, Int.reduceAdd, Int.reduceSub, Int.reduceMul, Int.reduceNeg, String.reduceEq, String.reduceBEq, List.lookup_cons, List.lookup_nil, Mi.big, Mi.putF, List.length_append, List.append_assoc, ite_true, ite_false, Bool.false_eq_true, and_self, not_true_eq_false, not_false_eq_true, Sum.inr.injEq, Sum.inl.injEq, Mi.look, Mi.put, List.any_cons, List.any_nil, Bool.or_true, Bool.or_false, Bool.true_or, Bool.false_or, List.find?_cons, Option.getD_some, Option.getD_none, Bool.bne_false, Bool.false_bne, Bool.true_bne, Bool.bne_true, Int.reduceEq, Int.reducePow, qe_root_at_2, id]) (by rw [List.length_map, mid_len hw]; show acc.length + 28 ≤ 16777216; omega)
    rw [List.map_id] at e2
    rw [List.map_cons, mLc2Loop, if_pos hst]
    simp only [Mi.bnd, Mi.mVar, Mi.mC, Mi.mkL, Mi.m2, Mi.m1, Mi.uNeg, Mi.bAdd, Mi.bSub, Mi.bDiv, Mi.bMod, Mi.bPow, Mi.sEq, Mi.bEq, Mi.bCmp, Mi.bLt, Mi.bLe, Mi.bGt, Mi.bGe, Mi.isNon, Mi.mIsN, Mi.mChain, Mi.mAnd, Mi.mOr, Mi.mNot, Mi.mTb, Mi.mTand, Mi.mTor, Mi.mTnot, Mi.mIf, Mi.mNil, Mi.mCons, Mi.mTup, Mi.mLst, Mi.mB, Mi.kOf, Mi.mFld, Mi.mCall, Mi.mCallK, Mi.mMeth, Mi.mMethK, Mi.mDef, Mi.fInt, Mi.fMax, Mi.fMin, Mi.isI, Mi.mIsI, Ms.mIsC, Mi.gNm, Mi.gNil, Mi.gCons, Mi.gTup, Mi.mSeq, Mi.mSkip, Mi.mBrk, Mi.mCont, Mi.mAsg, Mi.mPar, Mi.mExpr, Mi.mRet, Mi.mRetN, Mi.mIfS, Mi.tYes, Mi.wipe, Ms.mDct0, Ms.bAddI, List.map_cons, List.map_nil, List.nil_append, List.cons_append, List.length_cons, List.length_nil, List.replicate_succ, List.replicate_zero, List.getElem?_cons_zero, List.getElem?_cons_succ, List.getElem?_nil, List.set_cons_zero, List.set_cons_succ, Option.map_some, Option.map_none, if_true, if_false, reduceIte, decide_true, decide_false, Nat.reduceAdd, Nat.reduceLeDiff, List.mem_cons, List.mem_singleton, true_or, or_true, true_and, and_true, bne_self_eq_false, Bool.not_true, Bool.not_false, reduceCtorEq, Nat.reduceEqDiff, beq_self_eq_true, Nat.reduceLT, Int.reduceLT, Int.reduceLE, Int.reduceToNat, Int.reduceAdd, Int.reduceSub, Int.reduceMul, Int.reduceNeg, String.reduceEq, String.reduceBEq, List.lookup_cons, List.lookup_nil, Mi.big, Mi.putF, List.length_append, List.append_assoc, ite_true, ite_false, Bool.false_eq_true, and_self, not_true_eq_false, not_false_eq_true, Sum.inr.injEq, Sum.inl.injEq, Mi.look, Mi.put, List.any_cons, List.any_nil, Bool.or_true, Bool.or_false, Bool.true_or, Bool.false_or, List.find?_cons, Option.getD_some, Option.getD_none, Bool.bne_false, Bool.false_bne, Bool.true_bne, Bool.bne_true, Int.reduceEq, Int.reducePow, e1, e2, ih]
    simp [rowOf]
theorem row_ok (a0 a1 a2 a4 a5 a6 a7 a8 a9 a10 : Option Dv) (G : Sto) {bs : List (List Int)} (hb : ∀ w ∈ bs, w.length = 32) (hl : bs.length ≤ 300) : ql_root_at_2 [a0, a1, a2, some (.fls (bs.map T)), a4, a5, a6, a7, a8, a9, a10] G = some (.fls ((rowOf bs).map Dv.int), G) := by
  have e := row_loop a0 a1 a2 (some (.fls (bs.map T))) a4 a5 a6 a7 a8 G (fun G' => True) trivial bs [] hb (by show 0 + _ ≤ _; omega)
  rw [List.nil_append] at e
  unfold ql_root_at_2 qi_root_at_2 mLc2
  simp only [Mi.bnd, Mi.mVar, Mi.mC, Mi.mkL, Mi.m2, Mi.m1, Mi.uNeg, Mi.bAdd, Mi.bSub, Mi.bDiv, Mi.bMod, Mi.bPow, Mi.sEq, Mi.bEq, Mi.bCmp, Mi.bLt, Mi.bLe, Mi.bGt, Mi.bGe, Mi.isNon, Mi.mIsN, Mi.mChain, Mi.mAnd, Mi.mOr, Mi.mNot, Mi.mTb, Mi.mTand, Mi.mTor, Mi.mTnot, Mi.mIf, Mi.mNil, Mi.mCons, Mi.mTup, Mi.mLst, Mi.mB, Mi.kOf, Mi.mFld, Mi.mCall, Mi.mCallK, Mi.mMeth, Mi.mMethK, Mi.mDef, Mi.fInt, Mi.fMax, Mi.fMin, Mi.isI, Mi.mIsI, Ms.mIsC, Mi.gNm, Mi.gNil, Mi.gCons, Mi.gTup, Mi.mSeq, Mi.mSkip, Mi.mBrk, Mi.mCont, Mi.mAsg, Mi.mPar, Mi.mExpr, Mi.mRet, Mi.mRetN, Mi.mIfS, Mi.tYes, Mi.wipe, Ms.mDct0, Ms.bAddI, List.map_cons, List.map_nil, List.nil_append, List.cons_append, List.length_cons, List.length_nil, List.replicate_succ, List.replicate_zero, List.getElem?_cons_zero, List.getElem?_cons_succ, List.getElem?_nil, List.set_cons_zero, List.set_cons_succ, Option.map_some, Option.map_none, if_true, if_false, reduceIte, decide_true, decide_false, Nat.reduceAdd, Nat.reduceLeDiff, List.mem_cons, List.mem_singleton, true_or, or_true, true_and, and_true, bne_self_eq_false, Bool.not_true, Bool.not_false, reduceCtorEq, Nat.reduceEqDiff, beq_self_eq_true, Nat.reduceLT, Int.reduceLT, Int.reduceLE, Int.reduceToNat, Int.reduceAdd, Int.reduceSub, Int.reduceMul, Int.reduceNeg, String.reduceEq, String.reduceBEq, List.lookup_cons, List.lookup_nil, Mi.big, Mi.putF, List.length_append, List.append_assoc, ite_true, ite_false, Bool.false_eq_true, and_self, not_true_eq_false, not_false_eq_true, Sum.inr.injEq, Sum.inl.injEq, Mi.look, Mi.put, List.any_cons, List.any_nil, Bool.or_true, Bool.or_false, Bool.true_or, Bool.false_or, List.find?_cons, Option.getD_some, Option.getD_none, Bool.bne_false, Bool.false_bne, Bool.true_bne, Bool.bne_true, Int.reduceEq, Int.reducePow, Mi.iSeq, Mi.seqOf, Mi.lstOf, e]
theorem row_len : ∀ {bs : List (List Int)}, (∀ w ∈ bs, w.length = 32) → (rowOf bs).length = 28 * bs.length
  | [], _ => rfl
  | w :: bs, h => by
    have ih := row_len fun v hv => h v (List.mem_cons_of_mem _ hv)
    show (mid w ++ rowOf bs).length = _
    rw [List.length_append, mid_len (h w (List.mem_cons_self ..)), ih, List.length_cons]
    omega
theorem row_pos : ∀ {bs : List (List Int)}, (∀ w ∈ bs, ∀ z ∈ w, 0 ≤ z) → ∀ z ∈ rowOf bs, 0 ≤ z := fun h z hz => by
  unfold rowOf at hz
  obtain ⟨l, hl, hz⟩ := List.mem_flatten.mp hz
  obtain ⟨w, hw, rfl⟩ := List.mem_map.mp hl
  exact h w hw z (List.mem_of_mem_drop (List.mem_of_mem_take hz))
end Lw

namespace Lw
open Mi (Dv MO Sto Sl Rs bnd ME MT MA MS MF Fl MG MGs MI)
open Ms (mExtend mPar3 fMaxL mLc2 mLc2Loop)
theorem cut_mid (a : List Dv) (i j : Nat) (h1 : i ≤ j) (h2 : j ≤ a.length) : Mi.cut a (some (i : Int)) (some (j : Int)) = (a.drop i).take (j - i) := by
  unfold Mi.cut Mi.sIx
  simp only
  rw [if_neg (by omega)]; rw [if_neg (by omega)]
  have e1 : min (i : Int).toNat a.length = i := Nat.min_eq_left (by omega)
  have e2 : min (j : Int).toNat a.length = j := Nat.min_eq_left (by omega)
  rw [e1, e2]
def rw4 (r0 r1 r2 r3 : Int) (P Q : List Int) : List Dv := (r0 :: r1 :: r2 :: r3 :: (P ++ Q)).map Dv.int
section
variable (r0 r1 r2 r3 : Int) (P Q : List Int)
theorem cutP {N : Int} (h : (P.length : Int) = N) : Mi.cut (rw4 r0 r1 r2 r3 P Q) (some 4) (some (4 + N)) = P.map Dv.int := by
  have e : (4 + N : Int) = ((4 + P.length : Nat) : Int) := by omega
  rw [e]
  have := cut_mid (rw4 r0 r1 r2 r3 P Q) 4 (4 + P.length) (by omega) (by unfold rw4; simp; omega)
  rw [show ((4 : Nat) : Int) = 4 from rfl] at this
  rw [this]
  unfold rw4
  simp
theorem cutQ {N : Int} (h : (P.length : Int) = N) : Mi.cut (rw4 r0 r1 r2 r3 P Q) (some (4 + N)) none = Q.map Dv.int := by
  have e : (4 + N : Int) = ((4 + P.length : Nat) : Int) := by omega
  rw [e, cut_hi _ _ (by unfold rw4; simp; omega), show 4 + P.length = P.length + 1 + 1 + 1 + 1 by omega]
  unfold rw4
  simp
theorem cut4 : Mi.cut (rw4 r0 r1 r2 r3 P Q) none (some 4) = [.int r0, .int r1, .int r2, .int r3] := by
  have := cut_lo (rw4 r0 r1 r2 r3 P Q) 4 (by unfold rw4; simp)
  rw [show ((4 : Nat) : Int) = 4 from rfl] at this
  rw [this]
  unfold rw4
  simp
theorem atN {xs : List Dv} {x : Dv} (j : Nat) (h : xs[j]? = some x) (G : Sto) : Mi.bSubs (.fls xs) (.int (j : Nat)) G = some (x, G) := by
  have hl : j < xs.length := (List.getElem?_eq_some_iff.mp h).1
  have e : Mi.atI xs (j : Nat) = some x := by
    unfold Mi.atI Mi.ixN
    rw [if_pos (by omega)]; rw [if_pos (by omega)]
    exact h
  simp [Mi.bSubs, Mi.bGet, Mi.bIx, Mi.lstOf, Mi.seqOf, e]
theorem rw0 (G : Sto) : Mi.bSubs (.fls (rw4 r0 r1 r2 r3 P Q)) (.int 0) G = some (.int r0, G) := atN 0 rfl G
theorem rw1 (G : Sto) : Mi.bSubs (.fls (rw4 r0 r1 r2 r3 P Q)) (.int 1) G = some (.int r1, G) := atN 1 rfl G
theorem rw2 (G : Sto) : Mi.bSubs (.fls (rw4 r0 r1 r2 r3 P Q)) (.int 2) G = some (.int r2, G) := atN 2 rfl G
theorem rw3 (G : Sto) : Mi.bSubs (.fls (rw4 r0 r1 r2 r3 P Q)) (.int 3) G = some (.int r3, G) := atN 3 rfl G
end
def okp (s k z : Int) : Bool := decide (z = 0) || (decide (2 * R' s k ≤ z - 1) && decide (z - 1 < 2 * R' s k + s * k))
def formOk (s k r0 r1 r2 : Int) (P Q : List Int) : Bool := decide (r0 < s) && (decide (r1 ≤ k) && (decide (r2 < s) && (P.all (okp s k) && Q.all fun z => decide (z = 0))))
def liftB (p : Int → Bool) : Dv → Dv
  | .int z => .bl (p z)
  | _ => .non
theorem bools_of (p : Int → Bool) : ∀ zs : List Int, Mi.bools ((zs.map Dv.int).map (liftB p)) = some (zs.map p)
  | [] => rfl
  | z :: zs => by
    simp only [List.map_cons]
    unfold liftB Mi.bools
    have := bools_of p zs
    unfold liftB at this
    rw [this]
    rfl
theorem all_id (p : Int → Bool) (zs : List Int) : (zs.map p).all id = zs.all p := by rw [List.all_map]; rfl
section
variable {G : Sto} {h hb hq hn : Nat} {s k : Int} {bl qu : List Dv} {nw : List (Mi.Key × Dv)}
theorem place_word_ok (D : Dsk G h hb hq hn s k bl qu nw) (h1 : 6 ≤ s ∧ s ≤ 40) (h2 : 4 ≤ k ∧ k ≤ 24) (z : Int) : m_is_place_word [.ref h, .int z] G = some (.bl (okp s k z), G) := by
  have b := R'_b h1 h2
  have m1 : Mi.bMul false (.int 2) (.int (R' s k)) G = some (.int (2 * R' s k), G) := bMul_small false _ _ G (by omega)
  have m2 : Mi.bMul false (.int s) (.int k) G = some (.int (s * k), G) := bMul_small false _ _ G (by omega)
  unfold okp
  by_cases h0 : z = 0
  · simp only [Mi.bnd, Mi.mVar, Mi.mC, Mi.mkL, Mi.m2, Mi.m1, Mi.uNeg, Mi.bAdd, Mi.bSub, Mi.bDiv, Mi.bMod, Mi.bPow, Mi.sEq, Mi.bEq, Mi.bCmp, Mi.bLt, Mi.bLe, Mi.bGt, Mi.bGe, Mi.isNon, Mi.mIsN, Mi.mChain, Mi.mAnd, Mi.mOr, Mi.mNot, Mi.mTb, Mi.mTand, Mi.mTor, Mi.mTnot, Mi.mIf, Mi.mNil, Mi.mCons, Mi.mTup, Mi.mLst, Mi.mB, Mi.kOf, Mi.mFld, Mi.mCall, Mi.mCallK, Mi.mMeth, Mi.mMethK, Mi.mDef, Mi.fInt, Mi.fMax, Mi.fMin, Mi.isI, Mi.mIsI, Ms.mIsC, Mi.gNm, Mi.gNil, Mi.gCons, Mi.gTup, Mi.mSeq, Mi.mSkip, Mi.mBrk, Mi.mCont, Mi.mAsg, Mi.mPar, Mi.mExpr, Mi.mRet, Mi.mRetN, Mi.mIfS, Mi.tYes, Mi.wipe, Ms.mDct0, Ms.bAddI, List.map_cons, List.map_nil, List.nil_append, List.cons_append, List.length_cons, List.length_nil, List.replicate_succ, List.replicate_zero, List.getElem?_cons_zero, List.getElem?_cons_succ, List.getElem?_nil, List.set_cons_zero, List.set_cons_succ, Option.map_some, Option.map_none, if_true, if_false, reduceIte, decide_true, decide_false, Nat.reduceAdd, Nat.reduceLeDiff, List.mem_cons, List.mem_singleton, true_or, or_true, true_and, and_true, bne_self_eq_false, Bool.not_true, Bool.not_false, reduceCtorEq, Nat.reduceEqDiff, beq_self_eq_true, Nat.reduceLT, Int.reduceLT, Int.reduceLE, Int.reduceToNat, Int.reduceAdd, Int.reduceSub, Int.reduceMul, Int.reduceNeg, String.reduceEq, String.reduceBEq, List.lookup_cons, List.lookup_nil, Mi.big, Mi.putF, List.length_append, List.append_assoc, ite_true, ite_false, Bool.false_eq_true, and_self, not_true_eq_false, not_false_eq_true, Sum.inr.injEq, Sum.inl.injEq, Mi.look, Mi.put, List.any_cons, List.any_nil, Bool.or_true, Bool.or_false, Bool.true_or, Bool.false_or, List.find?_cons, Option.getD_some, Option.getD_none, Bool.bne_false, Bool.false_bne, Bool.true_bne, Bool.bne_true, Int.reduceEq, Int.reducePow, m_is_place_word, b_is_place_word, D.ob, dfs, m1, m2, h0, Mi.tru]
  · by_cases h3 : 2 * R' s k ≤ z - 1
    · simp only [Mi.bnd, Mi.mVar, Mi.mC, Mi.mkL, Mi.m2, Mi.m1, Mi.uNeg, Mi.bAdd, Mi.bSub, Mi.bDiv, Mi.bMod, Mi.bPow, Mi.sEq, Mi.bEq, Mi.bCmp, Mi.bLt, Mi.bLe, Mi.bGt, Mi.bGe, Mi.isNon, Mi.mIsN, Mi.mChain, Mi.mAnd, Mi.mOr, Mi.mNot, Mi.mTb, Mi.mTand, Mi.mTor, Mi.mTnot, Mi.mIf, Mi.mNil, Mi.mCons, Mi.mTup, Mi.mLst, Mi.mB, Mi.kOf, Mi.mFld, Mi.mCall, Mi.mCallK, Mi.mMeth, Mi.mMethK, Mi.mDef, Mi.fInt, Mi.fMax, Mi.fMin, Mi.isI, Mi.mIsI, Ms.mIsC, Mi.gNm, Mi.gNil, Mi.gCons, Mi.gTup, Mi.mSeq, Mi.mSkip, Mi.mBrk, Mi.mCont, Mi.mAsg, Mi.mPar, Mi.mExpr, Mi.mRet, Mi.mRetN, Mi.mIfS, Mi.tYes, Mi.wipe, Ms.mDct0, Ms.bAddI, List.map_cons, List.map_nil, List.nil_append, List.cons_append, List.length_cons, List.length_nil, List.replicate_succ, List.replicate_zero, List.getElem?_cons_zero, List.getElem?_cons_succ, List.getElem?_nil, List.set_cons_zero, List.set_cons_succ, Option.map_some, Option.map_none, if_true, if_false, reduceIte, decide_true, decide_false, Nat.reduceAdd, Nat.reduceLeDiff, List.mem_cons, List.mem_singleton, true_or, or_true, true_and, and_true, bne_self_eq_false, Bool.not_true, Bool.not_false, reduceCtorEq, Nat.reduceEqDiff, beq_self_eq_true, Nat.reduceLT, Int.reduceLT, Int.reduceLE, Int.reduceToNat, Int.reduceAdd, Int.reduceSub, Int.reduceMul, Int.reduceNeg, String.reduceEq, String.reduceBEq, List.lookup_cons, List.lookup_nil, Mi.big, Mi.putF, List.length_append, List.append_assoc, ite_true, ite_false, Bool.false_eq_true, and_self, not_true_eq_false, not_false_eq_true, Sum.inr.injEq, Sum.inl.injEq, Mi.look, Mi.put, List.any_cons, List.any_nil, Bool.or_true, Bool.or_false, Bool.true_or, Bool.false_or, List.find?_cons, Option.getD_some, Option.getD_none, Bool.bne_false, Bool.false_bne, Bool.true_bne, Bool.bne_true, Int.reduceEq, Int.reducePow, m_is_place_word, b_is_place_word, D.ob, dfs, m1, m2, h0, h3, Mi.tru, Bool.true_and]
    · simp only [Mi.bnd, Mi.mVar, Mi.mC, Mi.mkL, Mi.m2, Mi.m1, Mi.uNeg, Mi.bAdd, Mi.bSub, Mi.bDiv, Mi.bMod, Mi.bPow, Mi.sEq, Mi.bEq, Mi.bCmp, Mi.bLt, Mi.bLe, Mi.bGt, Mi.bGe, Mi.isNon, Mi.mIsN, Mi.mChain, Mi.mAnd, Mi.mOr, Mi.mNot, Mi.mTb, Mi.mTand, Mi.mTor, Mi.mTnot, Mi.mIf, Mi.mNil, Mi.mCons, Mi.mTup, Mi.mLst, Mi.mB, Mi.kOf, Mi.mFld, Mi.mCall, Mi.mCallK, Mi.mMeth, Mi.mMethK, Mi.mDef, Mi.fInt, Mi.fMax, Mi.fMin, Mi.isI, Mi.mIsI, Ms.mIsC, Mi.gNm, Mi.gNil, Mi.gCons, Mi.gTup, Mi.mSeq, Mi.mSkip, Mi.mBrk, Mi.mCont, Mi.mAsg, Mi.mPar, Mi.mExpr, Mi.mRet, Mi.mRetN, Mi.mIfS, Mi.tYes, Mi.wipe, Ms.mDct0, Ms.bAddI, List.map_cons, List.map_nil, List.nil_append, List.cons_append, List.length_cons, List.length_nil, List.replicate_succ, List.replicate_zero, List.getElem?_cons_zero, List.getElem?_cons_succ, List.getElem?_nil, List.set_cons_zero, List.set_cons_succ, Option.map_some, Option.map_none, if_true, if_false, reduceIte, decide_true, decide_false, Nat.reduceAdd, Nat.reduceLeDiff, List.mem_cons, List.mem_singleton, true_or, or_true, true_and, and_true, bne_self_eq_false, Bool.not_true, Bool.not_false, reduceCtorEq, Nat.reduceEqDiff, beq_self_eq_true, Nat.reduceLT, Int.reduceLT, Int.reduceLE, Int.reduceToNat, Int.reduceAdd, Int.reduceSub, Int.reduceMul, Int.reduceNeg, String.reduceEq, String.reduceBEq, List.lookup_cons, List.lookup_nil, Mi.big, Mi.putF, List.length_append, List.append_assoc, ite_true, ite_false, Bool.false_eq_true, and_self, not_true_eq_false, not_false_eq_true, Sum.inr.injEq, Sum.inl.injEq, Mi.look, Mi.put, List.any_cons, List.any_nil, Bool.or_true, Bool.or_false, Bool.true_or, Bool.false_or, List.find?_cons, Option.getD_some, Option.getD_none, Bool.bne_false, Bool.false_bne, Bool.true_bne, Bool.bne_true, Int.reduceEq, Int.reducePow, m_is_place_word, b_is_place_word, D.ob, dfs, m1, m2, h0, h3, Mi.tru, Bool.false_and]
theorem root_row_ok (D : Dsk G h hb hq hn s k bl qu nw) (h1 : 6 ≤ s ∧ s ≤ 40) (h2 : 4 ≤ k ∧ k ≤ 24) (r0 r1 r2 r3 : Int) (P Q : List Int) (hP : (P.length : Int) = N' s k) (hl : P.length + Q.length ≤ 10000) :
    m_is_root_row [.ref h, .fls (rw4 r0 r1 r2 r3 P Q)] G = some (.bl (formOk s k r0 r1 r2 P Q), G) := by
  have q1 := lc_map (i := 3) (e := qe_is_root_row_1) (st := fun _ => True) (δ := [some (.ref h), some (.fls (rw4 r0 r1 r2 r3 P Q)), some (.int (4 + N' s k)), none]) (f := liftB (okp s k)) (G := G) trivial (P.map Dv.int) [] (fun d hd => by
    obtain ⟨i, hi, rfl⟩ := List.mem_map.mp hd
    simp only [Mi.bnd, Mi.mVar, Mi.mC, Mi.mkL, Mi.m2, Mi.m1, Mi.uNeg, Mi.bAdd, Mi.bSub, Mi.bDiv, Mi.bMod, Mi.bPow, Mi.sEq, Mi.bEq, Mi.bCmp, Mi.bLt, Mi.bLe, Mi.bGt, Mi.bGe, Mi.isNon, Mi.mIsN, Mi.mChain, Mi.mAnd, Mi.mOr, Mi.mNot, Mi.mTb, Mi.mTand, Mi.mTor, Mi.mTnot, Mi.mIf, Mi.mNil, Mi.mCons, Mi.mTup, Mi.mLst, Mi.mB, Mi.kOf, Mi.mFld, Mi.mCall, Mi.mCallK, Mi.mMeth, Mi.mMethK, Mi.mDef, Mi.fInt, Mi.fMax, Mi.fMin, Mi.isI, Mi.mIsI, Ms.mIsC, Mi.gNm, Mi.gNil, Mi.gCons, Mi.gTup, Mi.mSeq, Mi.mSkip, Mi.mBrk, Mi.mCont, Mi.mAsg, Mi.mPar, Mi.mExpr, Mi.mRet, Mi.mRetN, Mi.mIfS, Mi.tYes, Mi.wipe, Ms.mDct0, Ms.bAddI, List.map_cons, List.map_nil, List.nil_append, List.cons_append, List.length_cons, List.length_nil, List.replicate_succ, List.replicate_zero, List.getElem?_cons_zero, List.getElem?_cons_succ, List.getElem?_nil, List.set_cons_zero, List.set_cons_succ, Option.map_some, Option.map_none, if_true, if_false, reduceIte, decide_true, decide_false, Nat.reduceAdd, Nat.reduceLeDiff, List.mem_cons, List.mem_singleton, true_or, or_true, true_and, and_true, bne_self_eq_false, Bool.not_true, Bool.not_false, reduceCtorEq, Nat.reduceEqDiff, beq_self_eq_true, Nat.reduceLT, Int.reduceLT, Int.reduceLE, Int.reduceToNat, Int.reduceAdd, Int.reduceSub, Int.reduceMul, Int.reduceNeg, String.reduceEq, String.reduceBEq, List.lookup_cons, List.lookup_nil, Mi.big, Mi.putF, List.length_append, List.append_assoc, ite_true, ite_false, Bool.false_eq_true, and_self, not_true_eq_false, not_false_eq_true, Sum.inr.injEq, Sum.inl.injEq, Mi.look, Mi.put, List.any_cons, List.any_nil, Bool.or_true, Bool.or_false, Bool.true_or, Bool.false_or, List.find?_cons, Option.getD_some, Option.getD_none, Bool.bne_false, Bool.false_bne, Bool.true_bne, Bool.bne_true, Int.reduceEq, Int.reducePow, qe_is_root_row_1, place_word_ok D h1 h2, liftB]) (by rw [List.length_map]; show 0 + _ ≤ 16777216; omega)
  have q2 := fun x => lc_map (i := 3) (e := qe_is_root_row_2) (st := fun _ => True) (δ := [some (.ref h), some (.fls (rw4 r0 r1 r2 r3 P Q)), some (.int (4 + N' s k)), x]) (f := liftB fun z => decide (z = 0)) (G := G) trivial (Q.map Dv.int) [] (fun d hd => by
    obtain ⟨i, hi, rfl⟩ := List.mem_map.mp hd
    simp only [Mi.bnd, Mi.mVar, Mi.mC, Mi.mkL, Mi.m2, Mi.m1, Mi.uNeg, Mi.bAdd, Mi.bSub, Mi.bDiv, Mi.bMod, Mi.bPow, Mi.sEq, Mi.bEq, Mi.bCmp, Mi.bLt, Mi.bLe, Mi.bGt, Mi.bGe, Mi.isNon, Mi.mIsN, Mi.mChain, Mi.mAnd, Mi.mOr, Mi.mNot, Mi.mTb, Mi.mTand, Mi.mTor, Mi.mTnot, Mi.mIf, Mi.mNil, Mi.mCons, Mi.mTup, Mi.mLst, Mi.mB, Mi.kOf, Mi.mFld, Mi.mCall, Mi.mCallK, Mi.mMeth, Mi.mMethK, Mi.mDef, Mi.fInt, Mi.fMax, Mi.fMin, Mi.isI, Mi.mIsI, Ms.mIsC, Mi.gNm, Mi.gNil, Mi.gCons, Mi.gTup, Mi.mSeq, Mi.mSkip, Mi.mBrk, Mi.mCont, Mi.mAsg, Mi.mPar, Mi.mExpr, Mi.mRet, Mi.mRetN, Mi.mIfS, Mi.tYes, Mi.wipe, Ms.mDct0, Ms.bAddI, List.map_cons, List.map_nil, List.nil_append, List.cons_append, List.length_cons, List.length_nil, List.replicate_succ, List.replicate_zero, List.getElem?_cons_zero, List.getElem?_cons_succ, List.getElem?_nil, List.set_cons_zero, List.set_cons_succ, Option.map_some, Option.map_none, if_true, if_false, reduceIte, decide_true, decide_false, Nat.reduceAdd, Nat.reduceLeDiff, List.mem_cons, List.mem_singleton, true_or, or_true, true_and, and_true, bne_self_eq_false, Bool.not_true, Bool.not_false, reduceCtorEq, Nat.reduceEqDiff, beq_self_eq_true, Nat.reduceLT, Int.reduceLT, Int.reduceLE, Int.reduceToNat, Int.reduceAdd, Int.reduceSub, Int.reduceMul, Int.reduceNeg, String.reduceEq, String.reduceBEq, List.lookup_cons, List.lookup_nil, Mi.big, Mi.putF, List.length_append, List.append_assoc, ite_true, ite_false, Bool.false_eq_true, and_self, not_true_eq_false, not_false_eq_true, Sum.inr.injEq, Sum.inl.injEq, Mi.look, Mi.put, List.any_cons, List.any_nil, Bool.or_true, Bool.or_false, Bool.true_or, Bool.false_or, List.find?_cons, Option.getD_some, Option.getD_none, Bool.bne_false, Bool.false_bne, Bool.true_bne, Bool.bne_true, Int.reduceEq, Int.reducePow, qe_is_root_row_2, liftB]) (by rw [List.length_map]; show 0 + _ ≤ 16777216; omega)
  rw [List.nil_append] at q1
  have e1 : ql_is_root_row_1 [some (.ref h), some (.fls (rw4 r0 r1 r2 r3 P Q)), some (.int (4 + N' s k)), none] G = some (.fls ((P.map Dv.int).map (liftB (okp s k))), G) := by
    unfold ql_is_root_row_1 qi_is_root_row_1 Mi.mLc
    simp only [Mi.bnd, Mi.mVar, Mi.mC, Mi.mkL, Mi.m2, Mi.m1, Mi.uNeg, Mi.bAdd, Mi.bSub, Mi.bDiv, Mi.bMod, Mi.bPow, Mi.sEq, Mi.bEq, Mi.bCmp, Mi.bLt, Mi.bLe, Mi.bGt, Mi.bGe, Mi.isNon, Mi.mIsN, Mi.mChain, Mi.mAnd, Mi.mOr, Mi.mNot, Mi.mTb, Mi.mTand, Mi.mTor, Mi.mTnot, Mi.mIf, Mi.mNil, Mi.mCons, Mi.mTup, Mi.mLst, Mi.mB, Mi.kOf, Mi.mFld, Mi.mCall, Mi.mCallK, Mi.mMeth, Mi.mMethK, Mi.mDef, Mi.fInt, Mi.fMax, Mi.fMin, Mi.isI, Mi.mIsI, Ms.mIsC, Mi.gNm, Mi.gNil, Mi.gCons, Mi.gTup, Mi.mSeq, Mi.mSkip, Mi.mBrk, Mi.mCont, Mi.mAsg, Mi.mPar, Mi.mExpr, Mi.mRet, Mi.mRetN, Mi.mIfS, Mi.tYes, Mi.wipe, Ms.mDct0, Ms.bAddI, List.map_cons, List.map_nil, List.nil_append, List.cons_append, List.length_cons, List.length_nil, List.replicate_succ, List.replicate_zero, List.getElem?_cons_zero, List.getElem?_cons_succ, List.getElem?_nil, List.set_cons_zero, List.set_cons_succ, Option.map_some, Option.map_none, if_true, if_false, reduceIte, decide_true, decide_false, Nat.reduceAdd, Nat.reduceLeDiff, List.mem_cons, List.mem_singleton, true_or, or_true, true_and, and_true, bne_self_eq_false, Bool.not_true, Bool.not_false, reduceCtorEq, Nat.reduceEqDiff, beq_self_eq_true, Nat.reduceLT, Int.reduceLT, Int.reduceLE, Int.reduceToNat, Int.reduceAdd, Int.reduceSub, Int.reduceMul, Int.reduceNeg, String.reduceEq, String.reduceBEq, List.lookup_cons, List.lookup_nil, Mi.big, Mi.putF, List.length_append, List.append_assoc, ite_true, ite_false, Bool.false_eq_true, and_self, not_true_eq_false, not_false_eq_true, Sum.inr.injEq, Sum.inl.injEq, Mi.look, Mi.put, List.any_cons, List.any_nil, Bool.or_true, Bool.or_false, Bool.true_or, Bool.false_or, List.find?_cons, Option.getD_some, Option.getD_none, Bool.bne_false, Bool.false_bne, Bool.true_bne, Bool.bne_true, Int.reduceEq, Int.reducePow, Mi.iSeq, Mi.mSlice, Mi.mO, Mi.lstOf, Mi.seqOf, cutP r0 r1 r2 r3 P Q hP, q1]
  have e2 : ∀ x, ql_is_root_row_2 [some (.ref h), some (.fls (rw4 r0 r1 r2 r3 P Q)), some (.int (4 + N' s k)), x] G = some (.fls ((Q.map Dv.int).map (liftB fun z => decide (z = 0))), G) := fun x => by
    have q := q2 none
    rw [List.nil_append] at q
    unfold ql_is_root_row_2 qi_is_root_row_2 Mi.mLc
    simp only [Mi.bnd, Mi.mVar, Mi.mC, Mi.mkL, Mi.m2, Mi.m1, Mi.uNeg, Mi.bAdd, Mi.bSub, Mi.bDiv, Mi.bMod, Mi.bPow, Mi.sEq, Mi.bEq, Mi.bCmp, Mi.bLt, Mi.bLe, Mi.bGt, Mi.bGe, Mi.isNon, Mi.mIsN, Mi.mChain, Mi.mAnd, Mi.mOr, Mi.mNot, Mi.mTb, Mi.mTand, Mi.mTor, Mi.mTnot, Mi.mIf, Mi.mNil, Mi.mCons, Mi.mTup, Mi.mLst, Mi.mB, Mi.kOf, Mi.mFld, Mi.mCall, Mi.mCallK, Mi.mMeth, Mi.mMethK, Mi.mDef, Mi.fInt, Mi.fMax, Mi.fMin, Mi.isI, Mi.mIsI, Ms.mIsC, Mi.gNm, Mi.gNil, Mi.gCons, Mi.gTup, Mi.mSeq, Mi.mSkip, Mi.mBrk, Mi.mCont, Mi.mAsg, Mi.mPar, Mi.mExpr, Mi.mRet, Mi.mRetN, Mi.mIfS, Mi.tYes, Mi.wipe, Ms.mDct0, Ms.bAddI, List.map_cons, List.map_nil, List.nil_append, List.cons_append, List.length_cons, List.length_nil, List.replicate_succ, List.replicate_zero, List.getElem?_cons_zero, List.getElem?_cons_succ, List.getElem?_nil, List.set_cons_zero, List.set_cons_succ, Option.map_some, Option.map_none, if_true, if_false, reduceIte, decide_true, decide_false, Nat.reduceAdd, Nat.reduceLeDiff, List.mem_cons, List.mem_singleton, true_or, or_true, true_and, and_true, bne_self_eq_false, Bool.not_true, Bool.not_false, reduceCtorEq, Nat.reduceEqDiff, beq_self_eq_true, Nat.reduceLT, Int.reduceLT, Int.reduceLE, Int.reduceToNat, Int.reduceAdd, Int.reduceSub, Int.reduceMul, Int.reduceNeg, String.reduceEq, String.reduceBEq, List.lookup_cons, List.lookup_nil, Mi.big, Mi.putF, List.length_append, List.append_assoc, ite_true, ite_false, Bool.false_eq_true, and_self, not_true_eq_false, not_false_eq_true, Sum.inr.injEq, Sum.inl.injEq, Mi.look, Mi.put, List.any_cons, List.any_nil, Bool.or_true, Bool.or_false, Bool.true_or, Bool.false_or, List.find?_cons, Option.getD_some, Option.getD_none, Bool.bne_false, Bool.false_bne, Bool.true_bne, Bool.bne_true, Int.reduceEq, Int.reducePow, Mi.iSeq, Mi.mSlice, Mi.mO, Mi.lstOf, Mi.seqOf, cutQ r0 r1 r2 r3 P Q hP, q]
  unfold formOk
  by_cases c0 : r0 < s
  · by_cases c1 : r1 ≤ k
    · by_cases c2 : r2 < s
      · have d0 : ¬ s ≤ r0 := by omega
        have d1 : ¬ k < r1 := by omega
        have d2 : ¬ s ≤ r2 := by omega
        cases hA : P.all (okp s k) with
        | true => simp only [Mi.bnd, Mi.mVar, Mi.mC, Mi.mkL, Mi.m2, Mi.m1, Mi.uNeg, Mi.bAdd, Mi.bSub, Mi.bDiv, Mi.bMod, Mi.bPow, Mi.sEq, Mi.bEq, Mi.bCmp, Mi.bLt, Mi.bLe, Mi.bGt, Mi.bGe, Mi.isNon, Mi.mIsN, Mi.mChain, Mi.mAnd, Mi.mOr, Mi.mNot, Mi.mTb, Mi.mTand, Mi.mTor, Mi.mTnot, Mi.mIf, Mi.mNil, Mi.mCons, Mi.mTup, Mi.mLst, Mi.mB, Mi.kOf, Mi.mFld, Mi.mCall, Mi.mCallK, Mi.mMeth, Mi.mMethK, Mi.mDef, Mi.fInt, Mi.fMax, Mi.fMin, Mi.isI, Mi.mIsI, Ms.mIsC, Mi.gNm, Mi.gNil, Mi.gCons, Mi.gTup, Mi.mSeq, Mi.mSkip, Mi.mBrk, Mi.mCont, Mi.mAsg, Mi.mPar, Mi.mExpr, Mi.mRet, Mi.mRetN, Mi.mIfS, Mi.tYes, Mi.wipe, Ms.mDct0, Ms.bAddI, List.map_cons, List.map_nil, List.nil_append, List.cons_append, List.length_cons, List.length_nil, List.replicate_succ, List.replicate_zero, List.getElem?_cons_zero, List.getElem?_cons_succ, List.getElem?_nil, List.set_cons_zero, List.set_cons_succ, Option.map_some, Option.map_none, if_true, if_false, reduceIte, decide_true, decide_false, Nat.reduceAdd, Nat.reduceLeDiff, List.mem_cons, List.mem_singleton, true_or, or_true, true_and, and_true, bne_self_eq_false, Bool.not_true, Bool.not_false, reduceCtorEq, Nat.reduceEqDiff, beq_self_eq_true, Nat.reduceLT, Int.reduceLT, Int.reduceLE, Int.reduceToNat, Int.reduceAdd, Int.reduceSub, Int.reduceMul, Int.reduceNeg, String.reduceEq, String.reduceBEq, List.lookup_cons, List.lookup_nil, Mi.big, Mi.putF, List.length_append, List.append_assoc, ite_true, ite_false, Bool.false_eq_true, and_self, not_true_eq_false, not_false_eq_true, Sum.inr.injEq, Sum.inl.injEq, Mi.look, Mi.put, List.any_cons, List.any_nil, Bool.or_true, Bool.or_false, Bool.true_or, Bool.false_or, List.find?_cons, Option.getD_some, Option.getD_none, Bool.bne_false, Bool.false_bne, Bool.true_bne, Bool.bne_true, Int.reduceEq, Int.reducePow, m_is_root_row, b_is_root_row, rw0, rw1, rw2, D.ob, dfs, d0, d1, d2, c0, c1, c2, e1, e2, Mi.fAll, Mi.lstOf, bools_of, all_id, hA, Bool.true_and]
        | false => simp only [Mi.bnd, Mi.mVar, Mi.mC, Mi.mkL, Mi.m2, Mi.m1, Mi.uNeg, Mi.bAdd, Mi.bSub, Mi.bDiv, Mi.bMod, Mi.bPow, Mi.sEq, Mi.bEq, Mi.bCmp, Mi.bLt, Mi.bLe, Mi.bGt, Mi.bGe, Mi.isNon, Mi.mIsN, Mi.mChain, Mi.mAnd, Mi.mOr, Mi.mNot, Mi.mTb, Mi.mTand, Mi.mTor, Mi.mTnot, Mi.mIf, Mi.mNil, Mi.mCons, Mi.mTup, Mi.mLst, Mi.mB, Mi.kOf, Mi.mFld, Mi.mCall, Mi.mCallK, Mi.mMeth, Mi.mMethK, Mi.mDef, Mi.fInt, Mi.fMax, Mi.fMin, Mi.isI, Mi.mIsI, Ms.mIsC, Mi.gNm, Mi.gNil, Mi.gCons, Mi.gTup, Mi.mSeq, Mi.mSkip, Mi.mBrk, Mi.mCont, Mi.mAsg, Mi.mPar, Mi.mExpr, Mi.mRet, Mi.mRetN, Mi.mIfS, Mi.tYes, Mi.wipe, Ms.mDct0, Ms.bAddI, List.map_cons, List.map_nil, List.nil_append, List.cons_append, List.length_cons, List.length_nil, List.replicate_succ, List.replicate_zero, List.getElem?_cons_zero, List.getElem?_cons_succ, List.getElem?_nil, List.set_cons_zero, List.set_cons_succ, Option.map_some, Option.map_none, if_true, if_false, reduceIte, decide_true, decide_false, Nat.reduceAdd, Nat.reduceLeDiff, List.mem_cons, List.mem_singleton, true_or, or_true, true_and, and_true, bne_self_eq_false, Bool.not_true, Bool.not_false, reduceCtorEq, Nat.reduceEqDiff, beq_self_eq_true, Nat.reduceLT, Int.reduceLT, Int.reduceLE, Int.reduceToNat, Int.reduceAdd, Int.reduceSub, Int.reduceMul, Int.reduceNeg, String.reduceEq, String.reduceBEq, List.lookup_cons, List.lookup_nil, Mi.big, Mi.putF, List.length_append, List.append_assoc, ite_true, ite_false, Bool.false_eq_true, and_self, not_true_eq_false, not_false_eq_true, Sum.inr.injEq, Sum.inl.injEq, Mi.look, Mi.put, List.any_cons, List.any_nil, Bool.or_true, Bool.or_false, Bool.true_or, Bool.false_or, List.find?_cons, Option.getD_some, Option.getD_none, Bool.bne_false, Bool.false_bne, Bool.true_bne, Bool.bne_true, Int.reduceEq, Int.reducePow, m_is_root_row, b_is_root_row, rw0, rw1, rw2, D.ob, dfs, d0, d1, d2, c0, c1, c2, e1, e2, Mi.fAll, Mi.lstOf, bools_of, all_id, hA, Bool.true_and, Bool.false_and]
      · have d0 : ¬ s ≤ r0 := by omega
        have d1 : ¬ k < r1 := by omega
        have d2 : s ≤ r2 := by omega
        simp only [Mi.bnd, Mi.mVar, Mi.mC, Mi.mkL, Mi.m2, Mi.m1, Mi.uNeg, Mi.bAdd, Mi.bSub, Mi.bDiv, Mi.bMod, Mi.bPow, Mi.sEq, Mi.bEq, Mi.bCmp, Mi.bLt, Mi.bLe, Mi.bGt, Mi.bGe, Mi.isNon, Mi.mIsN, Mi.mChain, Mi.mAnd, Mi.mOr, Mi.mNot, Mi.mTb, Mi.mTand, Mi.mTor, Mi.mTnot, Mi.mIf, Mi.mNil, Mi.mCons, Mi.mTup, Mi.mLst, Mi.mB, Mi.kOf, Mi.mFld, Mi.mCall, Mi.mCallK, Mi.mMeth, Mi.mMethK, Mi.mDef, Mi.fInt, Mi.fMax, Mi.fMin, Mi.isI, Mi.mIsI, Ms.mIsC, Mi.gNm, Mi.gNil, Mi.gCons, Mi.gTup, Mi.mSeq, Mi.mSkip, Mi.mBrk, Mi.mCont, Mi.mAsg, Mi.mPar, Mi.mExpr, Mi.mRet, Mi.mRetN, Mi.mIfS, Mi.tYes, Mi.wipe, Ms.mDct0, Ms.bAddI, List.map_cons, List.map_nil, List.nil_append, List.cons_append, List.length_cons, List.length_nil, List.replicate_succ, List.replicate_zero, List.getElem?_cons_zero, List.getElem?_cons_succ, List.getElem?_nil, List.set_cons_zero, List.set_cons_succ, Option.map_some, Option.map_none, if_true, if_false, reduceIte, decide_true, decide_false, Nat.reduceAdd, Nat.reduceLeDiff, List.mem_cons, List.mem_singleton, true_or, or_true, true_and, and_true, bne_self_eq_false, Bool.not_true, Bool.not_false, reduceCtorEq, Nat.reduceEqDiff, beq_self_eq_true, Nat.reduceLT, Int.reduceLT, Int.reduceLE, Int.reduceToNat, Int.reduceAdd, Int.reduceSub, Int.reduceMul, Int.reduceNeg, String.reduceEq, String.reduceBEq, List.lookup_cons, List.lookup_nil, Mi.big, Mi.putF, List.length_append, List.append_assoc, ite_true, ite_false, Bool.false_eq_true, and_self, not_true_eq_false, not_false_eq_true, Sum.inr.injEq, Sum.inl.injEq, Mi.look, Mi.put, List.any_cons, List.any_nil, Bool.or_true, Bool.or_false, Bool.true_or, Bool.false_or, List.find?_cons, Option.getD_some, Option.getD_none, Bool.bne_false, Bool.false_bne, Bool.true_bne, Bool.bne_true, Int.reduceEq, Int.reducePow, m_is_root_row, b_is_root_row, rw0, rw1, rw2, D.ob, dfs, d0, d1, d2, c0, c1, c2, Bool.true_and, Bool.false_and]
    · have d0 : ¬ s ≤ r0 := by omega
      have d1 : k < r1 := by omega
      simp only [Mi.bnd, Mi.mVar, Mi.mC, Mi.mkL, Mi.m2, Mi.m1, Mi.uNeg, Mi.bAdd, Mi.bSub, Mi.bDiv, Mi.bMod, Mi.bPow, Mi.sEq, Mi.bEq, Mi.bCmp, Mi.bLt, Mi.bLe, Mi.bGt, Mi.bGe, Mi.isNon, Mi.mIsN, Mi.mChain, Mi.mAnd, Mi.mOr, Mi.mNot, Mi.mTb, Mi.mTand, Mi.mTor, Mi.mTnot, Mi.mIf, Mi.mNil, Mi.mCons, Mi.mTup, Mi.mLst, Mi.mB, Mi.kOf, Mi.mFld, Mi.mCall, Mi.mCallK, Mi.mMeth, Mi.mMethK, Mi.mDef, Mi.fInt, Mi.fMax, Mi.fMin, Mi.isI, Mi.mIsI, Ms.mIsC, Mi.gNm, Mi.gNil, Mi.gCons, Mi.gTup, Mi.mSeq, Mi.mSkip, Mi.mBrk, Mi.mCont, Mi.mAsg, Mi.mPar, Mi.mExpr, Mi.mRet, Mi.mRetN, Mi.mIfS, Mi.tYes, Mi.wipe, Ms.mDct0, Ms.bAddI, List.map_cons, List.map_nil, List.nil_append, List.cons_append, List.length_cons, List.length_nil, List.replicate_succ, List.replicate_zero, List.getElem?_cons_zero, List.getElem?_cons_succ, List.getElem?_nil, List.set_cons_zero, List.set_cons_succ, Option.map_some, Option.map_none, if_true, if_false, reduceIte, decide_true, decide_false, Nat.reduceAdd, Nat.reduceLeDiff, List.mem_cons, List.mem_singleton, true_or, or_true, true_and, and_true, bne_self_eq_false, Bool.not_true, Bool.not_false, reduceCtorEq, Nat.reduceEqDiff, beq_self_eq_true, Nat.reduceLT, Int.reduceLT, Int.reduceLE, Int.reduceToNat, Int.reduceAdd, Int.reduceSub, Int.reduceMul, Int.reduceNeg, String.reduceEq, String.reduceBEq, List.lookup_cons, List.lookup_nil, Mi.big, Mi.putF, List.length_append, List.append_assoc, ite_true, ite_false, Bool.false_eq_true, and_self, not_true_eq_false, not_false_eq_true, Sum.inr.injEq, Sum.inl.injEq, Mi.look, Mi.put, List.any_cons, List.any_nil, Bool.or_true, Bool.or_false, Bool.true_or, Bool.false_or, List.find?_cons, Option.getD_some, Option.getD_none, Bool.bne_false, Bool.false_bne, Bool.true_bne, Bool.bne_true, Int.reduceEq, Int.reducePow, m_is_root_row, b_is_root_row, rw0, rw1, rw2, D.ob, dfs, d0, d1, c0, c1, Bool.true_and, Bool.false_and]
  · have d0 : s ≤ r0 := by omega
    simp only [Mi.bnd, Mi.mVar, Mi.mC, Mi.mkL, Mi.m2, Mi.m1, Mi.uNeg, Mi.bAdd, Mi.bSub, Mi.bDiv, Mi.bMod, Mi.bPow, Mi.sEq, Mi.bEq, Mi.bCmp, Mi.bLt, Mi.bLe, Mi.bGt, Mi.bGe, Mi.isNon, Mi.mIsN, Mi.mChain, Mi.mAnd, Mi.mOr, Mi.mNot, Mi.mTb, Mi.mTand, Mi.mTor, Mi.mTnot, Mi.mIf, Mi.mNil, Mi.mCons, Mi.mTup, Mi.mLst, Mi.mB, Mi.kOf, Mi.mFld, Mi.mCall, Mi.mCallK, Mi.mMeth, Mi.mMethK, Mi.mDef, Mi.fInt, Mi.fMax, Mi.fMin, Mi.isI, Mi.mIsI, Ms.mIsC, Mi.gNm, Mi.gNil, Mi.gCons, Mi.gTup, Mi.mSeq, Mi.mSkip, Mi.mBrk, Mi.mCont, Mi.mAsg, Mi.mPar, Mi.mExpr, Mi.mRet, Mi.mRetN, Mi.mIfS, Mi.tYes, Mi.wipe, Ms.mDct0, Ms.bAddI, List.map_cons, List.map_nil, List.nil_append, List.cons_append, List.length_cons, List.length_nil, List.replicate_succ, List.replicate_zero, List.getElem?_cons_zero, List.getElem?_cons_succ, List.getElem?_nil, List.set_cons_zero, List.set_cons_succ, Option.map_some, Option.map_none, if_true, if_false, reduceIte, decide_true, decide_false, Nat.reduceAdd, Nat.reduceLeDiff, List.mem_cons, List.mem_singleton, true_or, or_true, true_and, and_true, bne_self_eq_false, Bool.not_true, Bool.not_false, reduceCtorEq, Nat.reduceEqDiff, beq_self_eq_true, Nat.reduceLT, Int.reduceLT, Int.reduceLE, Int.reduceToNat, Int.reduceAdd, Int.reduceSub, Int.reduceMul, Int.reduceNeg, String.reduceEq, String.reduceBEq, List.lookup_cons, List.lookup_nil, Mi.big, Mi.putF, List.length_append, List.append_assoc, ite_true, ite_false, Bool.false_eq_true, and_self, not_true_eq_false, not_false_eq_true, Sum.inr.injEq, Sum.inl.injEq, Mi.look, Mi.put, List.any_cons, List.any_nil, Bool.or_true, Bool.or_false, Bool.true_or, Bool.false_or, List.find?_cons, Option.getD_some, Option.getD_none, Bool.bne_false, Bool.false_bne, Bool.true_bne, Bool.bne_true, Int.reduceEq, Int.reducePow, m_is_root_row, b_is_root_row, rw0, rw1, rw2, D.ob, dfs, d0, c0, Bool.true_and, Bool.false_and]
end
end Lw

namespace Lw
open Mi (Dv MO Sto Sl Rs bnd ME MT MA MS MF Fl MG MGs MI)
open Ms (mExtend mPar3 fMaxL mLc2 mLc2Loop)
def plc (z : Int) : Dv := if 0 < z then .int (z - 1) else .non
def J (s k n : Int) (bs : List (List Int)) (r0 r1 r2 r3 : Int) (P Q : List Int) : Dv := match fstBad n 0 bs with
  | some j => .tup [.str "broken", .int (j : Nat)]
  | none => if formOk s k r0 r1 r2 P Q = true then .tup [.str "root", .int n, .int r0, .int r1, .int r2, .int r3, .tup (P.map plc)] else .tup [.str "form"]
def liftD (p : Int → Dv) : Dv → Dv
  | .int z => p z
  | _ => .non
theorem map_liftD (p : Int → Dv) (zs : List Int) : (zs.map Dv.int).map (liftD p) = zs.map p := by rw [List.map_map]; rfl
theorem rng_bs (a : Int) (bs : List (List Int)) : (Mi.rng a (a + bs.length)).map (liftD fun z => T (bs.getD (z - a).toNat [])) = bs.map T := by
  unfold Mi.rng
  rw [List.map_map]
  refine List.ext_getElem ?_ fun i h1 h2 => ?_
  · simp
    omega
  · simp only [List.getElem_map, List.getElem_range, Function.comp, liftD]
    rw [List.length_map] at h2
    have e : (a + (i : Int) - a).toNat = i := by omega
    rw [e, List.getD_eq_getElem?_getD, List.getElem?_eq_getElem h2, Option.getD_some]
section
variable {G : Sto} {h hb hq hn : Nat} {s k : Int} {bl qu : List Dv} {nw : List (Mi.Key × Dv)}
theorem root_at_ok (D : Dsk G h hb hq hn s k bl qu nw) (h1 : 6 ≤ s ∧ s ≤ 40) (h2 : 4 ≤ k ∧ k ≤ 24) (area : Int) (ha : 0 ≤ area ∧ area ≤ 1) {b : List Int} {r : List (List Int)} (hb32 : ∀ w ∈ b :: r, w.length = 32) (hR : ((b :: r).length : Int) = R' s k)
    (hr : ∀ z, area * R' s k ≤ z → z < area * R' s k + R' s k → m_Disk_read [.ref h, .int z] G = some (T ((b :: r).getD (z - area * R' s k).toNat []), G))
    {r0 r1 r2 r3 : Int} {P Q : List Int} (hrow : rowOf (b :: r) = r0 :: r1 :: r2 :: r3 :: (P ++ Q)) (hP : (P.length : Int) = N' s k) :
    m_root_at [.ref h, .int area] G = some (J s k (b.getD 0 0) (b :: r) r0 r1 r2 r3 P Q, G) := by
  have bR := R'_b h1 h2
  have hlen := row_len hb32
  rw [hrow] at hlen
  simp only [List.length_cons, List.length_append] at hlen hR
  have m1 : Mi.bMul false (.int area) (.int (R' s k)) G = some (.int (area * R' s k), G) := bMul_small false _ _ G (by omega)
  have aR : 0 ≤ area * R' s k ∧ area * R' s k ≤ 30 := by
    rcases (show area = 0 ∨ area = 1 by omega) with rfl | rfl <;> omega
  generalize hF : area * R' s k = F at m1 aR hr
  have q1 := lc_map (i := 8) (e := qe_root_at_1) (st := fun _ => True) (δ := [some (.ref h), some (.int area), some (.int F), none, none, none, none, none, none, none, none]) (f := liftD fun z => T ((b :: r).getD (z - F).toNat [])) (G := G) trivial (Mi.rng F (F + R' s k)) [] (fun d hd => by
    unfold Mi.rng at hd
    obtain ⟨i, hi, rfl⟩ := List.mem_map.mp hd
    have hi' := (List.mem_range).mp hi
    simp only [Mi.bnd, Mi.mVar, Mi.mC, Mi.mkL, Mi.m2, Mi.m1, Mi.uNeg, Mi.bAdd, Mi.bSub, Mi.bDiv, Mi.bMod, Mi.bPow, Mi.sEq, Mi.bEq, Mi.bCmp, Mi.bLt, Mi.bLe, Mi.bGt, Mi.bGe, Mi.isNon, Mi.mIsN, Mi.mChain, Mi.mAnd, Mi.mOr, Mi.mNot, Mi.mTb, Mi.mTand, Mi.mTor, Mi.mTnot, Mi.mIf, Mi.mNil, Mi.mCons, Mi.mTup, Mi.mLst, Mi.mB, Mi.kOf, Mi.mFld, Mi.mCall, Mi.mCallK, Mi.mMeth, Mi.mMethK, Mi.mDef, Mi.fInt, Mi.fMax, Mi.fMin, Mi.isI, Mi.mIsI, Ms.mIsC, Mi.gNm, Mi.gNil, Mi.gCons, Mi.gTup, Mi.mSeq, Mi.mSkip, Mi.mBrk, Mi.mCont, Mi.mAsg, Mi.mPar, Mi.mExpr, Mi.mRet, Mi.mRetN, Mi.mIfS, Mi.tYes, Mi.wipe, Ms.mDct0, Ms.bAddI, List.map_cons, List.map_nil, List.nil_append, List.cons_append, List.length_cons, List.length_nil, List.replicate_succ, List.replicate_zero, List.getElem?_cons_zero, List.getElem?_cons_succ, List.getElem?_nil, List.set_cons_zero, List.set_cons_succ, Option.map_some, Option.map_none, if_true, if_false, reduceIte, decide_true, decide_false, Nat.reduceAdd, Nat.reduceLeDiff, List.mem_cons, List.mem_singleton, true_or, or_true, true_and, and_true, bne_self_eq_false, Bool.not_true, Bool.not_false, reduceCtorEq, Nat.reduceEqDiff, beq_self_eq_true, Nat.reduceLT, Int.reduceLT, Int.reduceLE, Int.reduceToNat, Int.reduceAdd, Int.reduceSub, Int.reduceMul, Int.reduceNeg, String.reduceEq, String.reduceBEq, List.lookup_cons, List.lookup_nil, Mi.big, Mi.putF, List.length_append, List.append_assoc, ite_true, ite_false, Bool.false_eq_true, and_self, not_true_eq_false, not_false_eq_true, Sum.inr.injEq, Sum.inl.injEq, Mi.look, Mi.put, List.any_cons, List.any_nil, Bool.or_true, Bool.or_false, Bool.true_or, Bool.false_or, List.find?_cons, Option.getD_some, Option.getD_none, Bool.bne_false, Bool.false_bne, Bool.true_bne, Bool.bne_true, Int.reduceEq, Int.reducePow, qe_root_at_1, hr (F + (i : Int)) (by omega) (by omega), liftD, D.ob, dfs]) (by unfold Mi.rng; rw [List.length_map, List.length_range]; show 0 + _ ≤ 16777216; omega)
  have q2 := rng_bs F (b :: r)
  rw [show ((b :: r).length : Int) = R' s k by rw [List.length_cons]; omega] at q2
  rw [q2, List.nil_append] at q1
  have e1 : ql_root_at_1 [some (.ref h), some (.int area), some (.int F), none, none, none, none, none, none, none, none] G = some (.fls ((b :: r).map T), G) := by
    unfold ql_root_at_1 qi_root_at_1 Mi.mLc
    have i1 : -(2 ^ 62) ≤ F ∧ F < 2 ^ 62 ∧ -(2 ^ 62) ≤ F + R' s k ∧ F + R' s k < 2 ^ 62 := by omega
    simp only [Mi.bnd, Mi.mVar, Mi.mC, Mi.mkL, Mi.m2, Mi.m1, Mi.uNeg, Mi.bAdd, Mi.bSub, Mi.bDiv, Mi.bMod, Mi.bPow, Mi.sEq, Mi.bEq, Mi.bCmp, Mi.bLt, Mi.bLe, Mi.bGt, Mi.bGe, Mi.isNon, Mi.mIsN, Mi.mChain, Mi.mAnd, Mi.mOr, Mi.mNot, Mi.mTb, Mi.mTand, Mi.mTor, Mi.mTnot, Mi.mIf, Mi.mNil, Mi.mCons, Mi.mTup, Mi.mLst, Mi.mB, Mi.kOf, Mi.mFld, Mi.mCall, Mi.mCallK, Mi.mMeth, Mi.mMethK, Mi.mDef, Mi.fInt, Mi.fMax, Mi.fMin, Mi.isI, Mi.mIsI, Ms.mIsC, Mi.gNm, Mi.gNil, Mi.gCons, Mi.gTup, Mi.mSeq, Mi.mSkip, Mi.mBrk, Mi.mCont, Mi.mAsg, Mi.mPar, Mi.mExpr, Mi.mRet, Mi.mRetN, Mi.mIfS, Mi.tYes, Mi.wipe, Ms.mDct0, Ms.bAddI, List.map_cons, List.map_nil, List.nil_append, List.cons_append, List.length_cons, List.length_nil, List.replicate_succ, List.replicate_zero, List.getElem?_cons_zero, List.getElem?_cons_succ, List.getElem?_nil, List.set_cons_zero, List.set_cons_succ, Option.map_some, Option.map_none, if_true, if_false, reduceIte, decide_true, decide_false, Nat.reduceAdd, Nat.reduceLeDiff, List.mem_cons, List.mem_singleton, true_or, or_true, true_and, and_true, bne_self_eq_false, Bool.not_true, Bool.not_false, reduceCtorEq, Nat.reduceEqDiff, beq_self_eq_true, Nat.reduceLT, Int.reduceLT, Int.reduceLE, Int.reduceToNat, Int.reduceAdd, Int.reduceSub, Int.reduceMul, Int.reduceNeg, String.reduceEq, String.reduceBEq, List.lookup_cons, List.lookup_nil, Mi.big, Mi.putF, List.length_append, List.append_assoc, ite_true, ite_false, Bool.false_eq_true, and_self, not_true_eq_false, not_false_eq_true, Sum.inr.injEq, Sum.inl.injEq, Mi.look, Mi.put, List.any_cons, List.any_nil, Bool.or_true, Bool.or_false, Bool.true_or, Bool.false_or, List.find?_cons, Option.getD_some, Option.getD_none, Bool.bne_false, Bool.false_bne, Bool.true_bne, Bool.bne_true, Int.reduceEq, Int.reducePow, -List.map_cons, -Int.reducePow, -Int.reduceNeg, Mi.iRange2, D.ob, dfs, if_pos i1, q1]
  have e2 := broken_ok hb32 G
  have e3 := fun a4 => row_ok (some (.ref h)) (some (.int area)) (some (.int F)) a4 none none none none none none G hb32 (by rw [List.length_cons]; omega)
  rw [hrow] at e3
  have e5 := subs0 (T b) (r.map T) G
  rw [← List.map_cons] at e5
  have e6 := wI0 (hb32 b (List.mem_cons_self ..)) G
  have e7 := root_row_ok D h1 h2 r0 r1 r2 r3 P Q hP (by omega)
  have q3 := fun a3 a4 a5 a7 => lc_map (i := 10) (e := qe_root_at_3) (st := fun _ => True) (δ := [some (.ref h), some (.int area), some (.int F), a3, a4, a5, some (.fls (P.map Dv.int)), a7, none, none, none]) (f := liftD plc) (G := G) trivial (P.map Dv.int) [] (fun d hd => by
    obtain ⟨i, hi, rfl⟩ := List.mem_map.mp hd
    by_cases h0 : 0 < i
    · simp only [Mi.bnd, Mi.mVar, Mi.mC, Mi.mkL, Mi.m2, Mi.m1, Mi.uNeg, Mi.bAdd, Mi.bSub, Mi.bDiv, Mi.bMod, Mi.bPow, Mi.sEq, Mi.bEq, Mi.bCmp, Mi.bLt, Mi.bLe, Mi.bGt, Mi.bGe, Mi.isNon, Mi.mIsN, Mi.mChain, Mi.mAnd, Mi.mOr, Mi.mNot, Mi.mTb, Mi.mTand, Mi.mTor, Mi.mTnot, Mi.mIf, Mi.mNil, Mi.mCons, Mi.mTup, Mi.mLst, Mi.mB, Mi.kOf, Mi.mFld, Mi.mCall, Mi.mCallK, Mi.mMeth, Mi.mMethK, Mi.mDef, Mi.fInt, Mi.fMax, Mi.fMin, Mi.isI, Mi.mIsI, Ms.mIsC, Mi.gNm, Mi.gNil, Mi.gCons, Mi.gTup, Mi.mSeq, Mi.mSkip, Mi.mBrk, Mi.mCont, Mi.mAsg, Mi.mPar, Mi.mExpr, Mi.mRet, Mi.mRetN, Mi.mIfS, Mi.tYes, Mi.wipe, Ms.mDct0, Ms.bAddI, List.map_cons, List.map_nil, List.nil_append, List.cons_append, List.length_cons, List.length_nil, List.replicate_succ, List.replicate_zero, List.getElem?_cons_zero, List.getElem?_cons_succ, List.getElem?_nil, List.set_cons_zero, List.set_cons_succ, Option.map_some, Option.map_none, if_true, if_false, reduceIte, decide_true, decide_false, Nat.reduceAdd, Nat.reduceLeDiff, List.mem_cons, List.mem_singleton, true_or, or_true, true_and, and_true, bne_self_eq_false, Bool.not_true, Bool.not_false, reduceCtorEq, Nat.reduceEqDiff, beq_self_eq_true, Nat.reduceLT, Int.reduceLT, Int.reduceLE, Int.reduceToNat, Int.reduceAdd, Int.reduceSub, Int.reduceMul, Int.reduceNeg, String.reduceEq, String.reduceBEq, List.lookup_cons, List.lookup_nil, Mi.big, Mi.putF, List.length_append, List.append_assoc, ite_true, ite_false, Bool.false_eq_true, and_self, not_true_eq_false, not_false_eq_true, Sum.inr.injEq, Sum.inl.injEq, Mi.look, Mi.put, List.any_cons, List.any_nil, Bool.or_true, Bool.or_false, Bool.true_or, Bool.false_or, List.find?_cons, Option.getD_some, Option.getD_none, Bool.bne_false, Bool.false_bne, Bool.true_bne, Bool.bne_true, Int.reduceEq, Int.reducePow, qe_root_at_3, liftD, plc, h0]
    · simp only [Mi.bnd, Mi.mVar, Mi.mC, Mi.mkL, Mi.m2, Mi.m1, Mi.uNeg, Mi.bAdd, Mi.bSub, Mi.bDiv, Mi.bMod, Mi.bPow, Mi.sEq, Mi.bEq, Mi.bCmp, Mi.bLt, Mi.bLe, Mi.bGt, Mi.bGe, Mi.isNon, Mi.mIsN, Mi.mChain, Mi.mAnd, Mi.mOr, Mi.mNot, Mi.mTb, Mi.mTand, Mi.mTor, Mi.mTnot, Mi.mIf, Mi.mNil, Mi.mCons, Mi.mTup, Mi.mLst, Mi.mB, Mi.kOf, Mi.mFld, Mi.mCall, Mi.mCallK, Mi.mMeth, Mi.mMethK, Mi.mDef, Mi.fInt, Mi.fMax, Mi.fMin, Mi.isI, Mi.mIsI, Ms.mIsC, Mi.gNm, Mi.gNil, Mi.gCons, Mi.gTup, Mi.mSeq, Mi.mSkip, Mi.mBrk, Mi.mCont, Mi.mAsg, Mi.mPar, Mi.mExpr, Mi.mRet, Mi.mRetN, Mi.mIfS, Mi.tYes, Mi.wipe, Ms.mDct0, Ms.bAddI, List.map_cons, List.map_nil, List.nil_append, List.cons_append, List.length_cons, List.length_nil, List.replicate_succ, List.replicate_zero, List.getElem?_cons_zero, List.getElem?_cons_succ, List.getElem?_nil, List.set_cons_zero, List.set_cons_succ, Option.map_some, Option.map_none, if_true, if_false, reduceIte, decide_true, decide_false, Nat.reduceAdd, Nat.reduceLeDiff, List.mem_cons, List.mem_singleton, true_or, or_true, true_and, and_true, bne_self_eq_false, Bool.not_true, Bool.not_false, reduceCtorEq, Nat.reduceEqDiff, beq_self_eq_true, Nat.reduceLT, Int.reduceLT, Int.reduceLE, Int.reduceToNat, Int.reduceAdd, Int.reduceSub, Int.reduceMul, Int.reduceNeg, String.reduceEq, String.reduceBEq, List.lookup_cons, List.lookup_nil, Mi.big, Mi.putF, List.length_append, List.append_assoc, ite_true, ite_false, Bool.false_eq_true, and_self, not_true_eq_false, not_false_eq_true, Sum.inr.injEq, Sum.inl.injEq, Mi.look, Mi.put, List.any_cons, List.any_nil, Bool.or_true, Bool.or_false, Bool.true_or, Bool.false_or, List.find?_cons, Option.getD_some, Option.getD_none, Bool.bne_false, Bool.false_bne, Bool.true_bne, Bool.bne_true, Int.reduceEq, Int.reducePow, qe_root_at_3, liftD, plc, h0]) (by rw [List.length_map]; show 0 + _ ≤ 16777216; omega)
  simp only [List.nil_append, map_liftD] at q3
  have e8 : ∀ a3 a4 a5 a7, ql_root_at_3 [some (.ref h), some (.int area), some (.int F), a3, a4, a5, some (.fls (P.map Dv.int)), a7, none, none, none] G = some (.fls (P.map plc), G) := fun a3 a4 a5 a7 => by
    unfold ql_root_at_3 qi_root_at_4 Mi.mLc
    simp only [Mi.bnd, Mi.mVar, Mi.mC, Mi.mkL, Mi.m2, Mi.m1, Mi.uNeg, Mi.bAdd, Mi.bSub, Mi.bDiv, Mi.bMod, Mi.bPow, Mi.sEq, Mi.bEq, Mi.bCmp, Mi.bLt, Mi.bLe, Mi.bGt, Mi.bGe, Mi.isNon, Mi.mIsN, Mi.mChain, Mi.mAnd, Mi.mOr, Mi.mNot, Mi.mTb, Mi.mTand, Mi.mTor, Mi.mTnot, Mi.mIf, Mi.mNil, Mi.mCons, Mi.mTup, Mi.mLst, Mi.mB, Mi.kOf, Mi.mFld, Mi.mCall, Mi.mCallK, Mi.mMeth, Mi.mMethK, Mi.mDef, Mi.fInt, Mi.fMax, Mi.fMin, Mi.isI, Mi.mIsI, Ms.mIsC, Mi.gNm, Mi.gNil, Mi.gCons, Mi.gTup, Mi.mSeq, Mi.mSkip, Mi.mBrk, Mi.mCont, Mi.mAsg, Mi.mPar, Mi.mExpr, Mi.mRet, Mi.mRetN, Mi.mIfS, Mi.tYes, Mi.wipe, Ms.mDct0, Ms.bAddI, List.map_cons, List.map_nil, List.nil_append, List.cons_append, List.length_cons, List.length_nil, List.replicate_succ, List.replicate_zero, List.getElem?_cons_zero, List.getElem?_cons_succ, List.getElem?_nil, List.set_cons_zero, List.set_cons_succ, Option.map_some, Option.map_none, if_true, if_false, reduceIte, decide_true, decide_false, Nat.reduceAdd, Nat.reduceLeDiff, List.mem_cons, List.mem_singleton, true_or, or_true, true_and, and_true, bne_self_eq_false, Bool.not_true, Bool.not_false, reduceCtorEq, Nat.reduceEqDiff, beq_self_eq_true, Nat.reduceLT, Int.reduceLT, Int.reduceLE, Int.reduceToNat, Int.reduceAdd, Int.reduceSub, Int.reduceMul, Int.reduceNeg, String.reduceEq, String.reduceBEq, List.lookup_cons, List.lookup_nil, Mi.big, Mi.putF, List.length_append, List.append_assoc, ite_true, ite_false, Bool.false_eq_true, and_self, not_true_eq_false, not_false_eq_true, Sum.inr.injEq, Sum.inl.injEq, Mi.look, Mi.put, List.any_cons, List.any_nil, Bool.or_true, Bool.or_false, Bool.true_or, Bool.false_or, List.find?_cons, Option.getD_some, Option.getD_none, Bool.bne_false, Bool.false_bne, Bool.true_bne, Bool.bne_true, Int.reduceEq, Int.reducePow, Mi.iSeq, Mi.lstOf, Mi.seqOf, q3]
  have c := cutP r0 r1 r2 r3 P Q hP
  have w0 := rw0 r0 r1 r2 r3 P Q G
  have w1 := rw1 r0 r1 r2 r3 P Q G
  have w2 := rw2 r0 r1 r2 r3 P Q G
  have w3 := rw3 r0 r1 r2 r3 P Q G
  change ∀ a4, _ = some (Dv.fls (rw4 r0 r1 r2 r3 P Q), G) at e3
  unfold brk at e2
  unfold J
  generalize (b :: r).map T = X at e1 e2 e3 e5
  generalize rw4 r0 r1 r2 r3 P Q = Y at e3 e7 c w0 w1 w2 w3
  cases hq : fstBad (b.getD 0 0) 0 (b :: r) with
  | some j =>
    rw [hq] at e2
    simp only [Mi.bnd, Mi.mVar, Mi.mC, Mi.mkL, Mi.m2, Mi.m1, Mi.uNeg, Mi.bAdd, Mi.bSub, Mi.bDiv, Mi.bMod, Mi.bPow, Mi.sEq, Mi.bEq, Mi.bCmp, Mi.bLt, Mi.bLe, Mi.bGt, Mi.bGe, Mi.isNon, Mi.mIsN, Mi.mChain, Mi.mAnd, Mi.mOr, Mi.mNot, Mi.mTb, Mi.mTand, Mi.mTor, Mi.mTnot, Mi.mIf, Mi.mNil, Mi.mCons, Mi.mTup, Mi.mLst, Mi.mB, Mi.kOf, Mi.mFld, Mi.mCall, Mi.mCallK, Mi.mMeth, Mi.mMethK, Mi.mDef, Mi.fInt, Mi.fMax, Mi.fMin, Mi.isI, Mi.mIsI, Ms.mIsC, Mi.gNm, Mi.gNil, Mi.gCons, Mi.gTup, Mi.mSeq, Mi.mSkip, Mi.mBrk, Mi.mCont, Mi.mAsg, Mi.mPar, Mi.mExpr, Mi.mRet, Mi.mRetN, Mi.mIfS, Mi.tYes, Mi.wipe, Ms.mDct0, Ms.bAddI, List.map_cons, List.map_nil, List.nil_append, List.cons_append, List.length_cons, List.length_nil, List.replicate_succ, List.replicate_zero, List.getElem?_cons_zero, List.getElem?_cons_succ, List.getElem?_nil, List.set_cons_zero, List.set_cons_succ, Option.map_some, Option.map_none, if_true, if_false, reduceIte, decide_true, decide_false, Nat.reduceAdd, Nat.reduceLeDiff, List.mem_cons, List.mem_singleton, true_or, or_true, true_and, and_true, bne_self_eq_false, Bool.not_true, Bool.not_false, reduceCtorEq, Nat.reduceEqDiff, beq_self_eq_true, Nat.reduceLT, Int.reduceLT, Int.reduceLE, Int.reduceToNat, Int.reduceAdd, Int.reduceSub, Int.reduceMul, Int.reduceNeg, String.reduceEq, String.reduceBEq, List.lookup_cons, List.lookup_nil, Mi.big, Mi.putF, List.length_append, List.append_assoc, ite_true, ite_false, Bool.false_eq_true, and_self, not_true_eq_false, not_false_eq_true, Sum.inr.injEq, Sum.inl.injEq, Mi.look, Mi.put, List.any_cons, List.any_nil, Bool.or_true, Bool.or_false, Bool.true_or, Bool.false_or, List.find?_cons, Option.getD_some, Option.getD_none, Bool.bne_false, Bool.false_bne, Bool.true_bne, Bool.bne_true, Int.reduceEq, Int.reducePow, m_root_at, b_root_at, D.ob, dfs, m1, e1, e2, e3, e5, e6]
  | none =>
    rw [hq] at e2
    cases hf : formOk s k r0 r1 r2 P Q with
    | false =>
      rw [hf] at e7
      simp only [Mi.bnd, Mi.mVar, Mi.mC, Mi.mkL, Mi.m2, Mi.m1, Mi.uNeg, Mi.bAdd, Mi.bSub, Mi.bDiv, Mi.bMod, Mi.bPow, Mi.sEq, Mi.bEq, Mi.bCmp, Mi.bLt, Mi.bLe, Mi.bGt, Mi.bGe, Mi.isNon, Mi.mIsN, Mi.mChain, Mi.mAnd, Mi.mOr, Mi.mNot, Mi.mTb, Mi.mTand, Mi.mTor, Mi.mTnot, Mi.mIf, Mi.mNil, Mi.mCons, Mi.mTup, Mi.mLst, Mi.mB, Mi.kOf, Mi.mFld, Mi.mCall, Mi.mCallK, Mi.mMeth, Mi.mMethK, Mi.mDef, Mi.fInt, Mi.fMax, Mi.fMin, Mi.isI, Mi.mIsI, Ms.mIsC, Mi.gNm, Mi.gNil, Mi.gCons, Mi.gTup, Mi.mSeq, Mi.mSkip, Mi.mBrk, Mi.mCont, Mi.mAsg, Mi.mPar, Mi.mExpr, Mi.mRet, Mi.mRetN, Mi.mIfS, Mi.tYes, Mi.wipe, Ms.mDct0, Ms.bAddI, List.map_cons, List.map_nil, List.nil_append, List.cons_append, List.length_cons, List.length_nil, List.replicate_succ, List.replicate_zero, List.getElem?_cons_zero, List.getElem?_cons_succ, List.getElem?_nil, List.set_cons_zero, List.set_cons_succ, Option.map_some, Option.map_none, if_true, if_false, reduceIte, decide_true, decide_false, Nat.reduceAdd, Nat.reduceLeDiff, List.mem_cons, List.mem_singleton, true_or, or_true, true_and, and_true, bne_self_eq_false, Bool.not_true, Bool.not_false, reduceCtorEq, Nat.reduceEqDiff, beq_self_eq_true, Nat.reduceLT, Int.reduceLT, Int.reduceLE, Int.reduceToNat, Int.reduceAdd, Int.reduceSub, Int.reduceMul, Int.reduceNeg, String.reduceEq, String.reduceBEq, List.lookup_cons, List.lookup_nil, Mi.big, Mi.putF, List.length_append, List.append_assoc, ite_true, ite_false, Bool.false_eq_true, and_self, not_true_eq_false, not_false_eq_true, Sum.inr.injEq, Sum.inl.injEq, Mi.look, Mi.put, List.any_cons, List.any_nil, Bool.or_true, Bool.or_false, Bool.true_or, Bool.false_or, List.find?_cons, Option.getD_some, Option.getD_none, Bool.bne_false, Bool.false_bne, Bool.true_bne, Bool.bne_true, Int.reduceEq, Int.reducePow, m_root_at, b_root_at, D.ob, dfs, m1, e1, e2, e3, e5, e6, e7, hf]
    | true =>
      rw [hf] at e7
      simp only [Mi.bnd, Mi.mVar, Mi.mC, Mi.mkL, Mi.m2, Mi.m1, Mi.uNeg, Mi.bAdd, Mi.bSub, Mi.bDiv, Mi.bMod, Mi.bPow, Mi.sEq, Mi.bEq, Mi.bCmp, Mi.bLt, Mi.bLe, Mi.bGt, Mi.bGe, Mi.isNon, Mi.mIsN, Mi.mChain, Mi.mAnd, Mi.mOr, Mi.mNot, Mi.mTb, Mi.mTand, Mi.mTor, Mi.mTnot, Mi.mIf, Mi.mNil, Mi.mCons, Mi.mTup, Mi.mLst, Mi.mB, Mi.kOf, Mi.mFld, Mi.mCall, Mi.mCallK, Mi.mMeth, Mi.mMethK, Mi.mDef, Mi.fInt, Mi.fMax, Mi.fMin, Mi.isI, Mi.mIsI, Ms.mIsC, Mi.gNm, Mi.gNil, Mi.gCons, Mi.gTup, Mi.mSeq, Mi.mSkip, Mi.mBrk, Mi.mCont, Mi.mAsg, Mi.mPar, Mi.mExpr, Mi.mRet, Mi.mRetN, Mi.mIfS, Mi.tYes, Mi.wipe, Ms.mDct0, Ms.bAddI, List.map_cons, List.map_nil, List.nil_append, List.cons_append, List.length_cons, List.length_nil, List.replicate_succ, List.replicate_zero, List.getElem?_cons_zero, List.getElem?_cons_succ, List.getElem?_nil, List.set_cons_zero, List.set_cons_succ, Option.map_some, Option.map_none, if_true, if_false, reduceIte, decide_true, decide_false, Nat.reduceAdd, Nat.reduceLeDiff, List.mem_cons, List.mem_singleton, true_or, or_true, true_and, and_true, bne_self_eq_false, Bool.not_true, Bool.not_false, reduceCtorEq, Nat.reduceEqDiff, beq_self_eq_true, Nat.reduceLT, Int.reduceLT, Int.reduceLE, Int.reduceToNat, Int.reduceAdd, Int.reduceSub, Int.reduceMul, Int.reduceNeg, String.reduceEq, String.reduceBEq, List.lookup_cons, List.lookup_nil, Mi.big, Mi.putF, List.length_append, List.append_assoc, ite_true, ite_false, Bool.false_eq_true, and_self, not_true_eq_false, not_false_eq_true, Sum.inr.injEq, Sum.inl.injEq, Mi.look, Mi.put, List.any_cons, List.any_nil, Bool.or_true, Bool.or_false, Bool.true_or, Bool.false_or, List.find?_cons, Option.getD_some, Option.getD_none, Bool.bne_false, Bool.false_bne, Bool.true_bne, Bool.bne_true, Int.reduceEq, Int.reducePow, m_root_at, b_root_at, D.ob, dfs, m1, e1, e2, e3, e5, e6, e7, e8, hf, Mi.mSlice, Mi.mO, Mi.lstOf, c, w0, w1, w2, w3, Mi.fTuple]
end
end Lw

namespace Lw
open Mi (Dv MO Sto Sl Rs bnd ME MT MA MS MF Fl MG MGs MI)
open Ms (mExtend mPar3 fMaxL mLc2 mLc2Loop)
def ownD (s k : Int) (hs : Nat) : List (Mi.Key × Dv) := [(.inr "S", .int s), (.inr "K", .int k), (.inr "N", .int (N' s k)), (.inr "R", .int (R' s k)), (.inr "stand", .ref hs)]
section
variable {G : Sto} {hi hs : Nat} {s k : Int}
theorem sS (e : G[hi]? = some (.dct (ownD s k hs))) : Mi.bSubs (.ref hi) (.str "S") G = some (.int s, G) := by simp only [Mi.bnd, Mi.mVar, Mi.mC, Mi.mkL, Mi.m2, Mi.m1, Mi.uNeg, Mi.bAdd, Mi.bSub, Mi.bDiv, Mi.bMod, Mi.bPow, Mi.sEq, Mi.bEq, Mi.bCmp, Mi.bLt, Mi.bLe, Mi.bGt, Mi.bGe, Mi.isNon, Mi.mIsN, Mi.mChain, Mi.mAnd, Mi.mOr, Mi.mNot, Mi.mTb, Mi.mTand, Mi.mTor, Mi.mTnot, Mi.mIf, Mi.mNil, Mi.mCons, Mi.mTup, Mi.mLst, Mi.mB, Mi.kOf, Mi.mFld, Mi.mCall, Mi.mCallK, Mi.mMeth, Mi.mMethK, Mi.mDef, Mi.fInt, Mi.fMax, Mi.fMin, Mi.isI, Mi.mIsI, Ms.mIsC, Mi.gNm, Mi.gNil, Mi.gCons, Mi.gTup, Mi.mSeq, Mi.mSkip, Mi.mBrk, Mi.mCont, Mi.mAsg, Mi.mPar, Mi.mExpr, Mi.mRet, Mi.mRetN, Mi.mIfS, Mi.tYes, Mi.wipe, Ms.mDct0, Ms.bAddI, List.map_cons, List.map_nil, List.nil_append, List.cons_append, List.length_cons, List.length_nil, List.replicate_succ, List.replicate_zero, List.getElem?_cons_zero, List.getElem?_cons_succ, List.getElem?_nil, List.set_cons_zero, List.set_cons_succ, Option.map_some, Option.map_none, if_true, if_false, reduceIte, decide_true, decide_false, Nat.reduceAdd, Nat.reduceLeDiff, List.mem_cons, List.mem_singleton, true_or, or_true, true_and, and_true, bne_self_eq_false, Bool.not_true, Bool.not_false, reduceCtorEq, Nat.reduceEqDiff, beq_self_eq_true, Nat.reduceLT, Int.reduceLT, Int.reduceLE, Int.reduceToNat, Int.reduceAdd, Int.reduceSub, Int.reduceMul, Int.reduceNeg, String.reduceEq, String.reduceBEq, List.lookup_cons, List.lookup_nil, Mi.big, Mi.putF, List.length_append, List.append_assoc, ite_true, ite_false, Bool.false_eq_true, and_self, not_true_eq_false, not_false_eq_true, Sum.inr.injEq, Sum.inl.injEq, Mi.look, Mi.put, List.any_cons, List.any_nil, Bool.or_true, Bool.or_false, Bool.true_or, Bool.false_or, List.find?_cons, Option.getD_some, Option.getD_none, Bool.bne_false, Bool.false_bne, Bool.true_bne, Bool.bne_true, Int.reduceEq, Int.reducePow, Mi.bSubs, Mi.bGet, e, ownD]
theorem sK (e : G[hi]? = some (.dct (ownD s k hs))) : Mi.bSubs (.ref hi) (.str "K") G = some (.int k, G) := by simp only [Mi.bnd, Mi.mVar, Mi.mC, Mi.mkL, Mi.m2, Mi.m1, Mi.uNeg, Mi.bAdd, Mi.bSub, Mi.bDiv, Mi.bMod, Mi.bPow, Mi.sEq, Mi.bEq, Mi.bCmp, Mi.bLt, Mi.bLe, Mi.bGt, Mi.bGe, Mi.isNon, Mi.mIsN, Mi.mChain, Mi.mAnd, Mi.mOr, Mi.mNot, Mi.mTb, Mi.mTand, Mi.mTor, Mi.mTnot, Mi.mIf, Mi.mNil, Mi.mCons, Mi.mTup, Mi.mLst, Mi.mB, Mi.kOf, Mi.mFld, Mi.mCall, Mi.mCallK, Mi.mMeth, Mi.mMethK, Mi.mDef, Mi.fInt, Mi.fMax, Mi.fMin, Mi.isI, Mi.mIsI, Ms.mIsC, Mi.gNm, Mi.gNil, Mi.gCons, Mi.gTup, Mi.mSeq, Mi.mSkip, Mi.mBrk, Mi.mCont, Mi.mAsg, Mi.mPar, Mi.mExpr, Mi.mRet, Mi.mRetN, Mi.mIfS, Mi.tYes, Mi.wipe, Ms.mDct0, Ms.bAddI, List.map_cons, List.map_nil, List.nil_append, List.cons_append, List.length_cons, List.length_nil, List.replicate_succ, List.replicate_zero, List.getElem?_cons_zero, List.getElem?_cons_succ, List.getElem?_nil, List.set_cons_zero, List.set_cons_succ, Option.map_some, Option.map_none, if_true, if_false, reduceIte, decide_true, decide_false, Nat.reduceAdd, Nat.reduceLeDiff, List.mem_cons, List.mem_singleton, true_or, or_true, true_and, and_true, bne_self_eq_false, Bool.not_true, Bool.not_false, reduceCtorEq, Nat.reduceEqDiff, beq_self_eq_true, Nat.reduceLT, Int.reduceLT, Int.reduceLE, Int.reduceToNat, Int.reduceAdd, Int.reduceSub, Int.reduceMul, Int.reduceNeg, String.reduceEq, String.reduceBEq, List.lookup_cons, List.lookup_nil, Mi.big, Mi.putF, List.length_append, List.append_assoc, ite_true, ite_false, Bool.false_eq_true, and_self, not_true_eq_false, not_false_eq_true, Sum.inr.injEq, Sum.inl.injEq, Mi.look, Mi.put, List.any_cons, List.any_nil, Bool.or_true, Bool.or_false, Bool.true_or, Bool.false_or, List.find?_cons, Option.getD_some, Option.getD_none, Bool.bne_false, Bool.false_bne, Bool.true_bne, Bool.bne_true, Int.reduceEq, Int.reducePow, Mi.bSubs, Mi.bGet, e, ownD]
theorem sN (e : G[hi]? = some (.dct (ownD s k hs))) : Mi.bSubs (.ref hi) (.str "N") G = some (.int (N' s k), G) := by simp only [Mi.bnd, Mi.mVar, Mi.mC, Mi.mkL, Mi.m2, Mi.m1, Mi.uNeg, Mi.bAdd, Mi.bSub, Mi.bDiv, Mi.bMod, Mi.bPow, Mi.sEq, Mi.bEq, Mi.bCmp, Mi.bLt, Mi.bLe, Mi.bGt, Mi.bGe, Mi.isNon, Mi.mIsN, Mi.mChain, Mi.mAnd, Mi.mOr, Mi.mNot, Mi.mTb, Mi.mTand, Mi.mTor, Mi.mTnot, Mi.mIf, Mi.mNil, Mi.mCons, Mi.mTup, Mi.mLst, Mi.mB, Mi.kOf, Mi.mFld, Mi.mCall, Mi.mCallK, Mi.mMeth, Mi.mMethK, Mi.mDef, Mi.fInt, Mi.fMax, Mi.fMin, Mi.isI, Mi.mIsI, Ms.mIsC, Mi.gNm, Mi.gNil, Mi.gCons, Mi.gTup, Mi.mSeq, Mi.mSkip, Mi.mBrk, Mi.mCont, Mi.mAsg, Mi.mPar, Mi.mExpr, Mi.mRet, Mi.mRetN, Mi.mIfS, Mi.tYes, Mi.wipe, Ms.mDct0, Ms.bAddI, List.map_cons, List.map_nil, List.nil_append, List.cons_append, List.length_cons, List.length_nil, List.replicate_succ, List.replicate_zero, List.getElem?_cons_zero, List.getElem?_cons_succ, List.getElem?_nil, List.set_cons_zero, List.set_cons_succ, Option.map_some, Option.map_none, if_true, if_false, reduceIte, decide_true, decide_false, Nat.reduceAdd, Nat.reduceLeDiff, List.mem_cons, List.mem_singleton, true_or, or_true, true_and, and_true, bne_self_eq_false, Bool.not_true, Bool.not_false, reduceCtorEq, Nat.reduceEqDiff, beq_self_eq_true, Nat.reduceLT, Int.reduceLT, Int.reduceLE, Int.reduceToNat, Int.reduceAdd, Int.reduceSub, Int.reduceMul, Int.reduceNeg, String.reduceEq, String.reduceBEq, List.lookup_cons, List.lookup_nil, Mi.big, Mi.putF, List.length_append, List.append_assoc, ite_true, ite_false, Bool.false_eq_true, and_self, not_true_eq_false, not_false_eq_true, Sum.inr.injEq, Sum.inl.injEq, Mi.look, Mi.put, List.any_cons, List.any_nil, Bool.or_true, Bool.or_false, Bool.true_or, Bool.false_or, List.find?_cons, Option.getD_some, Option.getD_none, Bool.bne_false, Bool.false_bne, Bool.true_bne, Bool.bne_true, Int.reduceEq, Int.reducePow, Mi.bSubs, Mi.bGet, e, ownD]
theorem sR (e : G[hi]? = some (.dct (ownD s k hs))) : Mi.bSubs (.ref hi) (.str "R") G = some (.int (R' s k), G) := by simp only [Mi.bnd, Mi.mVar, Mi.mC, Mi.mkL, Mi.m2, Mi.m1, Mi.uNeg, Mi.bAdd, Mi.bSub, Mi.bDiv, Mi.bMod, Mi.bPow, Mi.sEq, Mi.bEq, Mi.bCmp, Mi.bLt, Mi.bLe, Mi.bGt, Mi.bGe, Mi.isNon, Mi.mIsN, Mi.mChain, Mi.mAnd, Mi.mOr, Mi.mNot, Mi.mTb, Mi.mTand, Mi.mTor, Mi.mTnot, Mi.mIf, Mi.mNil, Mi.mCons, Mi.mTup, Mi.mLst, Mi.mB, Mi.kOf, Mi.mFld, Mi.mCall, Mi.mCallK, Mi.mMeth, Mi.mMethK, Mi.mDef, Mi.fInt, Mi.fMax, Mi.fMin, Mi.isI, Mi.mIsI, Ms.mIsC, Mi.gNm, Mi.gNil, Mi.gCons, Mi.gTup, Mi.mSeq, Mi.mSkip, Mi.mBrk, Mi.mCont, Mi.mAsg, Mi.mPar, Mi.mExpr, Mi.mRet, Mi.mRetN, Mi.mIfS, Mi.tYes, Mi.wipe, Ms.mDct0, Ms.bAddI, List.map_cons, List.map_nil, List.nil_append, List.cons_append, List.length_cons, List.length_nil, List.replicate_succ, List.replicate_zero, List.getElem?_cons_zero, List.getElem?_cons_succ, List.getElem?_nil, List.set_cons_zero, List.set_cons_succ, Option.map_some, Option.map_none, if_true, if_false, reduceIte, decide_true, decide_false, Nat.reduceAdd, Nat.reduceLeDiff, List.mem_cons, List.mem_singleton, true_or, or_true, true_and, and_true, bne_self_eq_false, Bool.not_true, Bool.not_false, reduceCtorEq, Nat.reduceEqDiff, beq_self_eq_true, Nat.reduceLT, Int.reduceLT, Int.reduceLE, Int.reduceToNat, Int.reduceAdd, Int.reduceSub, Int.reduceMul, Int.reduceNeg, String.reduceEq, String.reduceBEq, List.lookup_cons, List.lookup_nil, Mi.big, Mi.putF, List.length_append, List.append_assoc, ite_true, ite_false, Bool.false_eq_true, and_self, not_true_eq_false, not_false_eq_true, Sum.inr.injEq, Sum.inl.injEq, Mi.look, Mi.put, List.any_cons, List.any_nil, Bool.or_true, Bool.or_false, Bool.true_or, Bool.false_or, List.find?_cons, Option.getD_some, Option.getD_none, Bool.bne_false, Bool.false_bne, Bool.true_bne, Bool.bne_true, Int.reduceEq, Int.reducePow, Mi.bSubs, Mi.bGet, e, ownD]
theorem sSt (e : G[hi]? = some (.dct (ownD s k hs))) : Mi.bSubs (.ref hi) (.str "stand") G = some (.ref hs, G) := by simp only [Mi.bnd, Mi.mVar, Mi.mC, Mi.mkL, Mi.m2, Mi.m1, Mi.uNeg, Mi.bAdd, Mi.bSub, Mi.bDiv, Mi.bMod, Mi.bPow, Mi.sEq, Mi.bEq, Mi.bCmp, Mi.bLt, Mi.bLe, Mi.bGt, Mi.bGe, Mi.isNon, Mi.mIsN, Mi.mChain, Mi.mAnd, Mi.mOr, Mi.mNot, Mi.mTb, Mi.mTand, Mi.mTor, Mi.mTnot, Mi.mIf, Mi.mNil, Mi.mCons, Mi.mTup, Mi.mLst, Mi.mB, Mi.kOf, Mi.mFld, Mi.mCall, Mi.mCallK, Mi.mMeth, Mi.mMethK, Mi.mDef, Mi.fInt, Mi.fMax, Mi.fMin, Mi.isI, Mi.mIsI, Ms.mIsC, Mi.gNm, Mi.gNil, Mi.gCons, Mi.gTup, Mi.mSeq, Mi.mSkip, Mi.mBrk, Mi.mCont, Mi.mAsg, Mi.mPar, Mi.mExpr, Mi.mRet, Mi.mRetN, Mi.mIfS, Mi.tYes, Mi.wipe, Ms.mDct0, Ms.bAddI, List.map_cons, List.map_nil, List.nil_append, List.cons_append, List.length_cons, List.length_nil, List.replicate_succ, List.replicate_zero, List.getElem?_cons_zero, List.getElem?_cons_succ, List.getElem?_nil, List.set_cons_zero, List.set_cons_succ, Option.map_some, Option.map_none, if_true, if_false, reduceIte, decide_true, decide_false, Nat.reduceAdd, Nat.reduceLeDiff, List.mem_cons, List.mem_singleton, true_or, or_true, true_and, and_true, bne_self_eq_false, Bool.not_true, Bool.not_false, reduceCtorEq, Nat.reduceEqDiff, beq_self_eq_true, Nat.reduceLT, Int.reduceLT, Int.reduceLE, Int.reduceToNat, Int.reduceAdd, Int.reduceSub, Int.reduceMul, Int.reduceNeg, String.reduceEq, String.reduceBEq, List.lookup_cons, List.lookup_nil, Mi.big, Mi.putF, List.length_append, List.append_assoc, ite_true, ite_false, Bool.false_eq_true, and_self, not_true_eq_false, not_false_eq_true, Sum.inr.injEq, Sum.inl.injEq, Mi.look, Mi.put, List.any_cons, List.any_nil, Bool.or_true, Bool.or_false, Bool.true_or, Bool.false_or, List.find?_cons, Option.getD_some, Option.getD_none, Bool.bne_false, Bool.false_bne, Bool.true_bne, Bool.bne_true, Int.reduceEq, Int.reducePow, Mi.bSubs, Mi.bGet, e, ownD]
end
theorem intsOf_app : ∀ (xs ys : List Int), Mi.intsOf (xs.map Dv.int ++ ys.map Dv.int) = some (xs ++ ys) := fun xs ys => by rw [← List.map_append]; exact intsOf_map _
theorem maxQ (Q : List Int) (h : ∀ z ∈ Q, 0 ≤ z) (G : Sto) : ∃ m, fMaxL [.fls (Q.map Dv.int ++ [.int 0])] G = some (.int m, G) ∧ (decide (0 < m) = !(Q.all fun z => decide (z = 0))) := by
  have e : Mi.intsOf (Q.map Dv.int ++ [.int 0]) = some (Q ++ [0]) := intsOf_app Q [0]
  have key : ∀ m : Int, (∀ z ∈ Q ++ [0], z ≤ m) → m ∈ Q ++ [0] → (decide (0 < m) = !(Q.all fun z => decide (z = 0))) := fun m h1 h2 => by
    by_cases hm : 0 < m
    · have : (Q.all fun z => decide (z = 0)) = false := by
        rw [List.all_eq_false]
        rcases (List.mem_append.mp h2 : _ ∨ _) with q | q
        · exact ⟨m, q, by simp; omega⟩
        · rw [List.mem_singleton] at q
          omega
      rw [this, decide_eq_true hm]
      rfl
    · have : (Q.all fun z => decide (z = 0)) = true := by
        rw [List.all_eq_true]
        intro z hz
        have := h1 z (List.mem_append_left _ hz)
        have := h z hz
        simp only [decide_eq_true_eq]
        omega
      rw [this, decide_eq_false hm]
      rfl
  cases Q with
  | nil => exact ⟨0, by unfold fMaxL; simp only [Mi.bnd, Mi.mVar, Mi.mC, Mi.mkL, Mi.m2, Mi.m1, Mi.uNeg, Mi.bAdd, Mi.bSub, Mi.bDiv, Mi.bMod, Mi.bPow, Mi.sEq, Mi.bEq, Mi.bCmp, Mi.bLt, Mi.bLe, Mi.bGt, Mi.bGe, Mi.isNon, Mi.mIsN, Mi.mChain, Mi.mAnd, Mi.mOr, Mi.mNot, Mi.mTb, Mi.mTand, Mi.mTor, Mi.mTnot, Mi.mIf, Mi.mNil, Mi.mCons, Mi.mTup, Mi.mLst, Mi.mB, Mi.kOf, Mi.mFld, Mi.mCall, Mi.mCallK, Mi.mMeth, Mi.mMethK, Mi.mDef, Mi.fInt, Mi.fMax, Mi.fMin, Mi.isI, Mi.mIsI, Ms.mIsC, Mi.gNm, Mi.gNil, Mi.gCons, Mi.gTup, Mi.mSeq, Mi.mSkip, Mi.mBrk, Mi.mCont, Mi.mAsg, Mi.mPar, Mi.mExpr, Mi.mRet, Mi.mRetN, Mi.mIfS, Mi.tYes, Mi.wipe, Ms.mDct0, Ms.bAddI, List.map_cons, List.map_nil, List.nil_append, List.cons_append, List.length_cons, List.length_nil, List.replicate_succ, List.replicate_zero, List.getElem?_cons_zero, List.getElem?_cons_succ, List.getElem?_nil, List.set_cons_zero, List.set_cons_succ, Option.map_some, Option.map_none, if_true, if_false, reduceIte, decide_true, decide_false, Nat.reduceAdd, Nat.reduceLeDiff, List.mem_cons, List.mem_singleton, true_or, or_true, true_and, and_true, bne_self_eq_false, Bool.not_true, Bool.not_false, reduceCtorEq, Nat.reduceEqDiff, beq_self_eq_true, Nat.reduceLT, Int.reduceLT, Int.reduceLE, Int.reduceToNat, Int.reduceAdd, Int.reduceSub, Int.reduceMul, Int.reduceNeg, String.reduceEq, String.reduceBEq, List.lookup_cons, List.lookup_nil, Mi.big, Mi.putF, List.length_append, List.append_assoc, ite_true, ite_false, Bool.false_eq_true, and_self, not_true_eq_false, not_false_eq_true, Sum.inr.injEq, Sum.inl.injEq, Mi.look, Mi.put, List.any_cons, List.any_nil, Bool.or_true, Bool.or_false, Bool.true_or, Bool.false_or, List.find?_cons, Option.getD_some, Option.getD_none, Bool.bne_false, Bool.false_bne, Bool.true_bne, Bool.bne_true, Int.reduceEq, Int.reducePow, Mi.lstOf, Mi.intsOf, List.foldl_nil], key 0 (by simp) (by simp)⟩
  | cons q Q =>
    refine ⟨(Q ++ [0]).foldl max q, ?_, key _ (fun z hz => ?_) (Ms.foldl_max_mem (Q ++ [0]) q)⟩
    · unfold fMaxL
      have e' : Mi.lstOf G (.fls (List.map Dv.int (q :: Q) ++ [.int 0])) = some (List.map Dv.int (q :: Q) ++ [.int 0]) := rfl
      simp only [e', e, List.cons_append]
    · rcases (List.mem_cons.mp hz : _ ∨ _) with rfl | hz
      · exact (Ms.foldl_max_le (Q ++ [0]) z).1
      · exact (Ms.foldl_max_le (Q ++ [0]) q).2 z hz
theorem max2 (a b : Int) (G : Sto) : fMaxL [.fls [.int a, .int b]] G = some (.int (max a b), G) := by
  unfold fMaxL
  simp only [Mi.bnd, Mi.mVar, Mi.mC, Mi.mkL, Mi.m2, Mi.m1, Mi.uNeg, Mi.bAdd, Mi.bSub, Mi.bDiv, Mi.bMod, Mi.bPow, Mi.sEq, Mi.bEq, Mi.bCmp, Mi.bLt, Mi.bLe, Mi.bGt, Mi.bGe, Mi.isNon, Mi.mIsN, Mi.mChain, Mi.mAnd, Mi.mOr, Mi.mNot, Mi.mTb, Mi.mTand, Mi.mTor, Mi.mTnot, Mi.mIf, Mi.mNil, Mi.mCons, Mi.mTup, Mi.mLst, Mi.mB, Mi.kOf, Mi.mFld, Mi.mCall, Mi.mCallK, Mi.mMeth, Mi.mMethK, Mi.mDef, Mi.fInt, Mi.fMax, Mi.fMin, Mi.isI, Mi.mIsI, Ms.mIsC, Mi.gNm, Mi.gNil, Mi.gCons, Mi.gTup, Mi.mSeq, Mi.mSkip, Mi.mBrk, Mi.mCont, Mi.mAsg, Mi.mPar, Mi.mExpr, Mi.mRet, Mi.mRetN, Mi.mIfS, Mi.tYes, Mi.wipe, Ms.mDct0, Ms.bAddI, List.map_cons, List.map_nil, List.nil_append, List.cons_append, List.length_cons, List.length_nil, List.replicate_succ, List.replicate_zero, List.getElem?_cons_zero, List.getElem?_cons_succ, List.getElem?_nil, List.set_cons_zero, List.set_cons_succ, Option.map_some, Option.map_none, if_true, if_false, reduceIte, decide_true, decide_false, Nat.reduceAdd, Nat.reduceLeDiff, List.mem_cons, List.mem_singleton, true_or, or_true, true_and, and_true, bne_self_eq_false, Bool.not_true, Bool.not_false, reduceCtorEq, Nat.reduceEqDiff, beq_self_eq_true, Nat.reduceLT, Int.reduceLT, Int.reduceLE, Int.reduceToNat, Int.reduceAdd, Int.reduceSub, Int.reduceMul, Int.reduceNeg, String.reduceEq, String.reduceBEq, List.lookup_cons, List.lookup_nil, Mi.big, Mi.putF, List.length_append, List.append_assoc, ite_true, ite_false, Bool.false_eq_true, and_self, not_true_eq_false, not_false_eq_true, Sum.inr.injEq, Sum.inl.injEq, Mi.look, Mi.put, List.any_cons, List.any_nil, Bool.or_true, Bool.or_false, Bool.true_or, Bool.false_or, List.find?_cons, Option.getD_some, Option.getD_none, Bool.bne_false, Bool.false_bne, Bool.true_bne, Bool.bne_true, Int.reduceEq, Int.reducePow, Mi.lstOf, Mi.intsOf, List.foldl_cons, List.foldl_nil]
theorem lc_filter {i : Nat} {e : ME} {t : MT} {st : Sto → Prop} {δ : Sl} {p : Int → Bool} {G : Sto} (hs : st G) : ∀ (zs : List Int) (acc : List Dv), (∀ z ∈ zs, t (δ.set i (some (.int z))) G = some (p z, G) ∧ e (δ.set i (some (.int z))) G = some (.int z, G)) → acc.length + zs.length ≤ Mi.big →
    Mi.mLcLoop (Mi.gNm i) t e st δ (zs.map Dv.int) acc G = some (acc ++ (zs.filter p).map Dv.int, G)
  | [], acc, _, _ => by unfold Mi.mLcLoop; simp [hs]
  | z :: zs, acc, he, hb => by
    have h1 : acc.length < Mi.big := by rw [List.length_cons] at hb; omega
    obtain ⟨e1, e2⟩ := he z (List.mem_cons_self ..)
    rw [List.map_cons]
    unfold Mi.mLcLoop
    rw [if_pos ⟨hs, h1⟩]
    simp only [Mi.gNm]
    rw [e1]
    cases hp : p z with
    | true =>
      dsimp only
      rw [e2]
      dsimp only
      rw [lc_filter (p := p) hs zs (acc ++ [Dv.int z]) (fun x hx => he x (List.mem_cons_of_mem _ hx)) (by rw [List.length_append]; simp at hb ⊢; omega)]
      simp [hp]
    | false =>
      dsimp only
      rw [lc_filter (p := p) hs zs acc (fun x hx => he x (List.mem_cons_of_mem _ hx)) (by simp at hb ⊢; omega)]
      simp [hp]
end Lw

namespace Lw
open Mi (Dv MO Sto Sl Rs bnd ME MT MA MS MF Fl MG MGs MI)
open Ms (mExtend mPar3 fMaxL mLc2 mLc2Loop gUnL)
theorem filt_nil (s k : Int) (P : List Int) (h : ∀ z ∈ P, 0 ≤ z) : decide (P.filter (fun z => !decide (z = 0) && !(decide (2 * R' s k + 1 ≤ z) && decide (z ≤ 2 * R' s k + s * k))) = []) = P.all (okp s k) := by
  by_cases hA : P.all (okp s k) = true
  · rw [hA, decide_eq_true]
    rw [List.filter_eq_nil_iff]
    intro z hz
    have := List.all_eq_true.mp hA z hz
    unfold okp at this
    simp only [Bool.or_eq_true, Bool.and_eq_true, decide_eq_true_eq, Bool.not_eq_true'] at this ⊢
    intro q
    rw [decide_eq_false_iff_not, Bool.and_eq_false_iff, decide_eq_false_iff_not, decide_eq_false_iff_not] at q
    omega
  · have hA' : P.all (okp s k) = false := by simpa using hA
    rw [hA', decide_eq_false]
    intro q
    rw [List.filter_eq_nil_iff] at q
    obtain ⟨z, hz, hn⟩ := List.all_eq_false.mp hA'
    have := q z hz
    unfold okp at hn
    simp only [Bool.or_eq_true, Bool.and_eq_true, decide_eq_true_eq, Bool.not_eq_true'] at this hn
    refine this ?_
    rw [decide_eq_false_iff_not, Bool.and_eq_false_iff, decide_eq_false_iff_not, decide_eq_false_iff_not]
    omega
section
variable {G : Sto} {hi hs : Nat} {s k : Int}
theorem law_judge_ok (e : G[hi]? = some (.dct (ownD s k hs))) (e2 : G[hs]? = some (.lst st)) (h1 : 6 ≤ s ∧ s ≤ 40) (h2 : 4 ≤ k ∧ k ≤ 24) (area : Int) (ha : 0 ≤ area ∧ area ≤ 1) {b : List Int} {r : List (List Int)} (hb32 : ∀ w ∈ b :: r, w.length = 32) (hpos : ∀ w ∈ b :: r, ∀ z ∈ w, 0 ≤ z) (hR : ((b :: r).length : Int) = R' s k)
    (hcut : Mi.cut st (some (area * R' s k)) (some ((area + 1) * R' s k)) = (b :: r).map T)
    {r0 r1 r2 r3 : Int} {P Q : List Int} (hrow : rowOf (b :: r) = r0 :: r1 :: r2 :: r3 :: (P ++ Q)) (hP : (P.length : Int) = N' s k) :
    ∃ G', m_law_judge_root [.ref hi, .ref hs, .int area] G = some (J s k (b.getD 0 0) (b :: r) r0 r1 r2 r3 P Q, G') ∧ Sm [] G G' := by
  have bR := R'_b h1 h2
  have hlen := row_len hb32
  rw [hrow] at hlen
  have rp := row_pos hpos
  rw [hrow] at rp
  have pP : ∀ z ∈ P, 0 ≤ z := fun z hz => rp z (by simp [hz])
  have pQ : ∀ z ∈ Q, 0 ≤ z := fun z hz => rp z (by simp [hz])
  simp only [List.length_cons, List.length_append] at hlen hR
  have m1 : ∀ G, Mi.bMul false (.int area) (.int (R' s k)) G = some (.int (area * R' s k), G) := fun G => bMul_small false _ _ G (by omega)
  have m2 : ∀ G, Mi.bMul false (.int (area + 1)) (.int (R' s k)) G = some (.int ((area + 1) * R' s k), G) := fun G => bMul_small false _ _ G (by omega)
  have m3 : ∀ G, Mi.bMul false (.int 2) (.int (R' s k)) G = some (.int (2 * R' s k), G) := fun G => bMul_small false _ _ G (by omega)
  have m4 : ∀ G, Mi.bMul false (.int s) (.int k) G = some (.int (s * k), G) := fun G => bMul_small false _ _ G (by omega)
  have lt := lt_get e
  have lt2 := lt_get e2
  have g0 : (G ++ [MO.lst []])[hi]? = some (.dct (ownD s k hs)) := by rw [List.getElem?_append_left lt]; exact e
  have g1 : (G ++ [MO.lst []])[G.length]? = some (.lst (([] : List Int).map Dv.int)) := get0 _ _ _
  obtain ⟨x', y', G', eL, sL, lL, rL⟩ := law_loop (b.getD 0 0) (some (.ref hi)) (some (.ref hs)) (some (.int area)) (some (.fls ((b :: r).map T))) none none none none none none none none G.length (fun G' => Mi.lstOf G' (.fls ((b :: r).map T)) = some ((b :: r).map T)) (fun _ => rfl) (b :: r) 0 [] (G ++ [.lst []]) none none hb32 g1 (by simp only [List.length_cons, List.length_nil]; omega)
  have z : qf_law_judge_root_1 [some (.ref hi), some (.ref hs), some (.int area), some (.fls ((b :: r).map T)), some (.ref G.length), some (.int (b.getD 0 0)), none, none, none, none, none, none, none, none, none, none] (G ++ [.lst []]) = Mi.mLoop (Mi.gTup 2 (Mi.gCons (Mi.gNm 6) (Mi.gCons (Mi.gNm 7) Mi.gNil))) qb_law_judge_root_1 (fun G' => Mi.lstOf G' (.fls ((b :: r).map T)) = some ((b :: r).map T)) (Mi.enumD 0 ((b :: r).map T)) [some (.ref hi), some (.ref hs), some (.int area), some (.fls ((b :: r).map T)), some (.ref G.length), some (.int (b.getD 0 0)), none, none, none, none, none, none, none, none, none, none] (G ++ [.lst []]) := rfl
  have e3 := z.trans eL
  clear z eL
  have sm : Sm [] G G' := ⟨by rw [lL, List.length_append]; omega, fun i hi' _ => by
    rw [sL.at_ i (by rw [List.length_append]; omega) (by simp; omega), List.getElem?_append_left hi']⟩
  have e5 := fun G => subs0 (T b) (r.map T) G
  rw [← List.map_cons] at e5
  have e6 := fun G => wI0 (G := G) (hb32 b (List.mem_cons_self ..))
  have g2 : G'[hi]? = some (.dct (ownD s k hs)) := sm.get (by simp) e
  have c4 := cut4 r0 r1 r2 r3 P Q
  have cP := cutP r0 r1 r2 r3 P Q hP
  have cQ := cutQ r0 r1 r2 r3 P Q hP
  obtain ⟨mq, eq1, eq2⟩ := maxQ Q pQ G'
  refine ⟨G', ?_, sm⟩
  unfold J
  have mkw : Mi.mkL true [] G = (.ref G.length, G ++ [.lst []]) := rfl
  generalize (b :: r).map T = X at e3 e5 hcut
  cases hq : fstBad (b.getD 0 0) 0 (b :: r) with
  | some j =>
    rw [hq] at e3
    simp only [Mi.bnd, Mi.mVar, Mi.mC, Mi.mkL, Mi.m2, Mi.m1, Mi.uNeg, Mi.bAdd, Mi.bSub, Mi.bDiv, Mi.bMod, Mi.bPow, Mi.sEq, Mi.bEq, Mi.bCmp, Mi.bLt, Mi.bLe, Mi.bGt, Mi.bGe, Mi.isNon, Mi.mIsN, Mi.mChain, Mi.mAnd, Mi.mOr, Mi.mNot, Mi.mTb, Mi.mTand, Mi.mTor, Mi.mTnot, Mi.mIf, Mi.mNil, Mi.mCons, Mi.mTup, Mi.mLst, Mi.mB, Mi.kOf, Mi.mFld, Mi.mCall, Mi.mCallK, Mi.mMeth, Mi.mMethK, Mi.mDef, Mi.fInt, Mi.fMax, Mi.fMin, Mi.isI, Mi.mIsI, Ms.mIsC, Mi.gNm, Mi.gNil, Mi.gCons, Mi.gTup, Mi.mSeq, Mi.mSkip, Mi.mBrk, Mi.mCont, Mi.mAsg, Mi.mPar, Mi.mExpr, Mi.mRet, Mi.mRetN, Mi.mIfS, Mi.tYes, Mi.wipe, Ms.mDct0, Ms.bAddI, List.map_cons, List.map_nil, List.nil_append, List.cons_append, List.length_cons, List.length_nil, List.replicate_succ, List.replicate_zero, List.getElem?_cons_zero, List.getElem?_cons_succ, List.getElem?_nil, List.set_cons_zero, List.set_cons_succ, Option.map_some, Option.map_none, if_true, if_false, reduceIte, decide_true, decide_false, Nat.reduceAdd, Nat.reduceLeDiff, List.mem_cons, List.mem_singleton, true_or, or_true, true_and, and_true, bne_self_eq_false, Bool.not_true, Bool.not_false, reduceCtorEq, Nat.reduceEqDiff, beq_self_eq_true, Nat.reduceLT, Int.reduceLT, Int.reduceLE, Int.reduceToNat, Int.reduceAdd, Int.reduceSub, Int.reduceMul, Int.reduceNeg, String.reduceEq, String.reduceBEq, List.lookup_cons, List.lookup_nil, Mi.big, Mi.putF, List.length_append, List.append_assoc, ite_true, ite_false, Bool.false_eq_true, and_self, not_true_eq_false, not_false_eq_true, Sum.inr.injEq, Sum.inl.injEq, Mi.look, Mi.put, List.any_cons, List.any_nil, Bool.or_true, Bool.or_false, Bool.true_or, Bool.false_or, List.find?_cons, Option.getD_some, Option.getD_none, Bool.bne_false, Bool.false_bne, Bool.true_bne, Bool.bne_true, Int.reduceEq, Int.reducePow, m_law_judge_root, b_law_judge_root, Mi.mSlice, Mi.mO, sR e, sR g0, m1, m2, hcut, Mi.lstOf, e2, e5, e6, e3]
  | none =>
    rw [hq] at e3
    have hr := rL hq
    rw [List.nil_append, hrow] at hr
    change G'[G.length]? = some (MO.lst (rw4 r0 r1 r2 r3 P Q)) at hr
    have qf := lc_filter (i := 15) (e := qe_law_judge_root_1) (t := qt_law_judge_root_1) (st := fun _ => True) (δ := [some (.ref hi), some (.ref hs), some (.int area), some (.fls X), some (.ref G.length), some (.int (b.getD 0 0)), x', y', some (.int r0), some (.int r1), some (.int r2), some (.int r3), some (.int (2 * R' s k + 1)), some (.int (2 * R' s k + s * k)), some (.fls (P.map Dv.int)), none]) (p := fun z => !decide (z = 0) && !(decide (2 * R' s k + 1 ≤ z) && decide (z ≤ 2 * R' s k + s * k))) (G := G') trivial P [] (fun z _ => by
      refine ⟨?_, by simp only [Mi.bnd, Mi.mVar, Mi.mC, Mi.mkL, Mi.m2, Mi.m1, Mi.uNeg, Mi.bAdd, Mi.bSub, Mi.bDiv, Mi.bMod, Mi.bPow, Mi.sEq, Mi.bEq, Mi.bCmp, Mi.bLt, Mi.bLe, Mi.bGt, Mi.bGe, Mi.isNon, Mi.mIsN, Mi.mChain, Mi.mAnd, Mi.mOr, Mi.mNot, Mi.mTb, Mi.mTand, Mi.mTor, Mi.mTnot, Mi.mIf, Mi.mNil, Mi.mCons, Mi.mTup, Mi.mLst, Mi.mB, Mi.kOf, Mi.mFld, Mi.mCall, Mi.mCallK, Mi.mMeth, Mi.mMethK, Mi.mDef, Mi.fInt, Mi.fMax, Mi.fMin, Mi.isI, Mi.mIsI, Ms.mIsC, Mi.gNm, Mi.gNil, Mi.gCons, Mi.gTup, Mi.mSeq, Mi.mSkip, Mi.mBrk, Mi.mCont, Mi.mAsg, Mi.mPar, Mi.mExpr, Mi.mRet, Mi.mRetN, Mi.mIfS, Mi.tYes, Mi.wipe, Ms.mDct0, Ms.bAddI, List.map_cons, List.map_nil, List.nil_append, List.cons_append, List.length_cons, List.length_nil, List.replicate_succ, List.replicate_zero, List.getElem?_cons_zero, List.getElem?_cons_succ, List.getElem?_nil, List.set_cons_zero, List.set_cons_succ, Option.map_some, Option.map_none, if_true, if_false, reduceIte, decide_true, decide_false, Nat.reduceAdd, Nat.reduceLeDiff, List.mem_cons, List.mem_singleton, true_or, or_true, true_and, and_true, bne_self_eq_false, Bool.not_true, Bool.not_false, reduceCtorEq, Nat.reduceEqDiff, beq_self_eq_true, Nat.reduceLT, Int.reduceLT, Int.reduceLE, Int.reduceToNat, Int.reduceAdd, Int.reduceSub, Int.reduceMul, Int.reduceNeg, String.reduceEq, String.reduceBEq, List.lookup_cons, List.lookup_nil, Mi.big, Mi.putF, List.length_append, List.append_assoc, ite_true, ite_false, Bool.false_eq_true, and_self, not_true_eq_false, not_false_eq_true, Sum.inr.injEq, Sum.inl.injEq, Mi.look, Mi.put, List.any_cons, List.any_nil, Bool.or_true, Bool.or_false, Bool.true_or, Bool.false_or, List.find?_cons, Option.getD_some, Option.getD_none, Bool.bne_false, Bool.false_bne, Bool.true_bne, Bool.bne_true, Int.reduceEq, Int.reducePow, qe_law_judge_root_1]⟩
      by_cases z0 : z = 0
      · simp only [Mi.bnd, Mi.mVar, Mi.mC, Mi.mkL, Mi.m2, Mi.m1, Mi.uNeg, Mi.bAdd, Mi.bSub, Mi.bDiv, Mi.bMod, Mi.bPow, Mi.sEq, Mi.bEq, Mi.bCmp, Mi.bLt, Mi.bLe, Mi.bGt, Mi.bGe, Mi.isNon, Mi.mIsN, Mi.mChain, Mi.mAnd, Mi.mOr, Mi.mNot, Mi.mTb, Mi.mTand, Mi.mTor, Mi.mTnot, Mi.mIf, Mi.mNil, Mi.mCons, Mi.mTup, Mi.mLst, Mi.mB, Mi.kOf, Mi.mFld, Mi.mCall, Mi.mCallK, Mi.mMeth, Mi.mMethK, Mi.mDef, Mi.fInt, Mi.fMax, Mi.fMin, Mi.isI, Mi.mIsI, Ms.mIsC, Mi.gNm, Mi.gNil, Mi.gCons, Mi.gTup, Mi.mSeq, Mi.mSkip, Mi.mBrk, Mi.mCont, Mi.mAsg, Mi.mPar, Mi.mExpr, Mi.mRet, Mi.mRetN, Mi.mIfS, Mi.tYes, Mi.wipe, Ms.mDct0, Ms.bAddI, List.map_cons, List.map_nil, List.nil_append, List.cons_append, List.length_cons, List.length_nil, List.replicate_succ, List.replicate_zero, List.getElem?_cons_zero, List.getElem?_cons_succ, List.getElem?_nil, List.set_cons_zero, List.set_cons_succ, Option.map_some, Option.map_none, if_true, if_false, reduceIte, decide_true, decide_false, Nat.reduceAdd, Nat.reduceLeDiff, List.mem_cons, List.mem_singleton, true_or, or_true, true_and, and_true, bne_self_eq_false, Bool.not_true, Bool.not_false, reduceCtorEq, Nat.reduceEqDiff, beq_self_eq_true, Nat.reduceLT, Int.reduceLT, Int.reduceLE, Int.reduceToNat, Int.reduceAdd, Int.reduceSub, Int.reduceMul, Int.reduceNeg, String.reduceEq, String.reduceBEq, List.lookup_cons, List.lookup_nil, Mi.big, Mi.putF, List.length_append, List.append_assoc, ite_true, ite_false, Bool.false_eq_true, and_self, not_true_eq_false, not_false_eq_true, Sum.inr.injEq, Sum.inl.injEq, Mi.look, Mi.put, List.any_cons, List.any_nil, Bool.or_true, Bool.or_false, Bool.true_or, Bool.false_or, List.find?_cons, Option.getD_some, Option.getD_none, Bool.bne_false, Bool.false_bne, Bool.true_bne, Bool.bne_true, Int.reduceEq, Int.reducePow, qt_law_judge_root_1, z0, Bool.false_and]
      · by_cases z1 : 2 * R' s k + 1 ≤ z
        · simp only [Mi.bnd, Mi.mVar, Mi.mC, Mi.mkL, Mi.m2, Mi.m1, Mi.uNeg, Mi.bAdd, Mi.bSub, Mi.bDiv, Mi.bMod, Mi.bPow, Mi.sEq, Mi.bEq, Mi.bCmp, Mi.bLt, Mi.bLe, Mi.bGt, Mi.bGe, Mi.isNon, Mi.mIsN, Mi.mChain, Mi.mAnd, Mi.mOr, Mi.mNot, Mi.mTb, Mi.mTand, Mi.mTor, Mi.mTnot, Mi.mIf, Mi.mNil, Mi.mCons, Mi.mTup, Mi.mLst, Mi.mB, Mi.kOf, Mi.mFld, Mi.mCall, Mi.mCallK, Mi.mMeth, Mi.mMethK, Mi.mDef, Mi.fInt, Mi.fMax, Mi.fMin, Mi.isI, Mi.mIsI, Ms.mIsC, Mi.gNm, Mi.gNil, Mi.gCons, Mi.gTup, Mi.mSeq, Mi.mSkip, Mi.mBrk, Mi.mCont, Mi.mAsg, Mi.mPar, Mi.mExpr, Mi.mRet, Mi.mRetN, Mi.mIfS, Mi.tYes, Mi.wipe, Ms.mDct0, Ms.bAddI, List.map_cons, List.map_nil, List.nil_append, List.cons_append, List.length_cons, List.length_nil, List.replicate_succ, List.replicate_zero, List.getElem?_cons_zero, List.getElem?_cons_succ, List.getElem?_nil, List.set_cons_zero, List.set_cons_succ, Option.map_some, Option.map_none, if_true, if_false, reduceIte, decide_true, decide_false, Nat.reduceAdd, Nat.reduceLeDiff, List.mem_cons, List.mem_singleton, true_or, or_true, true_and, and_true, bne_self_eq_false, Bool.not_true, Bool.not_false, reduceCtorEq, Nat.reduceEqDiff, beq_self_eq_true, Nat.reduceLT, Int.reduceLT, Int.reduceLE, Int.reduceToNat, Int.reduceAdd, Int.reduceSub, Int.reduceMul, Int.reduceNeg, String.reduceEq, String.reduceBEq, List.lookup_cons, List.lookup_nil, Mi.big, Mi.putF, List.length_append, List.append_assoc, ite_true, ite_false, Bool.false_eq_true, and_self, not_true_eq_false, not_false_eq_true, Sum.inr.injEq, Sum.inl.injEq, Mi.look, Mi.put, List.any_cons, List.any_nil, Bool.or_true, Bool.or_false, Bool.true_or, Bool.false_or, List.find?_cons, Option.getD_some, Option.getD_none, Bool.bne_false, Bool.false_bne, Bool.true_bne, Bool.bne_true, Int.reduceEq, Int.reducePow, qt_law_judge_root_1, z0, z1, Bool.true_and]
        · simp only [Mi.bnd, Mi.mVar, Mi.mC, Mi.mkL, Mi.m2, Mi.m1, Mi.uNeg, Mi.bAdd, Mi.bSub, Mi.bDiv, Mi.bMod, Mi.bPow, Mi.sEq, Mi.bEq, Mi.bCmp, Mi.bLt, Mi.bLe, Mi.bGt, Mi.bGe, Mi.isNon, Mi.mIsN, Mi.mChain, Mi.mAnd, Mi.mOr, Mi.mNot, Mi.mTb, Mi.mTand, Mi.mTor, Mi.mTnot, Mi.mIf, Mi.mNil, Mi.mCons, Mi.mTup, Mi.mLst, Mi.mB, Mi.kOf, Mi.mFld, Mi.mCall, Mi.mCallK, Mi.mMeth, Mi.mMethK, Mi.mDef, Mi.fInt, Mi.fMax, Mi.fMin, Mi.isI, Mi.mIsI, Ms.mIsC, Mi.gNm, Mi.gNil, Mi.gCons, Mi.gTup, Mi.mSeq, Mi.mSkip, Mi.mBrk, Mi.mCont, Mi.mAsg, Mi.mPar, Mi.mExpr, Mi.mRet, Mi.mRetN, Mi.mIfS, Mi.tYes, Mi.wipe, Ms.mDct0, Ms.bAddI, List.map_cons, List.map_nil, List.nil_append, List.cons_append, List.length_cons, List.length_nil, List.replicate_succ, List.replicate_zero, List.getElem?_cons_zero, List.getElem?_cons_succ, List.getElem?_nil, List.set_cons_zero, List.set_cons_succ, Option.map_some, Option.map_none, if_true, if_false, reduceIte, decide_true, decide_false, Nat.reduceAdd, Nat.reduceLeDiff, List.mem_cons, List.mem_singleton, true_or, or_true, true_and, and_true, bne_self_eq_false, Bool.not_true, Bool.not_false, reduceCtorEq, Nat.reduceEqDiff, beq_self_eq_true, Nat.reduceLT, Int.reduceLT, Int.reduceLE, Int.reduceToNat, Int.reduceAdd, Int.reduceSub, Int.reduceMul, Int.reduceNeg, String.reduceEq, String.reduceBEq, List.lookup_cons, List.lookup_nil, Mi.big, Mi.putF, List.length_append, List.append_assoc, ite_true, ite_false, Bool.false_eq_true, and_self, not_true_eq_false, not_false_eq_true, Sum.inr.injEq, Sum.inl.injEq, Mi.look, Mi.put, List.any_cons, List.any_nil, Bool.or_true, Bool.or_false, Bool.true_or, Bool.false_or, List.find?_cons, Option.getD_some, Option.getD_none, Bool.bne_false, Bool.false_bne, Bool.true_bne, Bool.bne_true, Int.reduceEq, Int.reducePow, qt_law_judge_root_1, z0, z1, Bool.true_and, Bool.false_and]) (by show 0 + _ ≤ 16777216; omega)
    rw [List.nil_append] at qf
    have qn := filt_nil s k P pP
    generalize P.filter (fun z => !decide (z = 0) && !(decide (2 * R' s k + 1 ≤ z) && decide (z ≤ 2 * R' s k + s * k))) = F at qf qn
    have eF : ql_law_judge_root_1 [some (.ref hi), some (.ref hs), some (.int area), some (.fls X), some (.ref G.length), some (.int (b.getD 0 0)), x', y', some (.int r0), some (.int r1), some (.int r2), some (.int r3), some (.int (2 * R' s k + 1)), some (.int (2 * R' s k + s * k)), some (.fls (P.map Dv.int)), none] G' = some (.fls (F.map Dv.int), G') := by
      unfold ql_law_judge_root_1 qi_law_judge_root_2 Mi.mLc
      simp only [Mi.bnd, Mi.mVar, Mi.mC, Mi.mkL, Mi.m2, Mi.m1, Mi.uNeg, Mi.bAdd, Mi.bSub, Mi.bDiv, Mi.bMod, Mi.bPow, Mi.sEq, Mi.bEq, Mi.bCmp, Mi.bLt, Mi.bLe, Mi.bGt, Mi.bGe, Mi.isNon, Mi.mIsN, Mi.mChain, Mi.mAnd, Mi.mOr, Mi.mNot, Mi.mTb, Mi.mTand, Mi.mTor, Mi.mTnot, Mi.mIf, Mi.mNil, Mi.mCons, Mi.mTup, Mi.mLst, Mi.mB, Mi.kOf, Mi.mFld, Mi.mCall, Mi.mCallK, Mi.mMeth, Mi.mMethK, Mi.mDef, Mi.fInt, Mi.fMax, Mi.fMin, Mi.isI, Mi.mIsI, Ms.mIsC, Mi.gNm, Mi.gNil, Mi.gCons, Mi.gTup, Mi.mSeq, Mi.mSkip, Mi.mBrk, Mi.mCont, Mi.mAsg, Mi.mPar, Mi.mExpr, Mi.mRet, Mi.mRetN, Mi.mIfS, Mi.tYes, Mi.wipe, Ms.mDct0, Ms.bAddI, List.map_cons, List.map_nil, List.nil_append, List.cons_append, List.length_cons, List.length_nil, List.replicate_succ, List.replicate_zero, List.getElem?_cons_zero, List.getElem?_cons_succ, List.getElem?_nil, List.set_cons_zero, List.set_cons_succ, Option.map_some, Option.map_none, if_true, if_false, reduceIte, decide_true, decide_false, Nat.reduceAdd, Nat.reduceLeDiff, List.mem_cons, List.mem_singleton, true_or, or_true, true_and, and_true, bne_self_eq_false, Bool.not_true, Bool.not_false, reduceCtorEq, Nat.reduceEqDiff, beq_self_eq_true, Nat.reduceLT, Int.reduceLT, Int.reduceLE, Int.reduceToNat, Int.reduceAdd, Int.reduceSub, Int.reduceMul, Int.reduceNeg, String.reduceEq, String.reduceBEq, List.lookup_cons, List.lookup_nil, Mi.big, Mi.putF, List.length_append, List.append_assoc, ite_true, ite_false, Bool.false_eq_true, and_self, not_true_eq_false, not_false_eq_true, Sum.inr.injEq, Sum.inl.injEq, Mi.look, Mi.put, List.any_cons, List.any_nil, Bool.or_true, Bool.or_false, Bool.true_or, Bool.false_or, List.find?_cons, Option.getD_some, Option.getD_none, Bool.bne_false, Bool.false_bne, Bool.true_bne, Bool.bne_true, Int.reduceEq, Int.reducePow, Mi.iSeq, Mi.lstOf, Mi.seqOf, qf]
    have q3 := lc_map (i := 15) (e := qe_law_judge_root_2) (st := fun _ => True) (δ := [some (.ref hi), some (.ref hs), some (.int area), some (.fls X), some (.ref G.length), some (.int (b.getD 0 0)), x', y', some (.int r0), some (.int r1), some (.int r2), some (.int r3), some (.int (2 * R' s k + 1)), some (.int (2 * R' s k + s * k)), some (.fls (P.map Dv.int)), none]) (f := liftD plc) (G := G') trivial (P.map Dv.int) [] (fun d hd => by
      obtain ⟨i, hi', rfl⟩ := List.mem_map.mp hd
      have := pP i hi'
      by_cases h0 : i = 0
      · simp only [Mi.bnd, Mi.mVar, Mi.mC, Mi.mkL, Mi.m2, Mi.m1, Mi.uNeg, Mi.bAdd, Mi.bSub, Mi.bDiv, Mi.bMod, Mi.bPow, Mi.sEq, Mi.bEq, Mi.bCmp, Mi.bLt, Mi.bLe, Mi.bGt, Mi.bGe, Mi.isNon, Mi.mIsN, Mi.mChain, Mi.mAnd, Mi.mOr, Mi.mNot, Mi.mTb, Mi.mTand, Mi.mTor, Mi.mTnot, Mi.mIf, Mi.mNil, Mi.mCons, Mi.mTup, Mi.mLst, Mi.mB, Mi.kOf, Mi.mFld, Mi.mCall, Mi.mCallK, Mi.mMeth, Mi.mMethK, Mi.mDef, Mi.fInt, Mi.fMax, Mi.fMin, Mi.isI, Mi.mIsI, Ms.mIsC, Mi.gNm, Mi.gNil, Mi.gCons, Mi.gTup, Mi.mSeq, Mi.mSkip, Mi.mBrk, Mi.mCont, Mi.mAsg, Mi.mPar, Mi.mExpr, Mi.mRet, Mi.mRetN, Mi.mIfS, Mi.tYes, Mi.wipe, Ms.mDct0, Ms.bAddI, List.map_cons, List.map_nil, List.nil_append, List.cons_append, List.length_cons, List.length_nil, List.replicate_succ, List.replicate_zero, List.getElem?_cons_zero, List.getElem?_cons_succ, List.getElem?_nil, List.set_cons_zero, List.set_cons_succ, Option.map_some, Option.map_none, if_true, if_false, reduceIte, decide_true, decide_false, Nat.reduceAdd, Nat.reduceLeDiff, List.mem_cons, List.mem_singleton, true_or, or_true, true_and, and_true, bne_self_eq_false, Bool.not_true, Bool.not_false, reduceCtorEq, Nat.reduceEqDiff, beq_self_eq_true, Nat.reduceLT, Int.reduceLT, Int.reduceLE, Int.reduceToNat, Int.reduceAdd, Int.reduceSub, Int.reduceMul, Int.reduceNeg, String.reduceEq, String.reduceBEq, List.lookup_cons, List.lookup_nil, Mi.big, Mi.putF, List.length_append, List.append_assoc, ite_true, ite_false, Bool.false_eq_true, and_self, not_true_eq_false, not_false_eq_true, Sum.inr.injEq, Sum.inl.injEq, Mi.look, Mi.put, List.any_cons, List.any_nil, Bool.or_true, Bool.or_false, Bool.true_or, Bool.false_or, List.find?_cons, Option.getD_some, Option.getD_none, Bool.bne_false, Bool.false_bne, Bool.true_bne, Bool.bne_true, Int.reduceEq, Int.reducePow, qe_law_judge_root_2, liftD, plc, h0]
      · have h0' : 0 < i := by omega
        simp only [Mi.bnd, Mi.mVar, Mi.mC, Mi.mkL, Mi.m2, Mi.m1, Mi.uNeg, Mi.bAdd, Mi.bSub, Mi.bDiv, Mi.bMod, Mi.bPow, Mi.sEq, Mi.bEq, Mi.bCmp, Mi.bLt, Mi.bLe, Mi.bGt, Mi.bGe, Mi.isNon, Mi.mIsN, Mi.mChain, Mi.mAnd, Mi.mOr, Mi.mNot, Mi.mTb, Mi.mTand, Mi.mTor, Mi.mTnot, Mi.mIf, Mi.mNil, Mi.mCons, Mi.mTup, Mi.mLst, Mi.mB, Mi.kOf, Mi.mFld, Mi.mCall, Mi.mCallK, Mi.mMeth, Mi.mMethK, Mi.mDef, Mi.fInt, Mi.fMax, Mi.fMin, Mi.isI, Mi.mIsI, Ms.mIsC, Mi.gNm, Mi.gNil, Mi.gCons, Mi.gTup, Mi.mSeq, Mi.mSkip, Mi.mBrk, Mi.mCont, Mi.mAsg, Mi.mPar, Mi.mExpr, Mi.mRet, Mi.mRetN, Mi.mIfS, Mi.tYes, Mi.wipe, Ms.mDct0, Ms.bAddI, List.map_cons, List.map_nil, List.nil_append, List.cons_append, List.length_cons, List.length_nil, List.replicate_succ, List.replicate_zero, List.getElem?_cons_zero, List.getElem?_cons_succ, List.getElem?_nil, List.set_cons_zero, List.set_cons_succ, Option.map_some, Option.map_none, if_true, if_false, reduceIte, decide_true, decide_false, Nat.reduceAdd, Nat.reduceLeDiff, List.mem_cons, List.mem_singleton, true_or, or_true, true_and, and_true, bne_self_eq_false, Bool.not_true, Bool.not_false, reduceCtorEq, Nat.reduceEqDiff, beq_self_eq_true, Nat.reduceLT, Int.reduceLT, Int.reduceLE, Int.reduceToNat, Int.reduceAdd, Int.reduceSub, Int.reduceMul, Int.reduceNeg, String.reduceEq, String.reduceBEq, List.lookup_cons, List.lookup_nil, Mi.big, Mi.putF, List.length_append, List.append_assoc, ite_true, ite_false, Bool.false_eq_true, and_self, not_true_eq_false, not_false_eq_true, Sum.inr.injEq, Sum.inl.injEq, Mi.look, Mi.put, List.any_cons, List.any_nil, Bool.or_true, Bool.or_false, Bool.true_or, Bool.false_or, List.find?_cons, Option.getD_some, Option.getD_none, Bool.bne_false, Bool.false_bne, Bool.true_bne, Bool.bne_true, Int.reduceEq, Int.reducePow, qe_law_judge_root_2, liftD, plc, h0, h0']) (by rw [List.length_map]; show 0 + _ ≤ 16777216; omega)
    simp only [List.nil_append, map_liftD] at q3
    have eP : ql_law_judge_root_2 [some (.ref hi), some (.ref hs), some (.int area), some (.fls X), some (.ref G.length), some (.int (b.getD 0 0)), x', y', some (.int r0), some (.int r1), some (.int r2), some (.int r3), some (.int (2 * R' s k + 1)), some (.int (2 * R' s k + s * k)), some (.fls (P.map Dv.int)), none] G' = some (.fls (P.map plc), G') := by
      unfold ql_law_judge_root_2 qi_law_judge_root_3 Mi.mLc
      simp only [Mi.bnd, Mi.mVar, Mi.mC, Mi.mkL, Mi.m2, Mi.m1, Mi.uNeg, Mi.bAdd, Mi.bSub, Mi.bDiv, Mi.bMod, Mi.bPow, Mi.sEq, Mi.bEq, Mi.bCmp, Mi.bLt, Mi.bLe, Mi.bGt, Mi.bGe, Mi.isNon, Mi.mIsN, Mi.mChain, Mi.mAnd, Mi.mOr, Mi.mNot, Mi.mTb, Mi.mTand, Mi.mTor, Mi.mTnot, Mi.mIf, Mi.mNil, Mi.mCons, Mi.mTup, Mi.mLst, Mi.mB, Mi.kOf, Mi.mFld, Mi.mCall, Mi.mCallK, Mi.mMeth, Mi.mMethK, Mi.mDef, Mi.fInt, Mi.fMax, Mi.fMin, Mi.isI, Mi.mIsI, Ms.mIsC, Mi.gNm, Mi.gNil, Mi.gCons, Mi.gTup, Mi.mSeq, Mi.mSkip, Mi.mBrk, Mi.mCont, Mi.mAsg, Mi.mPar, Mi.mExpr, Mi.mRet, Mi.mRetN, Mi.mIfS, Mi.tYes, Mi.wipe, Ms.mDct0, Ms.bAddI, List.map_cons, List.map_nil, List.nil_append, List.cons_append, List.length_cons, List.length_nil, List.replicate_succ, List.replicate_zero, List.getElem?_cons_zero, List.getElem?_cons_succ, List.getElem?_nil, List.set_cons_zero, List.set_cons_succ, Option.map_some, Option.map_none, if_true, if_false, reduceIte, decide_true, decide_false, Nat.reduceAdd, Nat.reduceLeDiff, List.mem_cons, List.mem_singleton, true_or, or_true, true_and, and_true, bne_self_eq_false, Bool.not_true, Bool.not_false, reduceCtorEq, Nat.reduceEqDiff, beq_self_eq_true, Nat.reduceLT, Int.reduceLT, Int.reduceLE, Int.reduceToNat, Int.reduceAdd, Int.reduceSub, Int.reduceMul, Int.reduceNeg, String.reduceEq, String.reduceBEq, List.lookup_cons, List.lookup_nil, Mi.big, Mi.putF, List.length_append, List.append_assoc, ite_true, ite_false, Bool.false_eq_true, and_self, not_true_eq_false, not_false_eq_true, Sum.inr.injEq, Sum.inl.injEq, Mi.look, Mi.put, List.any_cons, List.any_nil, Bool.or_true, Bool.or_false, Bool.true_or, Bool.false_or, List.find?_cons, Option.getD_some, Option.getD_none, Bool.bne_false, Bool.false_bne, Bool.true_bne, Bool.bne_true, Int.reduceEq, Int.reducePow, Mi.iSeq, Mi.lstOf, Mi.seqOf, q3]
    generalize rw4 r0 r1 r2 r3 P Q = Y at hr c4 cP cQ
    have lQ : (Q.map Dv.int).length + 1 ≤ 16777216 := by rw [List.length_map]; omega
    by_cases c0 : s ≤ max r0 r2
    · have f : formOk s k r0 r1 r2 P Q = false := by
        unfold formOk
        rcases (show ¬ r0 < s ∨ ¬ r2 < s by omega) with q | q <;> simp [q]
      simp only [Mi.bnd, Mi.mVar, Mi.mC, Mi.mkL, Mi.m2, Mi.m1, Mi.uNeg, Mi.bAdd, Mi.bSub, Mi.bDiv, Mi.bMod, Mi.bPow, Mi.sEq, Mi.bEq, Mi.bCmp, Mi.bLt, Mi.bLe, Mi.bGt, Mi.bGe, Mi.isNon, Mi.mIsN, Mi.mChain, Mi.mAnd, Mi.mOr, Mi.mNot, Mi.mTb, Mi.mTand, Mi.mTor, Mi.mTnot, Mi.mIf, Mi.mNil, Mi.mCons, Mi.mTup, Mi.mLst, Mi.mB, Mi.kOf, Mi.mFld, Mi.mCall, Mi.mCallK, Mi.mMeth, Mi.mMethK, Mi.mDef, Mi.fInt, Mi.fMax, Mi.fMin, Mi.isI, Mi.mIsI, Ms.mIsC, Mi.gNm, Mi.gNil, Mi.gCons, Mi.gTup, Mi.mSeq, Mi.mSkip, Mi.mBrk, Mi.mCont, Mi.mAsg, Mi.mPar, Mi.mExpr, Mi.mRet, Mi.mRetN, Mi.mIfS, Mi.tYes, Mi.wipe, Ms.mDct0, Ms.bAddI, List.map_cons, List.map_nil, List.nil_append, List.cons_append, List.length_cons, List.length_nil, List.replicate_succ, List.replicate_zero, List.getElem?_cons_zero, List.getElem?_cons_succ, List.getElem?_nil, List.set_cons_zero, List.set_cons_succ, Option.map_some, Option.map_none, if_true, if_false, reduceIte, decide_true, decide_false, Nat.reduceAdd, Nat.reduceLeDiff, List.mem_cons, List.mem_singleton, true_or, or_true, true_and, and_true, bne_self_eq_false, Bool.not_true, Bool.not_false, reduceCtorEq, Nat.reduceEqDiff, beq_self_eq_true, Nat.reduceLT, Int.reduceLT, Int.reduceLE, Int.reduceToNat, Int.reduceAdd, Int.reduceSub, Int.reduceMul, Int.reduceNeg, String.reduceEq, String.reduceBEq, List.lookup_cons, List.lookup_nil, Mi.big, Mi.putF, List.length_append, List.append_assoc, ite_true, ite_false, Bool.false_eq_true, and_self, not_true_eq_false, not_false_eq_true, Sum.inr.injEq, Sum.inl.injEq, Mi.look, Mi.put, List.any_cons, List.any_nil, Bool.or_true, Bool.or_false, Bool.true_or, Bool.false_or, List.find?_cons, Option.getD_some, Option.getD_none, Bool.bne_false, Bool.false_bne, Bool.true_bne, Bool.bne_true, Int.reduceEq, Int.reducePow, m_law_judge_root, b_law_judge_root, Mi.mSlice, Mi.mO, sR e, sR g0, m1, m2, hcut, Mi.lstOf, e2, e5, e6, e3, hr, c4, cP, gUnL, sR g2, sN g2, sS g2, sK g2, m3, m4, max2, c0, f]
    · by_cases c1 : k < r1
      · have f : formOk s k r0 r1 r2 P Q = false := by
          unfold formOk
          simp [show ¬ r1 ≤ k by omega]
        simp only [Mi.bnd, Mi.mVar, Mi.mC, Mi.mkL, Mi.m2, Mi.m1, Mi.uNeg, Mi.bAdd, Mi.bSub, Mi.bDiv, Mi.bMod, Mi.bPow, Mi.sEq, Mi.bEq, Mi.bCmp, Mi.bLt, Mi.bLe, Mi.bGt, Mi.bGe, Mi.isNon, Mi.mIsN, Mi.mChain, Mi.mAnd, Mi.mOr, Mi.mNot, Mi.mTb, Mi.mTand, Mi.mTor, Mi.mTnot, Mi.mIf, Mi.mNil, Mi.mCons, Mi.mTup, Mi.mLst, Mi.mB, Mi.kOf, Mi.mFld, Mi.mCall, Mi.mCallK, Mi.mMeth, Mi.mMethK, Mi.mDef, Mi.fInt, Mi.fMax, Mi.fMin, Mi.isI, Mi.mIsI, Ms.mIsC, Mi.gNm, Mi.gNil, Mi.gCons, Mi.gTup, Mi.mSeq, Mi.mSkip, Mi.mBrk, Mi.mCont, Mi.mAsg, Mi.mPar, Mi.mExpr, Mi.mRet, Mi.mRetN, Mi.mIfS, Mi.tYes, Mi.wipe, Ms.mDct0, Ms.bAddI, List.map_cons, List.map_nil, List.nil_append, List.cons_append, List.length_cons, List.length_nil, List.replicate_succ, List.replicate_zero, List.getElem?_cons_zero, List.getElem?_cons_succ, List.getElem?_nil, List.set_cons_zero, List.set_cons_succ, Option.map_some, Option.map_none, if_true, if_false, reduceIte, decide_true, decide_false, Nat.reduceAdd, Nat.reduceLeDiff, List.mem_cons, List.mem_singleton, true_or, or_true, true_and, and_true, bne_self_eq_false, Bool.not_true, Bool.not_false, reduceCtorEq, Nat.reduceEqDiff, beq_self_eq_true, Nat.reduceLT, Int.reduceLT, Int.reduceLE, Int.reduceToNat, Int.reduceAdd, Int.reduceSub, Int.reduceMul, Int.reduceNeg, String.reduceEq, String.reduceBEq, List.lookup_cons, List.lookup_nil, Mi.big, Mi.putF, List.length_append, List.append_assoc, ite_true, ite_false, Bool.false_eq_true, and_self, not_true_eq_false, not_false_eq_true, Sum.inr.injEq, Sum.inl.injEq, Mi.look, Mi.put, List.any_cons, List.any_nil, Bool.or_true, Bool.or_false, Bool.true_or, Bool.false_or, List.find?_cons, Option.getD_some, Option.getD_none, Bool.bne_false, Bool.false_bne, Bool.true_bne, Bool.bne_true, Int.reduceEq, Int.reducePow, m_law_judge_root, b_law_judge_root, Mi.mSlice, Mi.mO, sR e, sR g0, m1, m2, hcut, Mi.lstOf, e2, e5, e6, e3, hr, c4, cP, gUnL, sR g2, sN g2, sS g2, sK g2, m3, m4, max2, c0, c1, f]
      · have d0 : r0 < s := by omega
        have d2 : r2 < s := by omega
        have d1 : r1 ≤ k := by omega
        by_cases c2 : 0 < mq
        · rw [decide_eq_true c2] at eq2
          have f : formOk s k r0 r1 r2 P Q = false := by
            unfold formOk
            have : (Q.all fun z => decide (z = 0)) = false := by simpa using eq2.symm
            rw [this]
            simp
          simp only [Mi.bnd, Mi.mVar, Mi.mC, Mi.mkL, Mi.m2, Mi.m1, Mi.uNeg, Mi.bAdd, Mi.bSub, Mi.bDiv, Mi.bMod, Mi.bPow, Mi.sEq, Mi.bEq, Mi.bCmp, Mi.bLt, Mi.bLe, Mi.bGt, Mi.bGe, Mi.isNon, Mi.mIsN, Mi.mChain, Mi.mAnd, Mi.mOr, Mi.mNot, Mi.mTb, Mi.mTand, Mi.mTor, Mi.mTnot, Mi.mIf, Mi.mNil, Mi.mCons, Mi.mTup, Mi.mLst, Mi.mB, Mi.kOf, Mi.mFld, Mi.mCall, Mi.mCallK, Mi.mMeth, Mi.mMethK, Mi.mDef, Mi.fInt, Mi.fMax, Mi.fMin, Mi.isI, Mi.mIsI, Ms.mIsC, Mi.gNm, Mi.gNil, Mi.gCons, Mi.gTup, Mi.mSeq, Mi.mSkip, Mi.mBrk, Mi.mCont, Mi.mAsg, Mi.mPar, Mi.mExpr, Mi.mRet, Mi.mRetN, Mi.mIfS, Mi.tYes, Mi.wipe, Ms.mDct0, Ms.bAddI, List.map_cons, List.map_nil, List.nil_append, List.cons_append, List.length_cons, List.length_nil, List.replicate_succ, List.replicate_zero, List.getElem?_cons_zero, List.getElem?_cons_succ, List.getElem?_nil, List.set_cons_zero, List.set_cons_succ, Option.map_some, Option.map_none, if_true, if_false, reduceIte, decide_true, decide_false, Nat.reduceAdd, Nat.reduceLeDiff, List.mem_cons, List.mem_singleton, true_or, or_true, true_and, and_true, bne_self_eq_false, Bool.not_true, Bool.not_false, reduceCtorEq, Nat.reduceEqDiff, beq_self_eq_true, Nat.reduceLT, Int.reduceLT, Int.reduceLE, Int.reduceToNat, Int.reduceAdd, Int.reduceSub, Int.reduceMul, Int.reduceNeg, String.reduceEq, String.reduceBEq, List.lookup_cons, List.lookup_nil, Mi.big, Mi.putF, List.length_append, List.append_assoc, ite_true, ite_false, Bool.false_eq_true, and_self, not_true_eq_false, not_false_eq_true, Sum.inr.injEq, Sum.inl.injEq, Mi.look, Mi.put, List.any_cons, List.any_nil, Bool.or_true, Bool.or_false, Bool.true_or, Bool.false_or, List.find?_cons, Option.getD_some, Option.getD_none, Bool.bne_false, Bool.false_bne, Bool.true_bne, Bool.bne_true, Int.reduceEq, Int.reducePow, m_law_judge_root, b_law_judge_root, Mi.mSlice, Mi.mO, sR e, sR g0, m1, m2, hcut, Mi.lstOf, e2, e5, e6, e3, hr, c4, cP, cQ, gUnL, sR g2, sN g2, sS g2, sK g2, m3, m4, max2, c0, c1, lQ, eq1, c2, f]
        · rw [decide_eq_false c2] at eq2
          have hQ : (Q.all fun z => decide (z = 0)) = true := by simpa using eq2.symm
          cases hA : P.all (okp s k) with
          | false =>
            have f : formOk s k r0 r1 r2 P Q = false := by
              unfold formOk
              rw [hA]
              simp
            rw [hA] at qn
            simp only [Mi.bnd, Mi.mVar, Mi.mC, Mi.mkL, Mi.m2, Mi.m1, Mi.uNeg, Mi.bAdd, Mi.bSub, Mi.bDiv, Mi.bMod, Mi.bPow, Mi.sEq, Mi.bEq, Mi.bCmp, Mi.bLt, Mi.bLe, Mi.bGt, Mi.bGe, Mi.isNon, Mi.mIsN, Mi.mChain, Mi.mAnd, Mi.mOr, Mi.mNot, Mi.mTb, Mi.mTand, Mi.mTor, Mi.mTnot, Mi.mIf, Mi.mNil, Mi.mCons, Mi.mTup, Mi.mLst, Mi.mB, Mi.kOf, Mi.mFld, Mi.mCall, Mi.mCallK, Mi.mMeth, Mi.mMethK, Mi.mDef, Mi.fInt, Mi.fMax, Mi.fMin, Mi.isI, Mi.mIsI, Ms.mIsC, Mi.gNm, Mi.gNil, Mi.gCons, Mi.gTup, Mi.mSeq, Mi.mSkip, Mi.mBrk, Mi.mCont, Mi.mAsg, Mi.mPar, Mi.mExpr, Mi.mRet, Mi.mRetN, Mi.mIfS, Mi.tYes, Mi.wipe, Ms.mDct0, Ms.bAddI, List.map_cons, List.map_nil, List.nil_append, List.cons_append, List.length_cons, List.length_nil, List.replicate_succ, List.replicate_zero, List.getElem?_cons_zero, List.getElem?_cons_succ, List.getElem?_nil, List.set_cons_zero, List.set_cons_succ, Option.map_some, Option.map_none, if_true, if_false, reduceIte, decide_true, decide_false, Nat.reduceAdd, Nat.reduceLeDiff, List.mem_cons, List.mem_singleton, true_or, or_true, true_and, and_true, bne_self_eq_false, Bool.not_true, Bool.not_false, reduceCtorEq, Nat.reduceEqDiff, beq_self_eq_true, Nat.reduceLT, Int.reduceLT, Int.reduceLE, Int.reduceToNat, Int.reduceAdd, Int.reduceSub, Int.reduceMul, Int.reduceNeg, String.reduceEq, String.reduceBEq, List.lookup_cons, List.lookup_nil, Mi.big, Mi.putF, List.length_append, List.append_assoc, ite_true, ite_false, Bool.false_eq_true, and_self, not_true_eq_false, not_false_eq_true, Sum.inr.injEq, Sum.inl.injEq, Mi.look, Mi.put, List.any_cons, List.any_nil, Bool.or_true, Bool.or_false, Bool.true_or, Bool.false_or, List.find?_cons, Option.getD_some, Option.getD_none, Bool.bne_false, Bool.false_bne, Bool.true_bne, Bool.bne_true, Int.reduceEq, Int.reducePow, m_law_judge_root, b_law_judge_root, Mi.mSlice, Mi.mO, sR e, sR g0, m1, m2, hcut, Mi.lstOf, e2, e5, e6, e3, hr, c4, cP, cQ, gUnL, sR g2, sN g2, sS g2, sK g2, m3, m4, max2, c0, c1, lQ, eq1, c2, f, eF, Mi.qEq, intsOf_map, Mi.intsOf, qn]
          | true =>
            have f : formOk s k r0 r1 r2 P Q = true := by
              unfold formOk
              rw [hA, hQ]
              simp [d0, d1, d2]
            rw [hA] at qn
            simp only [Mi.bnd, Mi.mVar, Mi.mC, Mi.mkL, Mi.m2, Mi.m1, Mi.uNeg, Mi.bAdd, Mi.bSub, Mi.bDiv, Mi.bMod, Mi.bPow, Mi.sEq, Mi.bEq, Mi.bCmp, Mi.bLt, Mi.bLe, Mi.bGt, Mi.bGe, Mi.isNon, Mi.mIsN, Mi.mChain, Mi.mAnd, Mi.mOr, Mi.mNot, Mi.mTb, Mi.mTand, Mi.mTor, Mi.mTnot, Mi.mIf, Mi.mNil, Mi.mCons, Mi.mTup, Mi.mLst, Mi.mB, Mi.kOf, Mi.mFld, Mi.mCall, Mi.mCallK, Mi.mMeth, Mi.mMethK, Mi.mDef, Mi.fInt, Mi.fMax, Mi.fMin, Mi.isI, Mi.mIsI, Ms.mIsC, Mi.gNm, Mi.gNil, Mi.gCons, Mi.gTup, Mi.mSeq, Mi.mSkip, Mi.mBrk, Mi.mCont, Mi.mAsg, Mi.mPar, Mi.mExpr, Mi.mRet, Mi.mRetN, Mi.mIfS, Mi.tYes, Mi.wipe, Ms.mDct0, Ms.bAddI, List.map_cons, List.map_nil, List.nil_append, List.cons_append, List.length_cons, List.length_nil, List.replicate_succ, List.replicate_zero, List.getElem?_cons_zero, List.getElem?_cons_succ, List.getElem?_nil, List.set_cons_zero, List.set_cons_succ, Option.map_some, Option.map_none, if_true, if_false, reduceIte, decide_true, decide_false, Nat.reduceAdd, Nat.reduceLeDiff, List.mem_cons, List.mem_singleton, true_or, or_true, true_and, and_true, bne_self_eq_false, Bool.not_true, Bool.not_false, reduceCtorEq, Nat.reduceEqDiff, beq_self_eq_true, Nat.reduceLT, Int.reduceLT, Int.reduceLE, Int.reduceToNat, Int.reduceAdd, Int.reduceSub, Int.reduceMul, Int.reduceNeg, String.reduceEq, String.reduceBEq, List.lookup_cons, List.lookup_nil, Mi.big, Mi.putF, List.length_append, List.append_assoc, ite_true, ite_false, Bool.false_eq_true, and_self, not_true_eq_false, not_false_eq_true, Sum.inr.injEq, Sum.inl.injEq, Mi.look, Mi.put, List.any_cons, List.any_nil, Bool.or_true, Bool.or_false, Bool.true_or, Bool.false_or, List.find?_cons, Option.getD_some, Option.getD_none, Bool.bne_false, Bool.false_bne, Bool.true_bne, Bool.bne_true, Int.reduceEq, Int.reducePow, m_law_judge_root, b_law_judge_root, Mi.mSlice, Mi.mO, sR e, sR g0, m1, m2, hcut, Mi.lstOf, e2, e5, e6, e3, hr, c4, cP, cQ, gUnL, sR g2, sN g2, sS g2, sK g2, m3, m4, max2, c0, c1, lQ, eq1, c2, f, eF, Mi.qEq, intsOf_map, Mi.intsOf, qn, eP, Mi.fTuple]
end
end Lw

namespace Lw
open Mi (Dv MO Sto Sl Rs bnd ME MT MA MS MF Fl MG MGs MI)
open Ms (mExtend mPar3 fMaxL mLc2 mLc2Loop gUnL)
def JV (x : Dv) (n : Int) : Prop := (∃ l, x = .tup (.str "root" :: .int n :: l) ∧ 0 < n) ∨ (((∃ j, x = .tup [.str "broken", .int j]) ∨ x = .tup [.str "form"]) ∧ n = 0)
theorem at_t0 (x : Dv) (xs : List Dv) (G : Sto) : Mi.bSubs (.tup (x :: xs)) (.int 0) G = some (x, G) := by
  have e : Mi.atI (x :: xs) 0 = some x := by
    unfold Mi.atI Mi.ixN
    rw [if_pos (by decide), if_pos (by rw [List.length_cons]; omega)]
    rfl
  simp [Mi.bSubs, Mi.bGet, Mi.bIx, Mi.lstOf, Mi.seqOf, e]
theorem at_t1 (x y : Dv) (xs : List Dv) (G : Sto) : Mi.bSubs (.tup (x :: y :: xs)) (.int 1) G = some (y, G) := by
  have e : Mi.atI (x :: y :: xs) 1 = some y := by
    unfold Mi.atI Mi.ixN
    rw [if_pos (by decide), if_pos (by simp only [List.length_cons]; omega)]
    rfl
  simp [Mi.bSubs, Mi.bGet, Mi.bIx, Mi.lstOf, Mi.seqOf, e]
theorem jv_J (s k n : Int) (bs : List (List Int)) (r0 r1 r2 r3 : Int) (P Q : List Int) (h : 0 ≤ n) (hb : bs ≠ []) : ∃ m, JV (J s k n bs r0 r1 r2 r3 P Q) m := by
  unfold J
  cases hq : fstBad n 0 bs with
  | some j => exact ⟨0, .inr ⟨.inl ⟨_, rfl⟩, rfl⟩⟩
  | none =>
    dsimp only
    split
    · refine ⟨n, .inl ⟨_, rfl, ?_⟩⟩
      cases bs with
      | nil => exact absurd rfl hb
      | cons b r =>
        unfold fstBad at hq
        by_cases hn : n = 0
        · have : bad n 0 b = true := by unfold bad; simp [hn]
          rw [if_pos this] at hq
          cases hq
        · omega
    · exact ⟨0, .inr ⟨.inr rfl, rfl⟩⟩
def newVal (n0 n1 : Int) : Dv := if n0 = 0 ∧ n1 = 0 then .non else if n1 ≤ n0 then .int 0 else .int 1
theorem newer_body (h hl : Nat) (a : Int) (x : Dv) (n : Int) (hx : JV x n) (G : Sto) (acc : List Dv) (t : Option Dv) (e : G[hl]? = some (.lst acc)) (hr : m_root_at [.ref h, .int a] G = some (x, G)) (hz : acc.length < 100) :
    qb_newer_1 [some (.ref h), some (.ref hl), some (.int a), t] G = some (.nx, [some (.ref h), some (.ref hl), some (.int a), some x], G.set hl (.lst (acc ++ [.int n]))) := by
  have hz' : acc.length < 16777216 := by omega
  rcases hx with ⟨l, rfl, _⟩ | ⟨⟨j, rfl⟩ | rfl, rfl⟩
  · simp only [Mi.bnd, Mi.mVar, Mi.mC, Mi.mkL, Mi.m2, Mi.m1, Mi.uNeg, Mi.bAdd, Mi.bSub, Mi.bDiv, Mi.bMod, Mi.bPow, Mi.sEq, Mi.bEq, Mi.bCmp, Mi.bLt, Mi.bLe, Mi.bGt, Mi.bGe, Mi.isNon, Mi.mIsN, Mi.mChain, Mi.mAnd, Mi.mOr, Mi.mNot, Mi.mTb, Mi.mTand, Mi.mTor, Mi.mTnot, Mi.mIf, Mi.mNil, Mi.mCons, Mi.mTup, Mi.mLst, Mi.mB, Mi.kOf, Mi.mFld, Mi.mCall, Mi.mCallK, Mi.mMeth, Mi.mMethK, Mi.mDef, Mi.fInt, Mi.fMax, Mi.fMin, Mi.isI, Mi.mIsI, Ms.mIsC, Mi.gNm, Mi.gNil, Mi.gCons, Mi.gTup, Mi.mSeq, Mi.mSkip, Mi.mBrk, Mi.mCont, Mi.mAsg, Mi.mPar, Mi.mExpr, Mi.mRet, Mi.mRetN, Mi.mIfS, Mi.tYes, Mi.wipe, Ms.mDct0, Ms.bAddI, List.map_cons, List.map_nil, List.nil_append, List.cons_append, List.length_cons, List.length_nil, List.replicate_succ, List.replicate_zero, List.getElem?_cons_zero, List.getElem?_cons_succ, List.getElem?_nil, List.set_cons_zero, List.set_cons_succ, Option.map_some, Option.map_none, if_true, if_false, reduceIte, decide_true, decide_false, Nat.reduceAdd, Nat.reduceLeDiff, List.mem_cons, List.mem_singleton, true_or, or_true, true_and, and_true, bne_self_eq_false, Bool.not_true, Bool.not_false, reduceCtorEq, Nat.reduceEqDiff, beq_self_eq_true, Nat.reduceLT, Int.reduceLT, Int.reduceLE, Int.reduceToNat, Int.reduceAdd, Int.reduceSub, Int.reduceMul, Int.reduceNeg, String.reduceEq, String.reduceBEq, List.lookup_cons, List.lookup_nil, Mi.big, Mi.putF, List.length_append, List.append_assoc, ite_true, ite_false, Bool.false_eq_true, and_self, not_true_eq_false, not_false_eq_true, Sum.inr.injEq, Sum.inl.injEq, Mi.look, Mi.put, List.any_cons, List.any_nil, Bool.or_true, Bool.or_false, Bool.true_or, Bool.false_or, List.find?_cons, Option.getD_some, Option.getD_none, Bool.bne_false, Bool.false_bne, Bool.true_bne, Bool.bne_true, Int.reduceEq, Int.reducePow, qb_newer_1, hr, Mi.mAppend, at_t0, at_t1, e, hz']
  · simp only [Mi.bnd, Mi.mVar, Mi.mC, Mi.mkL, Mi.m2, Mi.m1, Mi.uNeg, Mi.bAdd, Mi.bSub, Mi.bDiv, Mi.bMod, Mi.bPow, Mi.sEq, Mi.bEq, Mi.bCmp, Mi.bLt, Mi.bLe, Mi.bGt, Mi.bGe, Mi.isNon, Mi.mIsN, Mi.mChain, Mi.mAnd, Mi.mOr, Mi.mNot, Mi.mTb, Mi.mTand, Mi.mTor, Mi.mTnot, Mi.mIf, Mi.mNil, Mi.mCons, Mi.mTup, Mi.mLst, Mi.mB, Mi.kOf, Mi.mFld, Mi.mCall, Mi.mCallK, Mi.mMeth, Mi.mMethK, Mi.mDef, Mi.fInt, Mi.fMax, Mi.fMin, Mi.isI, Mi.mIsI, Ms.mIsC, Mi.gNm, Mi.gNil, Mi.gCons, Mi.gTup, Mi.mSeq, Mi.mSkip, Mi.mBrk, Mi.mCont, Mi.mAsg, Mi.mPar, Mi.mExpr, Mi.mRet, Mi.mRetN, Mi.mIfS, Mi.tYes, Mi.wipe, Ms.mDct0, Ms.bAddI, List.map_cons, List.map_nil, List.nil_append, List.cons_append, List.length_cons, List.length_nil, List.replicate_succ, List.replicate_zero, List.getElem?_cons_zero, List.getElem?_cons_succ, List.getElem?_nil, List.set_cons_zero, List.set_cons_succ, Option.map_some, Option.map_none, if_true, if_false, reduceIte, decide_true, decide_false, Nat.reduceAdd, Nat.reduceLeDiff, List.mem_cons, List.mem_singleton, true_or, or_true, true_and, and_true, bne_self_eq_false, Bool.not_true, Bool.not_false, reduceCtorEq, Nat.reduceEqDiff, beq_self_eq_true, Nat.reduceLT, Int.reduceLT, Int.reduceLE, Int.reduceToNat, Int.reduceAdd, Int.reduceSub, Int.reduceMul, Int.reduceNeg, String.reduceEq, String.reduceBEq, List.lookup_cons, List.lookup_nil, Mi.big, Mi.putF, List.length_append, List.append_assoc, ite_true, ite_false, Bool.false_eq_true, and_self, not_true_eq_false, not_false_eq_true, Sum.inr.injEq, Sum.inl.injEq, Mi.look, Mi.put, List.any_cons, List.any_nil, Bool.or_true, Bool.or_false, Bool.true_or, Bool.false_or, List.find?_cons, Option.getD_some, Option.getD_none, Bool.bne_false, Bool.false_bne, Bool.true_bne, Bool.bne_true, Int.reduceEq, Int.reducePow, qb_newer_1, hr, Mi.mAppend, at_t0, at_t1, e, hz']
  · simp only [Mi.bnd, Mi.mVar, Mi.mC, Mi.mkL, Mi.m2, Mi.m1, Mi.uNeg, Mi.bAdd, Mi.bSub, Mi.bDiv, Mi.bMod, Mi.bPow, Mi.sEq, Mi.bEq, Mi.bCmp, Mi.bLt, Mi.bLe, Mi.bGt, Mi.bGe, Mi.isNon, Mi.mIsN, Mi.mChain, Mi.mAnd, Mi.mOr, Mi.mNot, Mi.mTb, Mi.mTand, Mi.mTor, Mi.mTnot, Mi.mIf, Mi.mNil, Mi.mCons, Mi.mTup, Mi.mLst, Mi.mB, Mi.kOf, Mi.mFld, Mi.mCall, Mi.mCallK, Mi.mMeth, Mi.mMethK, Mi.mDef, Mi.fInt, Mi.fMax, Mi.fMin, Mi.isI, Mi.mIsI, Ms.mIsC, Mi.gNm, Mi.gNil, Mi.gCons, Mi.gTup, Mi.mSeq, Mi.mSkip, Mi.mBrk, Mi.mCont, Mi.mAsg, Mi.mPar, Mi.mExpr, Mi.mRet, Mi.mRetN, Mi.mIfS, Mi.tYes, Mi.wipe, Ms.mDct0, Ms.bAddI, List.map_cons, List.map_nil, List.nil_append, List.cons_append, List.length_cons, List.length_nil, List.replicate_succ, List.replicate_zero, List.getElem?_cons_zero, List.getElem?_cons_succ, List.getElem?_nil, List.set_cons_zero, List.set_cons_succ, Option.map_some, Option.map_none, if_true, if_false, reduceIte, decide_true, decide_false, Nat.reduceAdd, Nat.reduceLeDiff, List.mem_cons, List.mem_singleton, true_or, or_true, true_and, and_true, bne_self_eq_false, Bool.not_true, Bool.not_false, reduceCtorEq, Nat.reduceEqDiff, beq_self_eq_true, Nat.reduceLT, Int.reduceLT, Int.reduceLE, Int.reduceToNat, Int.reduceAdd, Int.reduceSub, Int.reduceMul, Int.reduceNeg, String.reduceEq, String.reduceBEq, List.lookup_cons, List.lookup_nil, Mi.big, Mi.putF, List.length_append, List.append_assoc, ite_true, ite_false, Bool.false_eq_true, and_self, not_true_eq_false, not_false_eq_true, Sum.inr.injEq, Sum.inl.injEq, Mi.look, Mi.put, List.any_cons, List.any_nil, Bool.or_true, Bool.or_false, Bool.true_or, Bool.false_or, List.find?_cons, Option.getD_some, Option.getD_none, Bool.bne_false, Bool.false_bne, Bool.true_bne, Bool.bne_true, Int.reduceEq, Int.reducePow, qb_newer_1, hr, Mi.mAppend, at_t0, at_t1, e, hz']
theorem JV.pos {x : Dv} {n : Int} (h : JV x n) : 0 ≤ n := by
  rcases h with ⟨l, _, q⟩ | ⟨_, q⟩ <;> omega
theorem newer_ok (h : Nat) (G : Sto) (x0 x1 : Dv) (n0 n1 : Int) (j0 : JV x0 n0) (j1 : JV x1 n1) (hr0 : ∀ G', Sm [] G G' → m_root_at [.ref h, .int 0] G' = some (x0, G')) (hr1 : ∀ G', Sm [] G G' → m_root_at [.ref h, .int 1] G' = some (x1, G')) :
    ∃ G', m_newer [.ref h] G = some (newVal n0 n1, G') ∧ Sm [] G G' := by
  have p0 := j0.pos
  have p1 := j1.pos
  have g1 : (G ++ [MO.lst []])[G.length]? = some (.lst []) := get0 _ _ _
  have s1 : Sm [] G (G ++ [MO.lst []]) := sm_app
  have s2 : Sm [] G ((G ++ [MO.lst []]).set G.length (.lst ([] ++ [.int n0]))) := ⟨by rw [List.length_set, List.length_append]; omega, fun i hi _ => by rw [List.getElem?_set_ne (by omega), List.getElem?_append_left hi]⟩
  have b0 := newer_body h G.length 0 x0 n0 j0 (G ++ [.lst []]) [] none g1 (hr0 _ s1) (by decide)
  have g2 := set_at (o' := .lst ([] ++ [.int n0])) g1
  have b1 := newer_body h G.length 1 x1 n1 j1 _ _ (some x0) g2 (hr1 _ s2) (by simp)
  have g3 := set_at (o' := .lst (([] ++ [.int n0]) ++ [.int n1])) g2
  have l2 : Mi.rng 0 2 = [.int 0, .int 1] := rfl
  have e1 : qf_newer_1 [some (.ref h), some (.ref G.length), none, none] (G ++ [.lst []]) = some (.nx, [some (.ref h), some (.ref G.length), some (.int 1), some x1], ((G ++ [MO.lst []]).set G.length (.lst ([] ++ [.int n0]))).set G.length (.lst (([] ++ [.int n0]) ++ [.int n1]))) := by
    unfold qf_newer_1 qi_newer_1 Mi.mFor
    have i1 : (-(2 ^ 62) ≤ (2 : Int) ∧ (2 : Int) < 2 ^ 62) := by decide
    simp only [Mi.iRange1, Mi.mC, bnd, if_pos i1, l2]
    rw [Mi.mLoop, if_pos trivial]
    simp only [Mi.gNm, List.set_cons_succ, List.set_cons_zero]
    rw [b0]
    dsimp only
    rw [Mi.mLoop, if_pos trivial]
    simp only [Mi.gNm, List.set_cons_succ, List.set_cons_zero]
    rw [b1]
    dsimp only
    rw [Mi.mLoop, if_pos trivial]
  have s3 : Sm [] G (((G ++ [MO.lst []]).set G.length (.lst ([] ++ [.int n0]))).set G.length (.lst (([] ++ [.int n0]) ++ [.int n1]))) := ⟨by rw [List.length_set, List.length_set, List.length_append]; omega, fun i hi _ => by rw [List.getElem?_set_ne (by omega), List.getElem?_set_ne (by omega), List.getElem?_append_left hi]⟩
  generalize ((G ++ [MO.lst []]).set G.length (.lst ([] ++ [.int n0]))).set G.length (.lst (([] ++ [.int n0]) ++ [.int n1])) = G3 at e1 g3 s3
  refine ⟨G3, ?_, s3⟩
  have g3' : G3[G.length]? = some (.lst [.int n0, .int n1]) := g3
  have mx : fMaxL [.ref G.length] G3 = some (.int (max n0 n1), G3) := by
    unfold fMaxL
    simp only [Mi.bnd, Mi.mVar, Mi.mC, Mi.mkL, Mi.m2, Mi.m1, Mi.uNeg, Mi.bAdd, Mi.bSub, Mi.bDiv, Mi.bMod, Mi.bPow, Mi.sEq, Mi.bEq, Mi.bCmp, Mi.bLt, Mi.bLe, Mi.bGt, Mi.bGe, Mi.isNon, Mi.mIsN, Mi.mChain, Mi.mAnd, Mi.mOr, Mi.mNot, Mi.mTb, Mi.mTand, Mi.mTor, Mi.mTnot, Mi.mIf, Mi.mNil, Mi.mCons, Mi.mTup, Mi.mLst, Mi.mB, Mi.kOf, Mi.mFld, Mi.mCall, Mi.mCallK, Mi.mMeth, Mi.mMethK, Mi.mDef, Mi.fInt, Mi.fMax, Mi.fMin, Mi.isI, Mi.mIsI, Ms.mIsC, Mi.gNm, Mi.gNil, Mi.gCons, Mi.gTup, Mi.mSeq, Mi.mSkip, Mi.mBrk, Mi.mCont, Mi.mAsg, Mi.mPar, Mi.mExpr, Mi.mRet, Mi.mRetN, Mi.mIfS, Mi.tYes, Mi.wipe, Ms.mDct0, Ms.bAddI, List.map_cons, List.map_nil, List.nil_append, List.cons_append, List.length_cons, List.length_nil, List.replicate_succ, List.replicate_zero, List.getElem?_cons_zero, List.getElem?_cons_succ, List.getElem?_nil, List.set_cons_zero, List.set_cons_succ, Option.map_some, Option.map_none, if_true, if_false, reduceIte, decide_true, decide_false, Nat.reduceAdd, Nat.reduceLeDiff, List.mem_cons, List.mem_singleton, true_or, or_true, true_and, and_true, bne_self_eq_false, Bool.not_true, Bool.not_false, reduceCtorEq, Nat.reduceEqDiff, beq_self_eq_true, Nat.reduceLT, Int.reduceLT, Int.reduceLE, Int.reduceToNat, Int.reduceAdd, Int.reduceSub, Int.reduceMul, Int.reduceNeg, String.reduceEq, String.reduceBEq, List.lookup_cons, List.lookup_nil, Mi.big, Mi.putF, List.length_append, List.append_assoc, ite_true, ite_false, Bool.false_eq_true, and_self, not_true_eq_false, not_false_eq_true, Sum.inr.injEq, Sum.inl.injEq, Mi.look, Mi.put, List.any_cons, List.any_nil, Bool.or_true, Bool.or_false, Bool.true_or, Bool.false_or, List.find?_cons, Option.getD_some, Option.getD_none, Bool.bne_false, Bool.false_bne, Bool.true_bne, Bool.bne_true, Int.reduceEq, Int.reducePow, Mi.lstOf, g3', Mi.intsOf, List.foldl_cons, List.foldl_nil]
  have a0 : Mi.bSubs (.ref G.length) (.int 0) G3 = some (.int n0, G3) := by simp [Mi.bSubs, Mi.bGet, Mi.bIx, Mi.lstOf, Mi.seqOf, g3', Mi.atI, Mi.ixN]
  have a1 : Mi.bSubs (.ref G.length) (.int 1) G3 = some (.int n1, G3) := by simp [Mi.bSubs, Mi.bGet, Mi.bIx, Mi.lstOf, Mi.seqOf, g3', Mi.atI, Mi.ixN]
  unfold newVal
  by_cases c : n0 = 0 ∧ n1 = 0
  · have c' : max n0 n1 = 0 := by omega
    rw [if_pos c]
    simp only [Mi.bnd, Mi.mVar, Mi.mC, Mi.mkL, Mi.m2, Mi.m1, Mi.uNeg, Mi.bAdd, Mi.bSub, Mi.bDiv, Mi.bMod, Mi.bPow, Mi.sEq, Mi.bEq, Mi.bCmp, Mi.bLt, Mi.bLe, Mi.bGt, Mi.bGe, Mi.isNon, Mi.mIsN, Mi.mChain, Mi.mAnd, Mi.mOr, Mi.mNot, Mi.mTb, Mi.mTand, Mi.mTor, Mi.mTnot, Mi.mIf, Mi.mNil, Mi.mCons, Mi.mTup, Mi.mLst, Mi.mB, Mi.kOf, Mi.mFld, Mi.mCall, Mi.mCallK, Mi.mMeth, Mi.mMethK, Mi.mDef, Mi.fInt, Mi.fMax, Mi.fMin, Mi.isI, Mi.mIsI, Ms.mIsC, Mi.gNm, Mi.gNil, Mi.gCons, Mi.gTup, Mi.mSeq, Mi.mSkip, Mi.mBrk, Mi.mCont, Mi.mAsg, Mi.mPar, Mi.mExpr, Mi.mRet, Mi.mRetN, Mi.mIfS, Mi.tYes, Mi.wipe, Ms.mDct0, Ms.bAddI, List.map_cons, List.map_nil, List.nil_append, List.cons_append, List.length_cons, List.length_nil, List.replicate_succ, List.replicate_zero, List.getElem?_cons_zero, List.getElem?_cons_succ, List.getElem?_nil, List.set_cons_zero, List.set_cons_succ, Option.map_some, Option.map_none, if_true, if_false, reduceIte, decide_true, decide_false, Nat.reduceAdd, Nat.reduceLeDiff, List.mem_cons, List.mem_singleton, true_or, or_true, true_and, and_true, bne_self_eq_false, Bool.not_true, Bool.not_false, reduceCtorEq, Nat.reduceEqDiff, beq_self_eq_true, Nat.reduceLT, Int.reduceLT, Int.reduceLE, Int.reduceToNat, Int.reduceAdd, Int.reduceSub, Int.reduceMul, Int.reduceNeg, String.reduceEq, String.reduceBEq, List.lookup_cons, List.lookup_nil, Mi.big, Mi.putF, List.length_append, List.append_assoc, ite_true, ite_false, Bool.false_eq_true, and_self, not_true_eq_false, not_false_eq_true, Sum.inr.injEq, Sum.inl.injEq, Mi.look, Mi.put, List.any_cons, List.any_nil, Bool.or_true, Bool.or_false, Bool.true_or, Bool.false_or, List.find?_cons, Option.getD_some, Option.getD_none, Bool.bne_false, Bool.false_bne, Bool.true_bne, Bool.bne_true, Int.reduceEq, Int.reducePow, m_newer, b_newer, e1, mx, c']
  · have c' : ¬ max n0 n1 = 0 := by omega
    rw [if_neg c]
    by_cases c2 : n1 ≤ n0
    · simp only [Mi.bnd, Mi.mVar, Mi.mC, Mi.mkL, Mi.m2, Mi.m1, Mi.uNeg, Mi.bAdd, Mi.bSub, Mi.bDiv, Mi.bMod, Mi.bPow, Mi.sEq, Mi.bEq, Mi.bCmp, Mi.bLt, Mi.bLe, Mi.bGt, Mi.bGe, Mi.isNon, Mi.mIsN, Mi.mChain, Mi.mAnd, Mi.mOr, Mi.mNot, Mi.mTb, Mi.mTand, Mi.mTor, Mi.mTnot, Mi.mIf, Mi.mNil, Mi.mCons, Mi.mTup, Mi.mLst, Mi.mB, Mi.kOf, Mi.mFld, Mi.mCall, Mi.mCallK, Mi.mMeth, Mi.mMethK, Mi.mDef, Mi.fInt, Mi.fMax, Mi.fMin, Mi.isI, Mi.mIsI, Ms.mIsC, Mi.gNm, Mi.gNil, Mi.gCons, Mi.gTup, Mi.mSeq, Mi.mSkip, Mi.mBrk, Mi.mCont, Mi.mAsg, Mi.mPar, Mi.mExpr, Mi.mRet, Mi.mRetN, Mi.mIfS, Mi.tYes, Mi.wipe, Ms.mDct0, Ms.bAddI, List.map_cons, List.map_nil, List.nil_append, List.cons_append, List.length_cons, List.length_nil, List.replicate_succ, List.replicate_zero, List.getElem?_cons_zero, List.getElem?_cons_succ, List.getElem?_nil, List.set_cons_zero, List.set_cons_succ, Option.map_some, Option.map_none, if_true, if_false, reduceIte, decide_true, decide_false, Nat.reduceAdd, Nat.reduceLeDiff, List.mem_cons, List.mem_singleton, true_or, or_true, true_and, and_true, bne_self_eq_false, Bool.not_true, Bool.not_false, reduceCtorEq, Nat.reduceEqDiff, beq_self_eq_true, Nat.reduceLT, Int.reduceLT, Int.reduceLE, Int.reduceToNat, Int.reduceAdd, Int.reduceSub, Int.reduceMul, Int.reduceNeg, String.reduceEq, String.reduceBEq, List.lookup_cons, List.lookup_nil, Mi.big, Mi.putF, List.length_append, List.append_assoc, ite_true, ite_false, Bool.false_eq_true, and_self, not_true_eq_false, not_false_eq_true, Sum.inr.injEq, Sum.inl.injEq, Mi.look, Mi.put, List.any_cons, List.any_nil, Bool.or_true, Bool.or_false, Bool.true_or, Bool.false_or, List.find?_cons, Option.getD_some, Option.getD_none, Bool.bne_false, Bool.false_bne, Bool.true_bne, Bool.bne_true, Int.reduceEq, Int.reducePow, m_newer, b_newer, e1, mx, c', a0, a1, c2]
    · simp only [Mi.bnd, Mi.mVar, Mi.mC, Mi.mkL, Mi.m2, Mi.m1, Mi.uNeg, Mi.bAdd, Mi.bSub, Mi.bDiv, Mi.bMod, Mi.bPow, Mi.sEq, Mi.bEq, Mi.bCmp, Mi.bLt, Mi.bLe, Mi.bGt, Mi.bGe, Mi.isNon, Mi.mIsN, Mi.mChain, Mi.mAnd, Mi.mOr, Mi.mNot, Mi.mTb, Mi.mTand, Mi.mTor, Mi.mTnot, Mi.mIf, Mi.mNil, Mi.mCons, Mi.mTup, Mi.mLst, Mi.mB, Mi.kOf, Mi.mFld, Mi.mCall, Mi.mCallK, Mi.mMeth, Mi.mMethK, Mi.mDef, Mi.fInt, Mi.fMax, Mi.fMin, Mi.isI, Mi.mIsI, Ms.mIsC, Mi.gNm, Mi.gNil, Mi.gCons, Mi.gTup, Mi.mSeq, Mi.mSkip, Mi.mBrk, Mi.mCont, Mi.mAsg, Mi.mPar, Mi.mExpr, Mi.mRet, Mi.mRetN, Mi.mIfS, Mi.tYes, Mi.wipe, Ms.mDct0, Ms.bAddI, List.map_cons, List.map_nil, List.nil_append, List.cons_append, List.length_cons, List.length_nil, List.replicate_succ, List.replicate_zero, List.getElem?_cons_zero, List.getElem?_cons_succ, List.getElem?_nil, List.set_cons_zero, List.set_cons_succ, Option.map_some, Option.map_none, if_true, if_false, reduceIte, decide_true, decide_false, Nat.reduceAdd, Nat.reduceLeDiff, List.mem_cons, List.mem_singleton, true_or, or_true, true_and, and_true, bne_self_eq_false, Bool.not_true, Bool.not_false, reduceCtorEq, Nat.reduceEqDiff, beq_self_eq_true, Nat.reduceLT, Int.reduceLT, Int.reduceLE, Int.reduceToNat, Int.reduceAdd, Int.reduceSub, Int.reduceMul, Int.reduceNeg, String.reduceEq, String.reduceBEq, List.lookup_cons, List.lookup_nil, Mi.big, Mi.putF, List.length_append, List.append_assoc, ite_true, ite_false, Bool.false_eq_true, and_self, not_true_eq_false, not_false_eq_true, Sum.inr.injEq, Sum.inl.injEq, Mi.look, Mi.put, List.any_cons, List.any_nil, Bool.or_true, Bool.or_false, Bool.true_or, Bool.false_or, List.find?_cons, Option.getD_some, Option.getD_none, Bool.bne_false, Bool.false_bne, Bool.true_bne, Bool.bne_true, Int.reduceEq, Int.reducePow, m_newer, b_newer, e1, mx, c', a0, a1, c2]
theorem law_newer_ok (hi hs : Nat) (G : Sto) (x0 x1 : Dv) (n0 n1 : Int) (j0 : JV x0 n0) (j1 : JV x1 n1) (hr0 : ∀ G', Sm [] G G' → ∃ G'', m_law_judge_root [.ref hi, .ref hs, .int 0] G' = some (x0, G'') ∧ Sm [] G' G'') (hr1 : ∀ G', Sm [] G G' → ∃ G'', m_law_judge_root [.ref hi, .ref hs, .int 1] G' = some (x1, G'') ∧ Sm [] G' G'') :
    ∃ G', m_law_newer [.ref hi, .ref hs] G = some (newVal n0 n1, G') ∧ Sm [] G G' := by
  have p0 := j0.pos
  have p1 := j1.pos
  obtain ⟨G1, e0, s0⟩ := hr0 G Sm.refl
  obtain ⟨G2, e1, s1⟩ := hr1 G1 s0
  have b0 : ∀ t, ∃ f, qb_law_newer_1 [some (.ref hi), some (.ref hs), some .non, some (.int 0), t] G = some (.nx, [some (.ref hi), some (.ref hs), some f, some (.int 0), some x0], G1) ∧ (n0 = 0 ∧ f = .non ∨ 0 < n0 ∧ f = .tup [.int n0, .int 0]) := fun t => by
    rcases j0 with ⟨l, rfl, q⟩ | ⟨⟨j, rfl⟩ | rfl, rfl⟩
    · exact ⟨_, by simp only [Mi.bnd, Mi.mVar, Mi.mC, Mi.mkL, Mi.m2, Mi.m1, Mi.uNeg, Mi.bAdd, Mi.bSub, Mi.bDiv, Mi.bMod, Mi.bPow, Mi.sEq, Mi.bEq, Mi.bCmp, Mi.bLt, Mi.bLe, Mi.bGt, Mi.bGe, Mi.isNon, Mi.mIsN, Mi.mChain, Mi.mAnd, Mi.mOr, Mi.mNot, Mi.mTb, Mi.mTand, Mi.mTor, Mi.mTnot, Mi.mIf, Mi.mNil, Mi.mCons, Mi.mTup, Mi.mLst, Mi.mB, Mi.kOf, Mi.mFld, Mi.mCall, Mi.mCallK, Mi.mMeth, Mi.mMethK, Mi.mDef, Mi.fInt, Mi.fMax, Mi.fMin, Mi.isI, Mi.mIsI, Ms.mIsC, Mi.gNm, Mi.gNil, Mi.gCons, Mi.gTup, Mi.mSeq, Mi.mSkip, Mi.mBrk, Mi.mCont, Mi.mAsg, Mi.mPar, Mi.mExpr, Mi.mRet, Mi.mRetN, Mi.mIfS, Mi.tYes, Mi.wipe, Ms.mDct0, Ms.bAddI, List.map_cons, List.map_nil, List.nil_append, List.cons_append, List.length_cons, List.length_nil, List.replicate_succ, List.replicate_zero, List.getElem?_cons_zero, List.getElem?_cons_succ, List.getElem?_nil, List.set_cons_zero, List.set_cons_succ, Option.map_some, Option.map_none, if_true, if_false, reduceIte, decide_true, decide_false, Nat.reduceAdd, Nat.reduceLeDiff, List.mem_cons, List.mem_singleton, true_or, or_true, true_and, and_true, bne_self_eq_false, Bool.not_true, Bool.not_false, reduceCtorEq, Nat.reduceEqDiff, beq_self_eq_true, Nat.reduceLT, Int.reduceLT, Int.reduceLE, Int.reduceToNat, Int.reduceAdd, Int.reduceSub, Int.reduceMul, Int.reduceNeg, String.reduceEq, String.reduceBEq, List.lookup_cons, List.lookup_nil, Mi.big, Mi.putF, List.length_append, List.append_assoc, ite_true, ite_false, Bool.false_eq_true, and_self, not_true_eq_false, not_false_eq_true, Sum.inr.injEq, Sum.inl.injEq, Mi.look, Mi.put, List.any_cons, List.any_nil, Bool.or_true, Bool.or_false, Bool.true_or, Bool.false_or, List.find?_cons, Option.getD_some, Option.getD_none, Bool.bne_false, Bool.false_bne, Bool.true_bne, Bool.bne_true, Int.reduceEq, Int.reducePow, qb_law_newer_1, e0, at_t0, at_t1], .inr ⟨q, rfl⟩⟩
    · exact ⟨_, by simp only [Mi.bnd, Mi.mVar, Mi.mC, Mi.mkL, Mi.m2, Mi.m1, Mi.uNeg, Mi.bAdd, Mi.bSub, Mi.bDiv, Mi.bMod, Mi.bPow, Mi.sEq, Mi.bEq, Mi.bCmp, Mi.bLt, Mi.bLe, Mi.bGt, Mi.bGe, Mi.isNon, Mi.mIsN, Mi.mChain, Mi.mAnd, Mi.mOr, Mi.mNot, Mi.mTb, Mi.mTand, Mi.mTor, Mi.mTnot, Mi.mIf, Mi.mNil, Mi.mCons, Mi.mTup, Mi.mLst, Mi.mB, Mi.kOf, Mi.mFld, Mi.mCall, Mi.mCallK, Mi.mMeth, Mi.mMethK, Mi.mDef, Mi.fInt, Mi.fMax, Mi.fMin, Mi.isI, Mi.mIsI, Ms.mIsC, Mi.gNm, Mi.gNil, Mi.gCons, Mi.gTup, Mi.mSeq, Mi.mSkip, Mi.mBrk, Mi.mCont, Mi.mAsg, Mi.mPar, Mi.mExpr, Mi.mRet, Mi.mRetN, Mi.mIfS, Mi.tYes, Mi.wipe, Ms.mDct0, Ms.bAddI, List.map_cons, List.map_nil, List.nil_append, List.cons_append, List.length_cons, List.length_nil, List.replicate_succ, List.replicate_zero, List.getElem?_cons_zero, List.getElem?_cons_succ, List.getElem?_nil, List.set_cons_zero, List.set_cons_succ, Option.map_some, Option.map_none, if_true, if_false, reduceIte, decide_true, decide_false, Nat.reduceAdd, Nat.reduceLeDiff, List.mem_cons, List.mem_singleton, true_or, or_true, true_and, and_true, bne_self_eq_false, Bool.not_true, Bool.not_false, reduceCtorEq, Nat.reduceEqDiff, beq_self_eq_true, Nat.reduceLT, Int.reduceLT, Int.reduceLE, Int.reduceToNat, Int.reduceAdd, Int.reduceSub, Int.reduceMul, Int.reduceNeg, String.reduceEq, String.reduceBEq, List.lookup_cons, List.lookup_nil, Mi.big, Mi.putF, List.length_append, List.append_assoc, ite_true, ite_false, Bool.false_eq_true, and_self, not_true_eq_false, not_false_eq_true, Sum.inr.injEq, Sum.inl.injEq, Mi.look, Mi.put, List.any_cons, List.any_nil, Bool.or_true, Bool.or_false, Bool.true_or, Bool.false_or, List.find?_cons, Option.getD_some, Option.getD_none, Bool.bne_false, Bool.false_bne, Bool.true_bne, Bool.bne_true, Int.reduceEq, Int.reducePow, qb_law_newer_1, e0, at_t0, at_t1], .inl ⟨rfl, rfl⟩⟩
    · exact ⟨_, by simp only [Mi.bnd, Mi.mVar, Mi.mC, Mi.mkL, Mi.m2, Mi.m1, Mi.uNeg, Mi.bAdd, Mi.bSub, Mi.bDiv, Mi.bMod, Mi.bPow, Mi.sEq, Mi.bEq, Mi.bCmp, Mi.bLt, Mi.bLe, Mi.bGt, Mi.bGe, Mi.isNon, Mi.mIsN, Mi.mChain, Mi.mAnd, Mi.mOr, Mi.mNot, Mi.mTb, Mi.mTand, Mi.mTor, Mi.mTnot, Mi.mIf, Mi.mNil, Mi.mCons, Mi.mTup, Mi.mLst, Mi.mB, Mi.kOf, Mi.mFld, Mi.mCall, Mi.mCallK, Mi.mMeth, Mi.mMethK, Mi.mDef, Mi.fInt, Mi.fMax, Mi.fMin, Mi.isI, Mi.mIsI, Ms.mIsC, Mi.gNm, Mi.gNil, Mi.gCons, Mi.gTup, Mi.mSeq, Mi.mSkip, Mi.mBrk, Mi.mCont, Mi.mAsg, Mi.mPar, Mi.mExpr, Mi.mRet, Mi.mRetN, Mi.mIfS, Mi.tYes, Mi.wipe, Ms.mDct0, Ms.bAddI, List.map_cons, List.map_nil, List.nil_append, List.cons_append, List.length_cons, List.length_nil, List.replicate_succ, List.replicate_zero, List.getElem?_cons_zero, List.getElem?_cons_succ, List.getElem?_nil, List.set_cons_zero, List.set_cons_succ, Option.map_some, Option.map_none, if_true, if_false, reduceIte, decide_true, decide_false, Nat.reduceAdd, Nat.reduceLeDiff, List.mem_cons, List.mem_singleton, true_or, or_true, true_and, and_true, bne_self_eq_false, Bool.not_true, Bool.not_false, reduceCtorEq, Nat.reduceEqDiff, beq_self_eq_true, Nat.reduceLT, Int.reduceLT, Int.reduceLE, Int.reduceToNat, Int.reduceAdd, Int.reduceSub, Int.reduceMul, Int.reduceNeg, String.reduceEq, String.reduceBEq, List.lookup_cons, List.lookup_nil, Mi.big, Mi.putF, List.length_append, List.append_assoc, ite_true, ite_false, Bool.false_eq_true, and_self, not_true_eq_false, not_false_eq_true, Sum.inr.injEq, Sum.inl.injEq, Mi.look, Mi.put, List.any_cons, List.any_nil, Bool.or_true, Bool.or_false, Bool.true_or, Bool.false_or, List.find?_cons, Option.getD_some, Option.getD_none, Bool.bne_false, Bool.false_bne, Bool.true_bne, Bool.bne_true, Int.reduceEq, Int.reducePow, qb_law_newer_1, e0, at_t0, at_t1], .inl ⟨rfl, rfl⟩⟩
  obtain ⟨f, b0, hf⟩ := b0 none
  have b1 : ∃ f', qb_law_newer_1 [some (.ref hi), some (.ref hs), some f, some (.int 1), some x0] G1 = some (.nx, [some (.ref hi), some (.ref hs), some f', some (.int 1), some x1], G2) ∧ ((newVal n0 n1 = .non ∧ f' = .non) ∨ ∃ v, f' = .tup [v, newVal n0 n1]) := by
    unfold newVal
    rcases j1 with ⟨l, rfl, q⟩ | ⟨⟨j, rfl⟩ | rfl, rfl⟩
    · rcases hf with ⟨q0, rfl⟩ | ⟨q0, rfl⟩
      · exact ⟨.tup [.int n1, .int 1], by simp only [Mi.bnd, Mi.mVar, Mi.mC, Mi.mkL, Mi.m2, Mi.m1, Mi.uNeg, Mi.bAdd, Mi.bSub, Mi.bDiv, Mi.bMod, Mi.bPow, Mi.sEq, Mi.bEq, Mi.bCmp, Mi.bLt, Mi.bLe, Mi.bGt, Mi.bGe, Mi.isNon, Mi.mIsN, Mi.mChain, Mi.mAnd, Mi.mOr, Mi.mNot, Mi.mTb, Mi.mTand, Mi.mTor, Mi.mTnot, Mi.mIf, Mi.mNil, Mi.mCons, Mi.mTup, Mi.mLst, Mi.mB, Mi.kOf, Mi.mFld, Mi.mCall, Mi.mCallK, Mi.mMeth, Mi.mMethK, Mi.mDef, Mi.fInt, Mi.fMax, Mi.fMin, Mi.isI, Mi.mIsI, Ms.mIsC, Mi.gNm, Mi.gNil, Mi.gCons, Mi.gTup, Mi.mSeq, Mi.mSkip, Mi.mBrk, Mi.mCont, Mi.mAsg, Mi.mPar, Mi.mExpr, Mi.mRet, Mi.mRetN, Mi.mIfS, Mi.tYes, Mi.wipe, Ms.mDct0, Ms.bAddI, List.map_cons, List.map_nil, List.nil_append, List.cons_append, List.length_cons, List.length_nil, List.replicate_succ, List.replicate_zero, List.getElem?_cons_zero, List.getElem?_cons_succ, List.getElem?_nil, List.set_cons_zero, List.set_cons_succ, Option.map_some, Option.map_none, if_true, if_false, reduceIte, decide_true, decide_false, Nat.reduceAdd, Nat.reduceLeDiff, List.mem_cons, List.mem_singleton, true_or, or_true, true_and, and_true, bne_self_eq_false, Bool.not_true, Bool.not_false, reduceCtorEq, Nat.reduceEqDiff, beq_self_eq_true, Nat.reduceLT, Int.reduceLT, Int.reduceLE, Int.reduceToNat, Int.reduceAdd, Int.reduceSub, Int.reduceMul, Int.reduceNeg, String.reduceEq, String.reduceBEq, List.lookup_cons, List.lookup_nil, Mi.big, Mi.putF, List.length_append, List.append_assoc, ite_true, ite_false, Bool.false_eq_true, and_self, not_true_eq_false, not_false_eq_true, Sum.inr.injEq, Sum.inl.injEq, Mi.look, Mi.put, List.any_cons, List.any_nil, Bool.or_true, Bool.or_false, Bool.true_or, Bool.false_or, List.find?_cons, Option.getD_some, Option.getD_none, Bool.bne_false, Bool.false_bne, Bool.true_bne, Bool.bne_true, Int.reduceEq, Int.reducePow, qb_law_newer_1, e1, at_t0, at_t1], .inr ⟨_, by rw [if_neg (by omega), if_neg (by omega)]⟩⟩
      · by_cases c : n0 < n1
        · exact ⟨.tup [.int n1, .int 1], by simp only [Mi.bnd, Mi.mVar, Mi.mC, Mi.mkL, Mi.m2, Mi.m1, Mi.uNeg, Mi.bAdd, Mi.bSub, Mi.bDiv, Mi.bMod, Mi.bPow, Mi.sEq, Mi.bEq, Mi.bCmp, Mi.bLt, Mi.bLe, Mi.bGt, Mi.bGe, Mi.isNon, Mi.mIsN, Mi.mChain, Mi.mAnd, Mi.mOr, Mi.mNot, Mi.mTb, Mi.mTand, Mi.mTor, Mi.mTnot, Mi.mIf, Mi.mNil, Mi.mCons, Mi.mTup, Mi.mLst, Mi.mB, Mi.kOf, Mi.mFld, Mi.mCall, Mi.mCallK, Mi.mMeth, Mi.mMethK, Mi.mDef, Mi.fInt, Mi.fMax, Mi.fMin, Mi.isI, Mi.mIsI, Ms.mIsC, Mi.gNm, Mi.gNil, Mi.gCons, Mi.gTup, Mi.mSeq, Mi.mSkip, Mi.mBrk, Mi.mCont, Mi.mAsg, Mi.mPar, Mi.mExpr, Mi.mRet, Mi.mRetN, Mi.mIfS, Mi.tYes, Mi.wipe, Ms.mDct0, Ms.bAddI, List.map_cons, List.map_nil, List.nil_append, List.cons_append, List.length_cons, List.length_nil, List.replicate_succ, List.replicate_zero, List.getElem?_cons_zero, List.getElem?_cons_succ, List.getElem?_nil, List.set_cons_zero, List.set_cons_succ, Option.map_some, Option.map_none, if_true, if_false, reduceIte, decide_true, decide_false, Nat.reduceAdd, Nat.reduceLeDiff, List.mem_cons, List.mem_singleton, true_or, or_true, true_and, and_true, bne_self_eq_false, Bool.not_true, Bool.not_false, reduceCtorEq, Nat.reduceEqDiff, beq_self_eq_true, Nat.reduceLT, Int.reduceLT, Int.reduceLE, Int.reduceToNat, Int.reduceAdd, Int.reduceSub, Int.reduceMul, Int.reduceNeg, String.reduceEq, String.reduceBEq, List.lookup_cons, List.lookup_nil, Mi.big, Mi.putF, List.length_append, List.append_assoc, ite_true, ite_false, Bool.false_eq_true, and_self, not_true_eq_false, not_false_eq_true, Sum.inr.injEq, Sum.inl.injEq, Mi.look, Mi.put, List.any_cons, List.any_nil, Bool.or_true, Bool.or_false, Bool.true_or, Bool.false_or, List.find?_cons, Option.getD_some, Option.getD_none, Bool.bne_false, Bool.false_bne, Bool.true_bne, Bool.bne_true, Int.reduceEq, Int.reducePow, qb_law_newer_1, e1, at_t0, at_t1, c], .inr ⟨_, by rw [if_neg (by omega), if_neg (by omega)]⟩⟩
        · exact ⟨.tup [.int n0, .int 0], by simp only [Mi.bnd, Mi.mVar, Mi.mC, Mi.mkL, Mi.m2, Mi.m1, Mi.uNeg, Mi.bAdd, Mi.bSub, Mi.bDiv, Mi.bMod, Mi.bPow, Mi.sEq, Mi.bEq, Mi.bCmp, Mi.bLt, Mi.bLe, Mi.bGt, Mi.bGe, Mi.isNon, Mi.mIsN, Mi.mChain, Mi.mAnd, Mi.mOr, Mi.mNot, Mi.mTb, Mi.mTand, Mi.mTor, Mi.mTnot, Mi.mIf, Mi.mNil, Mi.mCons, Mi.mTup, Mi.mLst, Mi.mB, Mi.kOf, Mi.mFld, Mi.mCall, Mi.mCallK, Mi.mMeth, Mi.mMethK, Mi.mDef, Mi.fInt, Mi.fMax, Mi.fMin, Mi.isI, Mi.mIsI, Ms.mIsC, Mi.gNm, Mi.gNil, Mi.gCons, Mi.gTup, Mi.mSeq, Mi.mSkip, Mi.mBrk, Mi.mCont, Mi.mAsg, Mi.mPar, Mi.mExpr, Mi.mRet, Mi.mRetN, Mi.mIfS, Mi.tYes, Mi.wipe, Ms.mDct0, Ms.bAddI, List.map_cons, List.map_nil, List.nil_append, List.cons_append, List.length_cons, List.length_nil, List.replicate_succ, List.replicate_zero, List.getElem?_cons_zero, List.getElem?_cons_succ, List.getElem?_nil, List.set_cons_zero, List.set_cons_succ, Option.map_some, Option.map_none, if_true, if_false, reduceIte, decide_true, decide_false, Nat.reduceAdd, Nat.reduceLeDiff, List.mem_cons, List.mem_singleton, true_or, or_true, true_and, and_true, bne_self_eq_false, Bool.not_true, Bool.not_false, reduceCtorEq, Nat.reduceEqDiff, beq_self_eq_true, Nat.reduceLT, Int.reduceLT, Int.reduceLE, Int.reduceToNat, Int.reduceAdd, Int.reduceSub, Int.reduceMul, Int.reduceNeg, String.reduceEq, String.reduceBEq, List.lookup_cons, List.lookup_nil, Mi.big, Mi.putF, List.length_append, List.append_assoc, ite_true, ite_false, Bool.false_eq_true, and_self, not_true_eq_false, not_false_eq_true, Sum.inr.injEq, Sum.inl.injEq, Mi.look, Mi.put, List.any_cons, List.any_nil, Bool.or_true, Bool.or_false, Bool.true_or, Bool.false_or, List.find?_cons, Option.getD_some, Option.getD_none, Bool.bne_false, Bool.false_bne, Bool.true_bne, Bool.bne_true, Int.reduceEq, Int.reducePow, qb_law_newer_1, e1, at_t0, at_t1, c], .inr ⟨_, by rw [if_neg (by omega), if_pos (by omega)]⟩⟩
    · rcases hf with ⟨q0, rfl⟩ | ⟨q0, rfl⟩
      · exact ⟨.non, by simp only [Mi.bnd, Mi.mVar, Mi.mC, Mi.mkL, Mi.m2, Mi.m1, Mi.uNeg, Mi.bAdd, Mi.bSub, Mi.bDiv, Mi.bMod, Mi.bPow, Mi.sEq, Mi.bEq, Mi.bCmp, Mi.bLt, Mi.bLe, Mi.bGt, Mi.bGe, Mi.isNon, Mi.mIsN, Mi.mChain, Mi.mAnd, Mi.mOr, Mi.mNot, Mi.mTb, Mi.mTand, Mi.mTor, Mi.mTnot, Mi.mIf, Mi.mNil, Mi.mCons, Mi.mTup, Mi.mLst, Mi.mB, Mi.kOf, Mi.mFld, Mi.mCall, Mi.mCallK, Mi.mMeth, Mi.mMethK, Mi.mDef, Mi.fInt, Mi.fMax, Mi.fMin, Mi.isI, Mi.mIsI, Ms.mIsC, Mi.gNm, Mi.gNil, Mi.gCons, Mi.gTup, Mi.mSeq, Mi.mSkip, Mi.mBrk, Mi.mCont, Mi.mAsg, Mi.mPar, Mi.mExpr, Mi.mRet, Mi.mRetN, Mi.mIfS, Mi.tYes, Mi.wipe, Ms.mDct0, Ms.bAddI, List.map_cons, List.map_nil, List.nil_append, List.cons_append, List.length_cons, List.length_nil, List.replicate_succ, List.replicate_zero, List.getElem?_cons_zero, List.getElem?_cons_succ, List.getElem?_nil, List.set_cons_zero, List.set_cons_succ, Option.map_some, Option.map_none, if_true, if_false, reduceIte, decide_true, decide_false, Nat.reduceAdd, Nat.reduceLeDiff, List.mem_cons, List.mem_singleton, true_or, or_true, true_and, and_true, bne_self_eq_false, Bool.not_true, Bool.not_false, reduceCtorEq, Nat.reduceEqDiff, beq_self_eq_true, Nat.reduceLT, Int.reduceLT, Int.reduceLE, Int.reduceToNat, Int.reduceAdd, Int.reduceSub, Int.reduceMul, Int.reduceNeg, String.reduceEq, String.reduceBEq, List.lookup_cons, List.lookup_nil, Mi.big, Mi.putF, List.length_append, List.append_assoc, ite_true, ite_false, Bool.false_eq_true, and_self, not_true_eq_false, not_false_eq_true, Sum.inr.injEq, Sum.inl.injEq, Mi.look, Mi.put, List.any_cons, List.any_nil, Bool.or_true, Bool.or_false, Bool.true_or, Bool.false_or, List.find?_cons, Option.getD_some, Option.getD_none, Bool.bne_false, Bool.false_bne, Bool.true_bne, Bool.bne_true, Int.reduceEq, Int.reducePow, qb_law_newer_1, e1, at_t0, at_t1], .inl ⟨by rw [if_pos ⟨q0, rfl⟩], rfl⟩⟩
      · exact ⟨.tup [.int n0, .int 0], by simp only [Mi.bnd, Mi.mVar, Mi.mC, Mi.mkL, Mi.m2, Mi.m1, Mi.uNeg, Mi.bAdd, Mi.bSub, Mi.bDiv, Mi.bMod, Mi.bPow, Mi.sEq, Mi.bEq, Mi.bCmp, Mi.bLt, Mi.bLe, Mi.bGt, Mi.bGe, Mi.isNon, Mi.mIsN, Mi.mChain, Mi.mAnd, Mi.mOr, Mi.mNot, Mi.mTb, Mi.mTand, Mi.mTor, Mi.mTnot, Mi.mIf, Mi.mNil, Mi.mCons, Mi.mTup, Mi.mLst, Mi.mB, Mi.kOf, Mi.mFld, Mi.mCall, Mi.mCallK, Mi.mMeth, Mi.mMethK, Mi.mDef, Mi.fInt, Mi.fMax, Mi.fMin, Mi.isI, Mi.mIsI, Ms.mIsC, Mi.gNm, Mi.gNil, Mi.gCons, Mi.gTup, Mi.mSeq, Mi.mSkip, Mi.mBrk, Mi.mCont, Mi.mAsg, Mi.mPar, Mi.mExpr, Mi.mRet, Mi.mRetN, Mi.mIfS, Mi.tYes, Mi.wipe, Ms.mDct0, Ms.bAddI, List.map_cons, List.map_nil, List.nil_append, List.cons_append, List.length_cons, List.length_nil, List.replicate_succ, List.replicate_zero, List.getElem?_cons_zero, List.getElem?_cons_succ, List.getElem?_nil, List.set_cons_zero, List.set_cons_succ, Option.map_some, Option.map_none, if_true, if_false, reduceIte, decide_true, decide_false, Nat.reduceAdd, Nat.reduceLeDiff, List.mem_cons, List.mem_singleton, true_or, or_true, true_and, and_true, bne_self_eq_false, Bool.not_true, Bool.not_false, reduceCtorEq, Nat.reduceEqDiff, beq_self_eq_true, Nat.reduceLT, Int.reduceLT, Int.reduceLE, Int.reduceToNat, Int.reduceAdd, Int.reduceSub, Int.reduceMul, Int.reduceNeg, String.reduceEq, String.reduceBEq, List.lookup_cons, List.lookup_nil, Mi.big, Mi.putF, List.length_append, List.append_assoc, ite_true, ite_false, Bool.false_eq_true, and_self, not_true_eq_false, not_false_eq_true, Sum.inr.injEq, Sum.inl.injEq, Mi.look, Mi.put, List.any_cons, List.any_nil, Bool.or_true, Bool.or_false, Bool.true_or, Bool.false_or, List.find?_cons, Option.getD_some, Option.getD_none, Bool.bne_false, Bool.false_bne, Bool.true_bne, Bool.bne_true, Int.reduceEq, Int.reducePow, qb_law_newer_1, e1, at_t0, at_t1], .inr ⟨_, by rw [if_neg (by omega), if_pos (by omega)]⟩⟩
    · rcases hf with ⟨q0, rfl⟩ | ⟨q0, rfl⟩
      · exact ⟨.non, by simp only [Mi.bnd, Mi.mVar, Mi.mC, Mi.mkL, Mi.m2, Mi.m1, Mi.uNeg, Mi.bAdd, Mi.bSub, Mi.bDiv, Mi.bMod, Mi.bPow, Mi.sEq, Mi.bEq, Mi.bCmp, Mi.bLt, Mi.bLe, Mi.bGt, Mi.bGe, Mi.isNon, Mi.mIsN, Mi.mChain, Mi.mAnd, Mi.mOr, Mi.mNot, Mi.mTb, Mi.mTand, Mi.mTor, Mi.mTnot, Mi.mIf, Mi.mNil, Mi.mCons, Mi.mTup, Mi.mLst, Mi.mB, Mi.kOf, Mi.mFld, Mi.mCall, Mi.mCallK, Mi.mMeth, Mi.mMethK, Mi.mDef, Mi.fInt, Mi.fMax, Mi.fMin, Mi.isI, Mi.mIsI, Ms.mIsC, Mi.gNm, Mi.gNil, Mi.gCons, Mi.gTup, Mi.mSeq, Mi.mSkip, Mi.mBrk, Mi.mCont, Mi.mAsg, Mi.mPar, Mi.mExpr, Mi.mRet, Mi.mRetN, Mi.mIfS, Mi.tYes, Mi.wipe, Ms.mDct0, Ms.bAddI, List.map_cons, List.map_nil, List.nil_append, List.cons_append, List.length_cons, List.length_nil, List.replicate_succ, List.replicate_zero, List.getElem?_cons_zero, List.getElem?_cons_succ, List.getElem?_nil, List.set_cons_zero, List.set_cons_succ, Option.map_some, Option.map_none, if_true, if_false, reduceIte, decide_true, decide_false, Nat.reduceAdd, Nat.reduceLeDiff, List.mem_cons, List.mem_singleton, true_or, or_true, true_and, and_true, bne_self_eq_false, Bool.not_true, Bool.not_false, reduceCtorEq, Nat.reduceEqDiff, beq_self_eq_true, Nat.reduceLT, Int.reduceLT, Int.reduceLE, Int.reduceToNat, Int.reduceAdd, Int.reduceSub, Int.reduceMul, Int.reduceNeg, String.reduceEq, String.reduceBEq, List.lookup_cons, List.lookup_nil, Mi.big, Mi.putF, List.length_append, List.append_assoc, ite_true, ite_false, Bool.false_eq_true, and_self, not_true_eq_false, not_false_eq_true, Sum.inr.injEq, Sum.inl.injEq, Mi.look, Mi.put, List.any_cons, List.any_nil, Bool.or_true, Bool.or_false, Bool.true_or, Bool.false_or, List.find?_cons, Option.getD_some, Option.getD_none, Bool.bne_false, Bool.false_bne, Bool.true_bne, Bool.bne_true, Int.reduceEq, Int.reducePow, qb_law_newer_1, e1, at_t0, at_t1], .inl ⟨by rw [if_pos ⟨q0, rfl⟩], rfl⟩⟩
      · exact ⟨.tup [.int n0, .int 0], by simp only [Mi.bnd, Mi.mVar, Mi.mC, Mi.mkL, Mi.m2, Mi.m1, Mi.uNeg, Mi.bAdd, Mi.bSub, Mi.bDiv, Mi.bMod, Mi.bPow, Mi.sEq, Mi.bEq, Mi.bCmp, Mi.bLt, Mi.bLe, Mi.bGt, Mi.bGe, Mi.isNon, Mi.mIsN, Mi.mChain, Mi.mAnd, Mi.mOr, Mi.mNot, Mi.mTb, Mi.mTand, Mi.mTor, Mi.mTnot, Mi.mIf, Mi.mNil, Mi.mCons, Mi.mTup, Mi.mLst, Mi.mB, Mi.kOf, Mi.mFld, Mi.mCall, Mi.mCallK, Mi.mMeth, Mi.mMethK, Mi.mDef, Mi.fInt, Mi.fMax, Mi.fMin, Mi.isI, Mi.mIsI, Ms.mIsC, Mi.gNm, Mi.gNil, Mi.gCons, Mi.gTup, Mi.mSeq, Mi.mSkip, Mi.mBrk, Mi.mCont, Mi.mAsg, Mi.mPar, Mi.mExpr, Mi.mRet, Mi.mRetN, Mi.mIfS, Mi.tYes, Mi.wipe, Ms.mDct0, Ms.bAddI, List.map_cons, List.map_nil, List.nil_append, List.cons_append, List.length_cons, List.length_nil, List.replicate_succ, List.replicate_zero, List.getElem?_cons_zero, List.getElem?_cons_succ, List.getElem?_nil, List.set_cons_zero, List.set_cons_succ, Option.map_some, Option.map_none, if_true, if_false, reduceIte, decide_true, decide_false, Nat.reduceAdd, Nat.reduceLeDiff, List.mem_cons, List.mem_singleton, true_or, or_true, true_and, and_true, bne_self_eq_false, Bool.not_true, Bool.not_false, reduceCtorEq, Nat.reduceEqDiff, beq_self_eq_true, Nat.reduceLT, Int.reduceLT, Int.reduceLE, Int.reduceToNat, Int.reduceAdd, Int.reduceSub, Int.reduceMul, Int.reduceNeg, String.reduceEq, String.reduceBEq, List.lookup_cons, List.lookup_nil, Mi.big, Mi.putF, List.length_append, List.append_assoc, ite_true, ite_false, Bool.false_eq_true, and_self, not_true_eq_false, not_false_eq_true, Sum.inr.injEq, Sum.inl.injEq, Mi.look, Mi.put, List.any_cons, List.any_nil, Bool.or_true, Bool.or_false, Bool.true_or, Bool.false_or, List.find?_cons, Option.getD_some, Option.getD_none, Bool.bne_false, Bool.false_bne, Bool.true_bne, Bool.bne_true, Int.reduceEq, Int.reducePow, qb_law_newer_1, e1, at_t0, at_t1], .inr ⟨_, by rw [if_neg (by omega), if_pos (by omega)]⟩⟩
  obtain ⟨f', b1, hf'⟩ := b1
  have eL : qf_law_newer_1 [some (.ref hi), some (.ref hs), some .non, none, none] G = some (.nx, [some (.ref hi), some (.ref hs), some f', some (.int 1), some x1], G2) := by
    unfold qf_law_newer_1 qi_law_newer_1 Mi.mFor
    simp only [Mi.bnd, Mi.mVar, Mi.mC, Mi.mkL, Mi.m2, Mi.m1, Mi.uNeg, Mi.bAdd, Mi.bSub, Mi.bDiv, Mi.bMod, Mi.bPow, Mi.sEq, Mi.bEq, Mi.bCmp, Mi.bLt, Mi.bLe, Mi.bGt, Mi.bGe, Mi.isNon, Mi.mIsN, Mi.mChain, Mi.mAnd, Mi.mOr, Mi.mNot, Mi.mTb, Mi.mTand, Mi.mTor, Mi.mTnot, Mi.mIf, Mi.mNil, Mi.mCons, Mi.mTup, Mi.mLst, Mi.mB, Mi.kOf, Mi.mFld, Mi.mCall, Mi.mCallK, Mi.mMeth, Mi.mMethK, Mi.mDef, Mi.fInt, Mi.fMax, Mi.fMin, Mi.isI, Mi.mIsI, Ms.mIsC, Mi.gNm, Mi.gNil, Mi.gCons, Mi.gTup, Mi.mSeq, Mi.mSkip, Mi.mBrk, Mi.mCont, Mi.mAsg, Mi.mPar, Mi.mExpr, Mi.mRet, Mi.mRetN, Mi.mIfS, Mi.tYes, Mi.wipe, Ms.mDct0, Ms.bAddI, List.map_cons, List.map_nil, List.nil_append, List.cons_append, List.length_cons, List.length_nil, List.replicate_succ, List.replicate_zero, List.getElem?_cons_zero, List.getElem?_cons_succ, List.getElem?_nil, List.set_cons_zero, List.set_cons_succ, Option.map_some, Option.map_none, if_true, if_false, reduceIte, decide_true, decide_false, Nat.reduceAdd, Nat.reduceLeDiff, List.mem_cons, List.mem_singleton, true_or, or_true, true_and, and_true, bne_self_eq_false, Bool.not_true, Bool.not_false, reduceCtorEq, Nat.reduceEqDiff, beq_self_eq_true, Nat.reduceLT, Int.reduceLT, Int.reduceLE, Int.reduceToNat, Int.reduceAdd, Int.reduceSub, Int.reduceMul, Int.reduceNeg, String.reduceEq, String.reduceBEq, List.lookup_cons, List.lookup_nil, Mi.big, Mi.putF, List.length_append, List.append_assoc, ite_true, ite_false, Bool.false_eq_true, and_self, not_true_eq_false, not_false_eq_true, Sum.inr.injEq, Sum.inl.injEq, Mi.look, Mi.put, List.any_cons, List.any_nil, Bool.or_true, Bool.or_false, Bool.true_or, Bool.false_or, List.find?_cons, Option.getD_some, Option.getD_none, Bool.bne_false, Bool.false_bne, Bool.true_bne, Bool.bne_true, Int.reduceEq, Int.reducePow, Mi.iSeq, Mi.seqOf, Option.map_some]
    rw [Mi.mLoop, if_pos trivial]
    simp only [Mi.gNm, List.set_cons_succ, List.set_cons_zero]
    rw [b0]
    dsimp only
    rw [Mi.mLoop, if_pos trivial]
    simp only [Mi.gNm, List.set_cons_succ, List.set_cons_zero]
    rw [b1]
    dsimp only
    rw [Mi.mLoop, if_pos trivial]
  refine ⟨G2, ?_, s0.trans s1⟩
  rcases hf' with ⟨q, rfl⟩ | ⟨v, rfl⟩
  · rw [q]
    simp only [Mi.bnd, Mi.mVar, Mi.mC, Mi.mkL, Mi.m2, Mi.m1, Mi.uNeg, Mi.bAdd, Mi.bSub, Mi.bDiv, Mi.bMod, Mi.bPow, Mi.sEq, Mi.bEq, Mi.bCmp, Mi.bLt, Mi.bLe, Mi.bGt, Mi.bGe, Mi.isNon, Mi.mIsN, Mi.mChain, Mi.mAnd, Mi.mOr, Mi.mNot, Mi.mTb, Mi.mTand, Mi.mTor, Mi.mTnot, Mi.mIf, Mi.mNil, Mi.mCons, Mi.mTup, Mi.mLst, Mi.mB, Mi.kOf, Mi.mFld, Mi.mCall, Mi.mCallK, Mi.mMeth, Mi.mMethK, Mi.mDef, Mi.fInt, Mi.fMax, Mi.fMin, Mi.isI, Mi.mIsI, Ms.mIsC, Mi.gNm, Mi.gNil, Mi.gCons, Mi.gTup, Mi.mSeq, Mi.mSkip, Mi.mBrk, Mi.mCont, Mi.mAsg, Mi.mPar, Mi.mExpr, Mi.mRet, Mi.mRetN, Mi.mIfS, Mi.tYes, Mi.wipe, Ms.mDct0, Ms.bAddI, List.map_cons, List.map_nil, List.nil_append, List.cons_append, List.length_cons, List.length_nil, List.replicate_succ, List.replicate_zero, List.getElem?_cons_zero, List.getElem?_cons_succ, List.getElem?_nil, List.set_cons_zero, List.set_cons_succ, Option.map_some, Option.map_none, if_true, if_false, reduceIte, decide_true, decide_false, Nat.reduceAdd, Nat.reduceLeDiff, List.mem_cons, List.mem_singleton, true_or, or_true, true_and, and_true, bne_self_eq_false, Bool.not_true, Bool.not_false, reduceCtorEq, Nat.reduceEqDiff, beq_self_eq_true, Nat.reduceLT, Int.reduceLT, Int.reduceLE, Int.reduceToNat, Int.reduceAdd, Int.reduceSub, Int.reduceMul, Int.reduceNeg, String.reduceEq, String.reduceBEq, List.lookup_cons, List.lookup_nil, Mi.big, Mi.putF, List.length_append, List.append_assoc, ite_true, ite_false, Bool.false_eq_true, and_self, not_true_eq_false, not_false_eq_true, Sum.inr.injEq, Sum.inl.injEq, Mi.look, Mi.put, List.any_cons, List.any_nil, Bool.or_true, Bool.or_false, Bool.true_or, Bool.false_or, List.find?_cons, Option.getD_some, Option.getD_none, Bool.bne_false, Bool.false_bne, Bool.true_bne, Bool.bne_true, Int.reduceEq, Int.reducePow, m_law_newer, b_law_newer, eL]
  · simp only [Mi.bnd, Mi.mVar, Mi.mC, Mi.mkL, Mi.m2, Mi.m1, Mi.uNeg, Mi.bAdd, Mi.bSub, Mi.bDiv, Mi.bMod, Mi.bPow, Mi.sEq, Mi.bEq, Mi.bCmp, Mi.bLt, Mi.bLe, Mi.bGt, Mi.bGe, Mi.isNon, Mi.mIsN, Mi.mChain, Mi.mAnd, Mi.mOr, Mi.mNot, Mi.mTb, Mi.mTand, Mi.mTor, Mi.mTnot, Mi.mIf, Mi.mNil, Mi.mCons, Mi.mTup, Mi.mLst, Mi.mB, Mi.kOf, Mi.mFld, Mi.mCall, Mi.mCallK, Mi.mMeth, Mi.mMethK, Mi.mDef, Mi.fInt, Mi.fMax, Mi.fMin, Mi.isI, Mi.mIsI, Ms.mIsC, Mi.gNm, Mi.gNil, Mi.gCons, Mi.gTup, Mi.mSeq, Mi.mSkip, Mi.mBrk, Mi.mCont, Mi.mAsg, Mi.mPar, Mi.mExpr, Mi.mRet, Mi.mRetN, Mi.mIfS, Mi.tYes, Mi.wipe, Ms.mDct0, Ms.bAddI, List.map_cons, List.map_nil, List.nil_append, List.cons_append, List.length_cons, List.length_nil, List.replicate_succ, List.replicate_zero, List.getElem?_cons_zero, List.getElem?_cons_succ, List.getElem?_nil, List.set_cons_zero, List.set_cons_succ, Option.map_some, Option.map_none, if_true, if_false, reduceIte, decide_true, decide_false, Nat.reduceAdd, Nat.reduceLeDiff, List.mem_cons, List.mem_singleton, true_or, or_true, true_and, and_true, bne_self_eq_false, Bool.not_true, Bool.not_false, reduceCtorEq, Nat.reduceEqDiff, beq_self_eq_true, Nat.reduceLT, Int.reduceLT, Int.reduceLE, Int.reduceToNat, Int.reduceAdd, Int.reduceSub, Int.reduceMul, Int.reduceNeg, String.reduceEq, String.reduceBEq, List.lookup_cons, List.lookup_nil, Mi.big, Mi.putF, List.length_append, List.append_assoc, ite_true, ite_false, Bool.false_eq_true, and_self, not_true_eq_false, not_false_eq_true, Sum.inr.injEq, Sum.inl.injEq, Mi.look, Mi.put, List.any_cons, List.any_nil, Bool.or_true, Bool.or_false, Bool.true_or, Bool.false_or, List.find?_cons, Option.getD_some, Option.getD_none, Bool.bne_false, Bool.false_bne, Bool.true_bne, Bool.bne_true, Int.reduceEq, Int.reducePow, m_law_newer, b_law_newer, eL, at_t1]
    try rfl
end Lw

namespace Lw
open Mi (Dv MO Sto Sl Rs bnd ME MT MA MS MF Fl MG MGs MI)
open PySem (PyData Str)
theorem re_non : Re .non .none 5 0 := ⟨fun _ => rfl, rfl, Nat.le_refl _⟩
theorem re_bro : ∃ n, Re (.str "broken") (.str (Str.ofString "broken")) n 0 ∧ n ≤ 100 := ⟨_, ⟨fun _ => rfl, by unfold Mi.wt; rw [if_pos (by decide)], Nat.le_refl _⟩, by decide⟩
theorem re_frm : ∃ n, Re (.str "form") (.str (Str.ofString "form")) n 0 ∧ n ≤ 100 := ⟨_, ⟨fun _ => rfl, by unfold Mi.wt; rw [if_pos (by decide)], Nat.le_refl _⟩, by decide⟩
theorem re_roo : ∃ n, Re (.str "root") (.str (Str.ofString "root")) n 0 ∧ n ≤ 100 := ⟨_, ⟨fun _ => rfl, by unfold Mi.wt; rw [if_pos (by decide)], Nat.le_refl _⟩, by decide⟩
theorem re_plcs : ∀ (P : List Int), (∀ z ∈ P, 0 ≤ z ∧ z ≤ 1000000000) → ∃ ds n, ReL (P.map plc) ds n 0 ∧ n ≤ 22 * P.length
  | [], _ => ⟨[], 0, re_nil, Nat.le_refl _⟩
  | z :: P, h => by
    obtain ⟨ds, n, r, hn⟩ := re_plcs P fun y hy => h y (List.mem_cons_of_mem _ hy)
    have hz := h z (List.mem_cons_self ..)
    rw [List.map_cons, List.length_cons]
    unfold plc
    by_cases c : 0 < z
    · rw [if_pos c]
      exact ⟨_, _, re_cons (re_int (abs18' (by omega))) r (Nat.le_refl _), by omega⟩
    · rw [if_neg c]
      exact ⟨_, _, re_cons re_non r (Nat.le_refl _), by omega⟩
theorem re_J {s k n : Int} {bs : List (List Int)} {r0 r1 r2 r3 : Int} {P Q : List Int} (hn : 0 ≤ n ∧ n ≤ 1000000000) (h0 : 0 ≤ r0 ∧ r0 ≤ 1000000000) (h1 : 0 ≤ r1 ∧ r1 ≤ 1000000000) (h2 : 0 ≤ r2 ∧ r2 ≤ 1000000000) (h3 : 0 ≤ r3 ∧ r3 ≤ 1000000000) (hP : ∀ z ∈ P, 0 ≤ z ∧ z ≤ 1000000000) (lP : P.length ≤ 2000) (lb : bs.length ≤ 1000) : ∃ d c, Re (J s k n bs r0 r1 r2 r3 P Q) d c 2 ∧ c ≤ 100000 := by
  have fb : ∀ (bs : List (List Int)) (i j : Nat), fstBad n i bs = some j → j ≤ i + bs.length := fun bs => by
    induction bs with
    | nil => intro i j q; cases q
    | cons b bs ih =>
      intro i j q
      unfold fstBad at q
      split at q
      · cases q; rw [List.length_cons]; omega
      · have := ih _ _ q
        rw [List.length_cons]
        omega
  unfold J
  cases hq : fstBad n 0 bs with
  | some j =>
    have := fb bs 0 j hq
    obtain ⟨a, ra, la⟩ := re_bro
    have q := re_tup (re_cons ra (re_cons (re_int (i := (j : Int)) (abs18' (by omega))) (re_nil (m := 0)) (Nat.le_refl _)) (Nat.le_refl _))
    exact ⟨_, _, ⟨q.p, q.w, Nat.le_trans q.e (by decide)⟩, by omega⟩
  | none =>
    dsimp only
    split
    · obtain ⟨a, ra, la⟩ := re_roo
      obtain ⟨ds, m, rP, lm⟩ := re_plcs P hP
      have z : 0 ≤ 1 := by decide
      have q := re_tup (re_cons ra (re_cons (re_int (abs18' hn)) (re_cons (re_int (abs18' h0)) (re_cons (re_int (abs18' h1)) (re_cons (re_int (abs18' h2)) (re_cons (re_int (abs18' h3)) (re_cons (re_tup rP) (re_nil (m := 1)) (Nat.le_refl _)) z) z) z) z) z) z)
      exact ⟨_, _, q, by omega⟩
    · obtain ⟨a, ra, la⟩ := re_frm
      have q := re_tup (re_cons ra (re_nil (m := 0)) (Nat.le_refl _))
      exact ⟨_, _, ⟨q.p, q.w, Nat.le_trans q.e (by decide)⟩, by omega⟩
end Lw

namespace Lw
open Mi (Dv MO Sto Sl Rs bnd ME MT MA MS MF Fl MG MGs MI)
open Ms (mExtend mPar3 fMaxL mLc2 mLc2Loop gUnL)
open PySem (PyData)
/-- the whole state: the deck, the disk, the law's own rows; st: what a read tells -/
structure Wr (hd hc h hb hq hn hi hs : Nat) (s k : Int) (bl : List Dv) (its : List (Nat × Dv)) (n : Nat) (G : Sto) : Prop where
  dk : Dk hd hc G
  ds : Dsk G h hb hq hn s k bl (qOf its) (nwOf its)
  it : G[hi]? = some (.dct (ownD s k hs))
  sd : G[hs]? = some (.lst (layAll bl its))
  ap : ∀ x ∈ [h, hb, hq, hn, hi, hs], x ≠ hd ∧ x ≠ hc
  a2 : ∀ x ∈ [h, hb, hq, hn], x ≠ hi ∧ x ≠ hs
  a3 : hi ≠ hs
  bb : AllB bl
  ib : ∀ p ∈ its, p.1 < bl.length ∧ BlkD p.2
  sz : bl.length = Many s k
  hS : 6 ≤ s ∧ s ≤ 40
  hK : 4 ≤ k ∧ k ≤ 24
  il : its.length ≤ n
theorem lay_len : ∀ (its : List (Nat × Dv)) (bl : List Dv), (layAll bl its).length = bl.length
  | [], _ => rfl
  | p :: its, bl => by
    show (layAll (bl.set p.1 p.2) its).length = _
    rw [lay_len its, List.length_set]
theorem lay_blk : ∀ (its : List (Nat × Dv)) (bl : List Dv), AllB bl → (∀ p ∈ its, BlkD p.2) → AllB (layAll bl its)
  | [], _, h, _ => h
  | p :: its, bl, h, hi => lay_blk its _ (h.set p.1 (hi p (List.mem_cons_self ..))) fun q hq => hi q (List.mem_cons_of_mem _ hq)
theorem lay_app (bl : List Dv) (its : List (Nat × Dv)) (p : Nat × Dv) : layAll bl (its ++ [p]) = (layAll bl its).set p.1 p.2 := by
  unfold layAll
  rw [List.foldl_append]
  rfl
theorem rd_app (its : List (Nat × Dv)) (q : Nat × Dv) (p : Nat) : rd (its ++ [q]) p = if q.1 = p then some q.2 else rd its p := by
  unfold rd
  rw [List.reverse_append, List.reverse_singleton, List.singleton_append, List.find?_cons]
  by_cases h : q.1 = p
  · simp [h]
  · simp [h]
theorem rd_lay (bl : List Dv) (its : List (Nat × Dv)) : ∀ p, p < bl.length → (rd its p).getD (bl.getD p .non) = (layAll bl its).getD p .non := by
  refine snoc_ind (P := fun its => ∀ p, p < bl.length → (rd its p).getD (bl.getD p .non) = (layAll bl its).getD p .non) (fun p _ => rfl) (fun xs q ih p hp => ?_) its
  rw [rd_app, lay_app]
  have hl := lay_len xs bl
  by_cases h : q.1 = p
  · rw [if_pos h, ← h]
    rw [← h, ← hl] at hp
    simp [List.getD_eq_getElem?_getD, List.getElem?_set_self hp]
  · rw [if_neg h, ih p hp]
    simp [List.getD_eq_getElem?_getD, List.getElem?_set_ne h]
theorem allB_ws : ∀ {st : List Dv}, AllB st → ∃ ws : List (List Int), st = ws.map T ∧ ∀ w ∈ ws, Blk w
  | [], _ => ⟨[], rfl, fun _ h => nomatch h⟩
  | x :: st, h => by
    obtain ⟨ws, e, hw⟩ := allB_ws fun y hy => h y (List.mem_cons_of_mem _ hy)
    obtain ⟨w, ex, B⟩ := h x (List.mem_cons_self ..)
    exact ⟨w :: ws, by rw [e, ex]; rfl, fun v hv => by
      rcases (List.mem_cons.mp hv : _ ∨ _) with rfl | hv
      · exact B
      · exact hw v hv⟩
section
variable {G G' : Sto} {hd hc hi hs h hb hq hn n : Nat} {s k : Int} {bl : List Dv} {its : List (Nat × Dv)}
theorem Wr.dr (W : Wr hd hc h hb hq hn hi hs s k bl its n G) (r : Dr hd hc G G') : Wr hd hc h hb hq hn hi hs s k bl its n G' := by
  have m : ∀ x ∈ [h, hb, hq, hn, hi, hs], x ∉ [hd, hc] := fun x hx => by
    obtain ⟨a, b⟩ := W.ap x hx
    simp only [List.mem_cons, List.not_mem_nil, or_false]
    omega
  exact ⟨r.d, W.ds.sm r.s (m _ (by simp)) (m _ (by simp)) (m _ (by simp)) (m _ (by simp)), r.s.get (m _ (by simp)) W.it, r.s.get (m _ (by simp)) W.sd, W.ap, W.a2, W.a3, W.bb, W.ib, W.sz, W.hS, W.hK, W.il⟩
theorem Wr.sm (W : Wr hd hc h hb hq hn hi hs s k bl its n G) (r : Sm [] G G') : Wr hd hc h hb hq hn hi hs s k bl its n G' :=
  ⟨W.dk.sm r (by simp) (by simp), W.ds.sm r (by simp) (by simp) (by simp) (by simp), r.get (by simp) W.it, r.get (by simp) W.sd, W.ap, W.a2, W.a3, W.bb, W.ib, W.sz, W.hS, W.hK, W.il⟩
theorem Wr.many (W : Wr hd hc h hb hq hn hi hs s k bl its n G) : (Many s k : Int) = 2 * R' s k + s * k := by
  have hp := prodB W.hS W.hK
  have hr := R'_b W.hS W.hK
  unfold Many
  rw [Int.toNat_of_nonneg (by omega)]
theorem Wr.read (W : Wr hd hc h hb hq hn hi hs s k bl its n G) (p : Nat) (hp : p < bl.length) : m_Disk_read [.ref h, .int (p : Int)] G = some ((layAll bl its).getD p .non, G) := by
  have := read_ok W.ds (p : Int) _ (by omega) (by omega) (atI_nat hp)
  rw [look_nw, rd_lay bl its p hp] at this
  exact this
/-- both judges tell one value of an area -/
theorem Wr.judge (W : Wr hd hc h hb hq hn hi hs s k bl its n G) (area : Int) (ha : 0 ≤ area ∧ area ≤ 1) : ∃ x m, JV x m ∧ (∀ G', Sm [] G G' → m_root_at [.ref h, .int area] G' = some (x, G')) ∧ (∀ G', Sm [] G G' → ∃ G'', m_law_judge_root [.ref hi, .ref hs, .int area] G' = some (x, G'') ∧ Sm [] G' G'') ∧ (∃ d c, Re x d c 2 ∧ c ≤ 100000) := by
  have hr := R'_b W.hS W.hK
  have hp := prodB W.hS W.hK
  have mny := W.many
  have sz := W.sz
  obtain ⟨ws, ew, hw⟩ := allB_ws (lay_blk its bl W.bb fun p hp => (W.ib p hp).2)
  have lw : ws.length = bl.length := by rw [← lay_len its bl, ew, List.length_map]
  obtain ⟨R, hR⟩ : ∃ R : Nat, (R : Int) = R' s k := ⟨(R' s k).toNat, Int.toNat_of_nonneg (by omega)⟩
  obtain ⟨a, hA⟩ : ∃ a : Nat, (a : Int) = area := ⟨area.toNat, Int.toNat_of_nonneg ha.1⟩
  have ha2 : a = 0 ∨ a = 1 := by omega
  obtain ⟨F, hF⟩ : ∃ F : Nat, F = a * R := ⟨_, rfl⟩
  have hF2 : F + R ≤ ws.length := by rcases ha2 with q | q <;> rw [q] at hF <;> omega
  have hFi : area * R' s k = (F : Int) := by rw [hF, ← hA, ← hR]; exact (Int.natCast_mul a R).symm
  have hFi2 : (area + 1) * R' s k = ((F + R : Nat) : Int) := by rw [Int.add_mul, hFi, Int.one_mul, ← hR]; rfl
  have lb : ((ws.drop F).take R).length = R := by rw [List.length_take, List.length_drop]; omega
  cases eb : (ws.drop F).take R with
  | nil => rw [eb] at lb; simp at lb; omega
  | cons b r =>
    have hmem : ∀ w ∈ b :: r, Blk w := fun w hw' => hw w (List.mem_of_mem_drop (List.mem_of_mem_take (by rw [eb]; exact hw')))
    have h32 : ∀ w ∈ b :: r, w.length = 32 := fun w hw' => (hmem w hw').1
    have hpos : ∀ w ∈ b :: r, ∀ z ∈ w, 0 ≤ z := fun w hw' z hz => ((hmem w hw').2 z hz).1
    have lR : ((b :: r).length : Int) = R' s k := by rw [← eb, lb, hR]
    have lrow := row_len h32
    have hN : N' s k + 4 ≤ 28 * R' s k := by
      have : R' s k = (N' s k + 4 + 28 - 1) / 28 := rfl
      omega
    have row4 : ∃ r0 r1 r2 r3 P Q, rowOf (b :: r) = r0 :: r1 :: r2 :: r3 :: (P ++ Q) ∧ (P.length : Int) = N' s k := by
      generalize rowOf (b :: r) = row at lrow
      match row, lrow with
      | r0 :: r1 :: r2 :: r3 :: rest, lrow =>
        simp only [List.length_cons] at lrow lR
        refine ⟨r0, r1, r2, r3, rest.take (N' s k).toNat, rest.drop (N' s k).toNat, by rw [List.take_append_drop], ?_⟩
        rw [List.length_take]
        omega
      | [], lrow => simp only [List.length_cons, List.length_nil] at lrow; omega
      | [_], lrow => simp only [List.length_cons, List.length_nil] at lrow lR; omega
      | [_, _], lrow => simp only [List.length_cons, List.length_nil] at lrow lR; omega
      | [_, _, _], lrow => simp only [List.length_cons, List.length_nil] at lrow lR; omega
    obtain ⟨r0, r1, r2, r3, P, Q, hrow, hP⟩ := row4
    have b0 : 0 ≤ b.getD 0 0 := by
      have B := hmem b (List.mem_cons_self ..)
      rw [List.getD_eq_getElem?_getD, List.getElem?_eq_getElem (by rw [B.1]; decide)]
      exact (B.2 _ (List.getElem_mem _)).1
    obtain ⟨m, jm⟩ := jv_J s k (b.getD 0 0) (b :: r) r0 r1 r2 r3 P Q b0 (by simp)
    refine ⟨J s k (b.getD 0 0) (b :: r) r0 r1 r2 r3 P Q, m, jm, fun G' S => ?_, fun G' S => ?_, ?_⟩
    · have W' := W.sm S
      refine root_at_ok W'.ds W.hS W.hK area ha h32 lR (fun z z1 z2 => ?_) hrow hP
      rw [hFi] at z1 z2
      obtain ⟨p, rfl⟩ := Int.eq_ofNat_of_zero_le (show 0 ≤ z by omega)
      rw [W'.read p (by omega), hFi, ← eb, ew]
      have e1 : ((p : Int) - (F : Int)).toNat = p - F := by omega
      have hpw : p < ws.length := by omega
      have hpf : F + (p - F) = p := by omega
      simp only [List.getD_eq_getElem?_getD]
      rw [e1, List.getElem?_take_of_lt (by omega), List.getElem?_drop, hpf, List.getElem?_map, List.getElem?_eq_getElem hpw]
      rfl
    · have W' := W.sm S
      refine law_judge_ok W'.it W'.sd W.hS W.hK area ha h32 hpos lR ?_ hrow hP
      rw [hFi, hFi2, cut_mid _ F (F + R) (by omega) (by rw [ew, List.length_map]; omega), ew, ← eb, List.map_take, List.map_drop, show F + R - F = R by omega]
    · have rb : ∀ z ∈ rowOf (b :: r), 0 ≤ z ∧ z ≤ 1000000000 := fun z hz => by
        unfold rowOf at hz
        obtain ⟨l, hl, hz⟩ := List.mem_flatten.mp hz
        obtain ⟨w, hw', rfl⟩ := List.mem_map.mp hl
        exact (hmem w hw').2 z (List.mem_of_mem_drop (List.mem_of_mem_take hz))
      rw [hrow] at rb
      have b1 : b.getD 0 0 ≤ 1000000000 := by
        have B := hmem b (List.mem_cons_self ..)
        rw [List.getD_eq_getElem?_getD, List.getElem?_eq_getElem (by rw [B.1]; decide)]
        exact (B.2 _ (List.getElem_mem _)).2
      simp only [List.length_cons] at lR
      exact re_J ⟨b0, b1⟩ (rb _ (by simp)) (rb _ (by simp)) (rb _ (by simp)) (rb _ (by simp)) (fun z hz => rb z (by simp [hz])) (by omega) (by rw [List.length_cons]; omega)
end
end Lw

namespace Lw
open Mi (Dv MO Sto Sl Rs bnd ME MT MA MS MF Fl MG MGs MI)
open Ms (mExtend mPar3 fMaxL mLc2 mLc2Loop gUnL)
open PySem (PyData)
section
variable {G G' : Sto} {hd hc hi hs h hb hq hn n : Nat} {s k : Int} {bl : List Dv} {its : List (Nat × Dv)}
theorem Wr.write (W : Wr hd hc h hb hq hn hi hs s k bl its n G) (hle : n ≤ 5000) (p : Nat) (hp : p < bl.length) (w : List Int) (B : Blk w) (base j : Int) (hj : base + j = p) (a3 : Option Dv) :
    ∃ G', qb_law_write_all_1 [some (.ref h), some (.ref hi), some (.int base), a3, some (.int j), some (T w)] G = some (.nx, [some (.ref h), some (.ref hi), some (.int base), a3, some (.int j), some (T w)], G') ∧
      Wr hd hc h hb hq hn hi hs s k bl (its ++ [(p, T w)]) (n + 1) G' ∧ Sm [hq, hn, hs] G G' := by
  have il := W.il
  have nl := nw_len its
  obtain ⟨G1, e1, D1, S1, L1⟩ := write_ok W.ds (p : Int) w B (by omega) (by omega) (by unfold qOf; rw [List.length_map]; omega) (by omega)
  have a2 := W.a2
  have ap := W.ap
  have m : ∀ x ∈ [hi, hs, hd, hc], x ∉ [hq, hn] := fun x hx => by
    have q1 := W.a2 hq (by simp)
    have q2 := W.a2 hn (by simp)
    have q3 := W.ap hq (by simp)
    have q4 := W.ap hn (by simp)
    simp only [List.mem_cons, List.not_mem_nil, or_false] at hx ⊢
    omega
  have g1 := S1.get (m hi (by simp)) W.it
  have g2 := S1.get (m hs (by simp)) W.sd
  have k1 := W.dk.sm S1 (m hd (by simp)) (m hc (by simp))
  have hl := lay_len its bl
  have ix := ixN_nat (n := (layAll bl its).length) (p := p) (by omega)
  have S2 : Sm [hs] G1 (G1.set hs (.lst ((layAll bl its).set p (T w)))) := sm_set (by simp)
  have ni : ∀ x, x ≠ hs → x ∉ [hs] := fun x hx => by simpa using hx
  have qa : qOf its ++ [.tup [.int (p : Int), T w]] = qOf (its ++ [(p, T w)]) := by unfold qOf; rw [List.map_append]; rfl
  have D1' : Dsk G1 h hb hq hn s k bl (qOf (its ++ [(p, T w)])) (nwOf (its ++ [(p, T w)])) := by rw [← qa, nwOf_app]; exact D1
  refine ⟨_, ?_, ⟨k1.sm S2 (ni _ (fun e => (ap hs (by simp)).1 e.symm)) (ni _ (fun e => (ap hs (by simp)).2 e.symm)), D1'.sm S2 (ni _ (a2 h (by simp)).2) (ni _ (a2 hb (by simp)).2) (ni _ (a2 hq (by simp)).2) (ni _ (a2 hn (by simp)).2), S2.get (ni _ W.a3) g1, ?_, W.ap, W.a2, W.a3, W.bb, ?_, W.sz, W.hS, W.hK, by rw [List.length_append]; simp; omega⟩, (S1.mono (by simp)).trans (S2.mono (by simp))⟩
  · have st := sSt g1
    have ob := W.ds.ob
    simp only [Mi.bnd, Mi.mVar, Mi.mC, Mi.mkL, Mi.m2, Mi.m1, Mi.uNeg, Mi.bAdd, Mi.bSub, Mi.bDiv, Mi.bMod, Mi.bPow, Mi.sEq, Mi.bEq, Mi.bCmp, Mi.bLt, Mi.bLe, Mi.bGt, Mi.bGe, Mi.isNon, Mi.mIsN, Mi.mChain, Mi.mAnd, Mi.mOr, Mi.mNot, Mi.mTb, Mi.mTand, Mi.mTor, Mi.mTnot, Mi.mIf, Mi.mNil, Mi.mCons, Mi.mTup, Mi.mLst, Mi.mB, Mi.kOf, Mi.mFld, Mi.mCall, Mi.mCallK, Mi.mMeth, Mi.mMethK, Mi.mDef, Mi.fInt, Mi.fMax, Mi.fMin, Mi.isI, Mi.mIsI, Ms.mIsC, Mi.gNm, Mi.gNil, Mi.gCons, Mi.gTup, Mi.mSeq, Mi.mSkip, Mi.mBrk, Mi.mCont, Mi.mAsg, Mi.mPar, Mi.mExpr, Mi.mRet, Mi.mRetN, Mi.mIfS, Mi.tYes, Mi.wipe, Ms.mDct0, Ms.bAddI, List.map_cons, List.map_nil, List.nil_append, List.cons_append, List.length_cons, List.length_nil, List.replicate_succ, List.replicate_zero, List.getElem?_cons_zero, List.getElem?_cons_succ, List.getElem?_nil, List.set_cons_zero, List.set_cons_succ, Option.map_some, Option.map_none, if_true, if_false, reduceIte, decide_true, decide_false, Nat.reduceAdd, Nat.reduceLeDiff, List.mem_cons, List.mem_singleton, true_or, or_true, true_and, and_true, bne_self_eq_false, Bool.not_true, Bool.not_false, reduceCtorEq, Nat.reduceEqDiff, beq_self_eq_true, Nat.reduceLT, Int.reduceLT, Int.reduceLE, Int.reduceToNat, Int.reduceAdd, Int.reduceSub, Int.reduceMul, Int.reduceNeg, String.reduceEq, String.reduceBEq, List.lookup_cons, List.lookup_nil, Mi.big, Mi.putF, List.length_append, List.append_assoc, ite_true, ite_false, Bool.false_eq_true, and_self, not_true_eq_false, not_false_eq_true, Sum.inr.injEq, Sum.inl.injEq, Mi.look, Mi.put, List.any_cons, List.any_nil, Bool.or_true, Bool.or_false, Bool.true_or, Bool.false_or, List.find?_cons, Option.getD_some, Option.getD_none, Bool.bne_false, Bool.false_bne, Bool.true_bne, Bool.bne_true, Int.reduceEq, Int.reducePow, qb_law_write_all_1, W.ds.ob, dfs, hj, e1, Mi.mSetI, st, g2, ix]
  · rw [lay_app]
    exact set_at g2
  · intro q hq
    rcases (List.mem_append.mp hq : _ ∨ _) with z | z
    · exact W.ib q z
    · cases List.mem_singleton.mp z
      exact ⟨hp, w, rfl, B⟩
/-- a row of blocks laid at once; some: the list or a copy of it -/
theorem Wr.writes (base : Nat) (a3 : Option Dv) (st : Sto → Prop) : ∀ (ws : List (List Int)) (i : Nat) (its : List (Nat × Dv)) (n : Nat) (G : Sto) (x y : Option Dv), Wr hd hc h hb hq hn hi hs s k bl its n G → n + ws.length ≤ 5000 → (∀ w ∈ ws, Blk w) → base + i + ws.length ≤ bl.length → (∀ G', Sm [hq, hn, hs] G G' → st G') →
    ∃ its' x' y' G', Mi.mLoop (Mi.gTup 2 (Mi.gCons (Mi.gNm 4) (Mi.gCons (Mi.gNm 5) Mi.gNil))) qb_law_write_all_1 st (Mi.enumD i (ws.map T)) [some (.ref h), some (.ref hi), some (.int base), a3, x, y] G = some (.nx, [some (.ref h), some (.ref hi), some (.int base), a3, x', y'], G') ∧
      Wr hd hc h hb hq hn hi hs s k bl its' (n + ws.length) G' ∧ Sm [hq, hn, hs] G G'
  | [], i, its, n, G, x, y, W, _, _, _, hst => ⟨its, x, y, G, by
    rw [List.map_nil, Mi.enumD, Mi.mLoop, if_pos (hst G Sm.refl)], W, Sm.refl⟩
  | w :: ws, i, its, n, G, x, y, W, hle, hB, hp, hst => by
    rw [List.length_cons] at hle hp
    obtain ⟨G1, e1, W1, S1⟩ := W.write (by omega) (base + i) (by omega) w (hB w (List.mem_cons_self ..)) base i (by omega) a3
    obtain ⟨its', x', y', G2, e2, W2, S2⟩ := Wr.writes base a3 st ws (i + 1) _ (n + 1) G1 (some (.int i)) (some (T w)) W1 (by omega) (fun v hv => hB v (List.mem_cons_of_mem _ hv)) (by omega) (fun G' S => hst G' (S1.trans S))
    refine ⟨its', x', y', G2, ?_, by rw [List.length_cons, show n + (ws.length + 1) = n + 1 + ws.length by omega]; exact W2, S1.trans S2⟩
    rw [List.map_cons, Mi.enumD, Mi.mLoop, if_pos (hst G Sm.refl)]
    simp only [Mi.bnd, Mi.mVar, Mi.mC, Mi.mkL, Mi.m2, Mi.m1, Mi.uNeg, Mi.bAdd, Mi.bSub, Mi.bDiv, Mi.bMod, Mi.bPow, Mi.sEq, Mi.bEq, Mi.bCmp, Mi.bLt, Mi.bLe, Mi.bGt, Mi.bGe, Mi.isNon, Mi.mIsN, Mi.mChain, Mi.mAnd, Mi.mOr, Mi.mNot, Mi.mTb, Mi.mTand, Mi.mTor, Mi.mTnot, Mi.mIf, Mi.mNil, Mi.mCons, Mi.mTup, Mi.mLst, Mi.mB, Mi.kOf, Mi.mFld, Mi.mCall, Mi.mCallK, Mi.mMeth, Mi.mMethK, Mi.mDef, Mi.fInt, Mi.fMax, Mi.fMin, Mi.isI, Mi.mIsI, Ms.mIsC, Mi.gNm, Mi.gNil, Mi.gCons, Mi.gTup, Mi.mSeq, Mi.mSkip, Mi.mBrk, Mi.mCont, Mi.mAsg, Mi.mPar, Mi.mExpr, Mi.mRet, Mi.mRetN, Mi.mIfS, Mi.tYes, Mi.wipe, Ms.mDct0, Ms.bAddI, List.map_cons, List.map_nil, List.nil_append, List.cons_append, List.length_cons, List.length_nil, List.replicate_succ, List.replicate_zero, List.getElem?_cons_zero, List.getElem?_cons_succ, List.getElem?_nil, List.set_cons_zero, List.set_cons_succ, Option.map_some, Option.map_none, if_true, if_false, reduceIte, decide_true, decide_false, Nat.reduceAdd, Nat.reduceLeDiff, List.mem_cons, List.mem_singleton, true_or, or_true, true_and, and_true, bne_self_eq_false, Bool.not_true, Bool.not_false, reduceCtorEq, Nat.reduceEqDiff, beq_self_eq_true, Nat.reduceLT, Int.reduceLT, Int.reduceLE, Int.reduceToNat, Int.reduceAdd, Int.reduceSub, Int.reduceMul, Int.reduceNeg, String.reduceEq, String.reduceBEq, List.lookup_cons, List.lookup_nil, Mi.big, Mi.putF, List.length_append, List.append_assoc, ite_true, ite_false, Bool.false_eq_true, and_self, not_true_eq_false, not_false_eq_true, Sum.inr.injEq, Sum.inl.injEq, Mi.look, Mi.put, List.any_cons, List.any_nil, Bool.or_true, Bool.or_false, Bool.true_or, Bool.false_or, List.find?_cons, Option.getD_some, Option.getD_none, Bool.bne_false, Bool.false_bne, Bool.true_bne, Bool.bne_true, Int.reduceEq, Int.reducePow, e1]
    exact e2
/-- a force: the standing blocks become what a read tells -/
theorem Wr.force (W : Wr hd hc h hb hq hn hi hs s k bl its n G) :
    ∃ hq' hn' G', m_Disk_force [.ref h] G = some (.non, G') ∧ Wr hd hc h hb hq' hn' hi hs s k (layAll bl its) [] 0 G' := by
  obtain ⟨G1, e1, D1, S1, L1⟩ := force_ok W.ds fun p hp => (W.ib p hp).1
  have a2 := W.a2
  have ap := W.ap
  have lt := W.dk.lt
  have li := lt_get W.it
  have ls := lt_get W.sd
  have m : ∀ x ∈ [hi, hs, hd, hc], x ∉ [h, hb] := fun x hx => by
    have q1 := W.a2 h (by simp)
    have q2 := W.a2 hb (by simp)
    have q3 := W.ap h (by simp)
    have q4 := W.ap hb (by simp)
    simp only [List.mem_cons, List.not_mem_nil, or_false] at hx ⊢
    omega
  refine ⟨_, _, G1, e1, W.dk.sm S1 (m hd (by simp)) (m hc (by simp)), D1, S1.get (m hi (by simp)) W.it, S1.get (m hs (by simp)) W.sd, fun x hx => ?_, fun x hx => ?_, W.a3, lay_blk its bl W.bb fun p hp => (W.ib p hp).2, fun p hp => (by simp at hp), by rw [lay_len]; exact W.sz, W.hS, W.hK, Nat.le_refl _⟩
  · have q1 := ap h (by simp)
    have q2 := ap hb (by simp)
    have q3 := ap hi (by simp)
    have q4 := ap hs (by simp)
    simp only [List.mem_cons, or_false, List.not_mem_nil] at hx
    omega
  · have q1 := a2 h (by simp)
    have q2 := a2 hb (by simp)
    simp only [List.mem_cons, or_false, List.not_mem_nil] at hx
    omega
end
end Lw

namespace Lw
open Mi (Dv MO Sto Sl Rs bnd ME MT MA MS MF Fl MG MGs MI)
open Ms (mExtend mPar3 fMaxL mLc2 mLc2Loop gUnL)
open PySem (PyData)
/-- the law's count of root blocks: the least r with 28 r at least n + 4 -/
theorem while_ok (a0 a1 x : Option Dv) (N R : Int) (h1 : N + 4 ≤ 28 * R) (h2 : 28 * (R - 1) < N + 4) (G : Sto) : ∀ (f : Nat) (r : Int), r ≤ R → R - r < f →
    Mi.mWh qt_law_disk_1 qb_law_disk_1 f [a0, a1, some (.int N), some (.int r), x] G = some (.nx, [a0, a1, some (.int N), some (.int R), x], G)
  | 0, r, h3, h4 => by omega
  | f + 1, r, h3, h4 => by
    have m1 : Mi.bMul false (.int 28) (.int r) G = some (.int (28 * r), G) := bMul_small' false _ _ G (by decide)
    unfold Mi.mWh
    by_cases c : 28 * r < N + 4
    · have e1 : qt_law_disk_1 [a0, a1, some (.int N), some (.int r), x] G = some (true, G) := by simp only [Mi.bnd, Mi.mVar, Mi.mC, Mi.mkL, Mi.m2, Mi.m1, Mi.uNeg, Mi.bAdd, Mi.bSub, Mi.bDiv, Mi.bMod, Mi.bPow, Mi.sEq, Mi.bEq, Mi.bCmp, Mi.bLt, Mi.bLe, Mi.bGt, Mi.bGe, Mi.isNon, Mi.mIsN, Mi.mChain, Mi.mAnd, Mi.mOr, Mi.mNot, Mi.mTb, Mi.mTand, Mi.mTor, Mi.mTnot, Mi.mIf, Mi.mNil, Mi.mCons, Mi.mTup, Mi.mLst, Mi.mB, Mi.kOf, Mi.mFld, Mi.mCall, Mi.mCallK, Mi.mMeth, Mi.mMethK, Mi.mDef, Mi.fInt, Mi.fMax, Mi.fMin, Mi.isI, Mi.mIsI, Ms.mIsC, Mi.gNm, Mi.gNil, Mi.gCons, Mi.gTup, Mi.mSeq, Mi.mSkip, Mi.mBrk, Mi.mCont, Mi.mAsg, Mi.mPar, Mi.mExpr, Mi.mRet, Mi.mRetN, Mi.mIfS, Mi.tYes, Mi.wipe, Ms.mDct0, Ms.bAddI, List.map_cons, List.map_nil, List.nil_append, List.cons_append, List.length_cons, List.length_nil, List.replicate_succ, List.replicate_zero, List.getElem?_cons_zero, List.getElem?_cons_succ, List.getElem?_nil, List.set_cons_zero, List.set_cons_succ, Option.map_some, Option.map_none, if_true, if_false, reduceIte, decide_true, decide_false, Nat.reduceAdd, Nat.reduceLeDiff, List.mem_cons, List.mem_singleton, true_or, or_true, true_and, and_true, bne_self_eq_false, Bool.not_true, Bool.not_false, reduceCtorEq, Nat.reduceEqDiff, beq_self_eq_true, Nat.reduceLT, Int.reduceLT, Int.reduceLE, Int.reduceToNat, Int.reduceAdd, Int.reduceSub, Int.reduceMul, Int.reduceNeg, String.reduceEq, String.reduceBEq, List.lookup_cons, List.lookup_nil, Mi.big, Mi.putF, List.length_append, List.append_assoc, ite_true, ite_false, Bool.false_eq_true, and_self, not_true_eq_false, not_false_eq_true, Sum.inr.injEq, Sum.inl.injEq, Mi.look, Mi.put, List.any_cons, List.any_nil, Bool.or_true, Bool.or_false, Bool.true_or, Bool.false_or, List.find?_cons, Option.getD_some, Option.getD_none, Bool.bne_false, Bool.false_bne, Bool.true_bne, Bool.bne_true, Int.reduceEq, Int.reducePow, qt_law_disk_1, m1, c]
      have e2 : qb_law_disk_1 [a0, a1, some (.int N), some (.int r), x] G = some (.nx, [a0, a1, some (.int N), some (.int (r + 1)), x], G) := by simp only [Mi.bnd, Mi.mVar, Mi.mC, Mi.mkL, Mi.m2, Mi.m1, Mi.uNeg, Mi.bAdd, Mi.bSub, Mi.bDiv, Mi.bMod, Mi.bPow, Mi.sEq, Mi.bEq, Mi.bCmp, Mi.bLt, Mi.bLe, Mi.bGt, Mi.bGe, Mi.isNon, Mi.mIsN, Mi.mChain, Mi.mAnd, Mi.mOr, Mi.mNot, Mi.mTb, Mi.mTand, Mi.mTor, Mi.mTnot, Mi.mIf, Mi.mNil, Mi.mCons, Mi.mTup, Mi.mLst, Mi.mB, Mi.kOf, Mi.mFld, Mi.mCall, Mi.mCallK, Mi.mMeth, Mi.mMethK, Mi.mDef, Mi.fInt, Mi.fMax, Mi.fMin, Mi.isI, Mi.mIsI, Ms.mIsC, Mi.gNm, Mi.gNil, Mi.gCons, Mi.gTup, Mi.mSeq, Mi.mSkip, Mi.mBrk, Mi.mCont, Mi.mAsg, Mi.mPar, Mi.mExpr, Mi.mRet, Mi.mRetN, Mi.mIfS, Mi.tYes, Mi.wipe, Ms.mDct0, Ms.bAddI, List.map_cons, List.map_nil, List.nil_append, List.cons_append, List.length_cons, List.length_nil, List.replicate_succ, List.replicate_zero, List.getElem?_cons_zero, List.getElem?_cons_succ, List.getElem?_nil, List.set_cons_zero, List.set_cons_succ, Option.map_some, Option.map_none, if_true, if_false, reduceIte, decide_true, decide_false, Nat.reduceAdd, Nat.reduceLeDiff, List.mem_cons, List.mem_singleton, true_or, or_true, true_and, and_true, bne_self_eq_false, Bool.not_true, Bool.not_false, reduceCtorEq, Nat.reduceEqDiff, beq_self_eq_true, Nat.reduceLT, Int.reduceLT, Int.reduceLE, Int.reduceToNat, Int.reduceAdd, Int.reduceSub, Int.reduceMul, Int.reduceNeg, String.reduceEq, String.reduceBEq, List.lookup_cons, List.lookup_nil, Mi.big, Mi.putF, List.length_append, List.append_assoc, ite_true, ite_false, Bool.false_eq_true, and_self, not_true_eq_false, not_false_eq_true, Sum.inr.injEq, Sum.inl.injEq, Mi.look, Mi.put, List.any_cons, List.any_nil, Bool.or_true, Bool.or_false, Bool.true_or, Bool.false_or, List.find?_cons, Option.getD_some, Option.getD_none, Bool.bne_false, Bool.false_bne, Bool.true_bne, Bool.bne_true, Int.reduceEq, Int.reducePow, qb_law_disk_1]
      rw [e1]
      dsimp only
      rw [e2]
      dsimp only
      exact while_ok a0 a1 x N R h1 h2 G f (r + 1) (by omega) (by omega)
    · have e1 : qt_law_disk_1 [a0, a1, some (.int N), some (.int r), x] G = some (false, G) := by simp only [Mi.bnd, Mi.mVar, Mi.mC, Mi.mkL, Mi.m2, Mi.m1, Mi.uNeg, Mi.bAdd, Mi.bSub, Mi.bDiv, Mi.bMod, Mi.bPow, Mi.sEq, Mi.bEq, Mi.bCmp, Mi.bLt, Mi.bLe, Mi.bGt, Mi.bGe, Mi.isNon, Mi.mIsN, Mi.mChain, Mi.mAnd, Mi.mOr, Mi.mNot, Mi.mTb, Mi.mTand, Mi.mTor, Mi.mTnot, Mi.mIf, Mi.mNil, Mi.mCons, Mi.mTup, Mi.mLst, Mi.mB, Mi.kOf, Mi.mFld, Mi.mCall, Mi.mCallK, Mi.mMeth, Mi.mMethK, Mi.mDef, Mi.fInt, Mi.fMax, Mi.fMin, Mi.isI, Mi.mIsI, Ms.mIsC, Mi.gNm, Mi.gNil, Mi.gCons, Mi.gTup, Mi.mSeq, Mi.mSkip, Mi.mBrk, Mi.mCont, Mi.mAsg, Mi.mPar, Mi.mExpr, Mi.mRet, Mi.mRetN, Mi.mIfS, Mi.tYes, Mi.wipe, Ms.mDct0, Ms.bAddI, List.map_cons, List.map_nil, List.nil_append, List.cons_append, List.length_cons, List.length_nil, List.replicate_succ, List.replicate_zero, List.getElem?_cons_zero, List.getElem?_cons_succ, List.getElem?_nil, List.set_cons_zero, List.set_cons_succ, Option.map_some, Option.map_none, if_true, if_false, reduceIte, decide_true, decide_false, Nat.reduceAdd, Nat.reduceLeDiff, List.mem_cons, List.mem_singleton, true_or, or_true, true_and, and_true, bne_self_eq_false, Bool.not_true, Bool.not_false, reduceCtorEq, Nat.reduceEqDiff, beq_self_eq_true, Nat.reduceLT, Int.reduceLT, Int.reduceLE, Int.reduceToNat, Int.reduceAdd, Int.reduceSub, Int.reduceMul, Int.reduceNeg, String.reduceEq, String.reduceBEq, List.lookup_cons, List.lookup_nil, Mi.big, Mi.putF, List.length_append, List.append_assoc, ite_true, ite_false, Bool.false_eq_true, and_self, not_true_eq_false, not_false_eq_true, Sum.inr.injEq, Sum.inl.injEq, Mi.look, Mi.put, List.any_cons, List.any_nil, Bool.or_true, Bool.or_false, Bool.true_or, Bool.false_or, List.find?_cons, Option.getD_some, Option.getD_none, Bool.bne_false, Bool.false_bne, Bool.true_bne, Bool.bne_true, Int.reduceEq, Int.reducePow, qt_law_disk_1, m1, c]
      have : r = R := by omega
      subst this
      rw [e1]
theorem law_disk_ok (s k : Int) (G : Sto) (h1 : 6 ≤ s ∧ s ≤ 40) (h2 : 4 ≤ k ∧ k ≤ 24) :
    ∃ hi hs G', m_law_disk [.int s, .int k] G = some (.ref hi, G') ∧ Sm [] G G' ∧ G'[hi]? = some (.dct (ownD s k hs)) ∧ G'[hs]? = some (.lst (List.replicate (Many s k) d_BLANK)) ∧ hi = G.length ∧ hs = G.length + 1 := by
  have hp := prodB h1 h2
  have hr := R'_b h1 h2
  have hN : N' s k + 4 ≤ 28 * R' s k ∧ 28 * (R' s k - 1) < N' s k + 4 := by
    have : R' s k = (N' s k + 4 + 28 - 1) / 28 := rfl
    omega
  have m1 : ∀ G, Mi.bMul false (.int (s - 4)) (.int (k - 1)) G = some (.int (N' s k), G) := fun G => bMul_small false _ _ G (by omega)
  have m2 : ∀ G, Mi.bMul false (.int 2) (.int (R' s k)) G = some (.int (2 * R' s k), G) := fun G => bMul_small false _ _ G (by omega)
  have m3 : ∀ G, Mi.bMul false (.int s) (.int k) G = some (.int (s * k), G) := fun G => bMul_small false _ _ G (by omega)
  have w := while_ok (some (.int s)) (some (.int k)) none (N' s k) (R' s k) hN.1 hN.2 G 200 0 (by omega) (by omega)
  have w' : qw_law_disk_1 [some (.int s), some (.int k), some (.int (N' s k)), some (.int 0), none] G = _ := w
  have hM : (Many s k : Int) = 2 * R' s k + s * k := by unfold Many; rw [Int.toNat_of_nonneg (by omega)]
  have mt : ∀ (G : Sto), Mi.bMul false (.tup [.int 0]) (.int 32) G = some (d_BLANK, G) := fun G => rfl
  have c3 : ∀ G, Mi.bMul true (.fls [d_BLANK]) (.int (2 * R' s k + s * k)) G = some (.ref G.length, G ++ [.lst (List.replicate (Many s k) d_BLANK)]) := fun G => by
    rw [← hM]
    unfold Mi.bMul
    dsimp only
    rw [if_pos ⟨by omega, by omega, by show 1 * ((Many s k : Int)).toNat ≤ 16777216; omega⟩, rep1]
    rfl
  let o4 : MO := .dct [(.inr "S", .int s), (.inr "K", .int k), (.inr "N", .int (N' s k)), (.inr "R", .int (R' s k))]
  let L : MO := .lst (List.replicate (Many s k) d_BLANK)
  have g1 : ((G ++ [o4]) ++ [L])[G.length]? = some o4 := by rw [List.getElem?_append_left (by simp)]; exact get0 _ _ _
  have g2 : ((G ++ [o4]) ++ [L])[G.length + 1]? = some L := by
    have := get0 (G ++ [o4]) [] L
    rw [List.length_append] at this
    exact this
  refine ⟨G.length, G.length + 1, ((G ++ [o4]) ++ [L]).set G.length (.dct (ownD s k (G.length + 1))), ?_, ⟨by simp, fun i hi _ => ?_⟩, set_at g1, ?_, rfl, rfl⟩
  · have g1' : (G ++ [.dct [(.inr "S", .int s), (.inr "K", .int k), (.inr "N", .int (N' s k)), (.inr "R", .int (R' s k))], L])[G.length]? = some (.dct [(.inr "S", .int s), (.inr "K", .int k), (.inr "N", .int (N' s k)), (.inr "R", .int (R' s k))]) := get0 _ _ _
    simp only [Mi.bnd, Mi.mVar, Mi.mC, Mi.mkL, Mi.m2, Mi.m1, Mi.uNeg, Mi.bAdd, Mi.bSub, Mi.bDiv, Mi.bMod, Mi.bPow, Mi.sEq, Mi.bEq, Mi.bCmp, Mi.bLt, Mi.bLe, Mi.bGt, Mi.bGe, Mi.isNon, Mi.mIsN, Mi.mChain, Mi.mAnd, Mi.mOr, Mi.mNot, Mi.mTb, Mi.mTand, Mi.mTor, Mi.mTnot, Mi.mIf, Mi.mNil, Mi.mCons, Mi.mTup, Mi.mLst, Mi.mB, Mi.kOf, Mi.mFld, Mi.mCall, Mi.mCallK, Mi.mMeth, Mi.mMethK, Mi.mDef, Mi.fInt, Mi.fMax, Mi.fMin, Mi.isI, Mi.mIsI, Ms.mIsC, Mi.gNm, Mi.gNil, Mi.gCons, Mi.gTup, Mi.mSeq, Mi.mSkip, Mi.mBrk, Mi.mCont, Mi.mAsg, Mi.mPar, Mi.mExpr, Mi.mRet, Mi.mRetN, Mi.mIfS, Mi.tYes, Mi.wipe, Ms.mDct0, Ms.bAddI, List.map_cons, List.map_nil, List.nil_append, List.cons_append, List.length_cons, List.length_nil, List.replicate_succ, List.replicate_zero, List.getElem?_cons_zero, List.getElem?_cons_succ, List.getElem?_nil, List.set_cons_zero, List.set_cons_succ, Option.map_some, Option.map_none, if_true, if_false, reduceIte, decide_true, decide_false, Nat.reduceAdd, Nat.reduceLeDiff, List.mem_cons, List.mem_singleton, true_or, or_true, true_and, and_true, bne_self_eq_false, Bool.not_true, Bool.not_false, reduceCtorEq, Nat.reduceEqDiff, beq_self_eq_true, Nat.reduceLT, Int.reduceLT, Int.reduceLE, Int.reduceToNat, Int.reduceAdd, Int.reduceSub, Int.reduceMul, Int.reduceNeg, String.reduceEq, String.reduceBEq, List.lookup_cons, List.lookup_nil, Mi.big, Mi.putF, List.length_append, List.append_assoc, ite_true, ite_false, Bool.false_eq_true, and_self, not_true_eq_false, not_false_eq_true, Sum.inr.injEq, Sum.inl.injEq, Mi.look, Mi.put, List.any_cons, List.any_nil, Bool.or_true, Bool.or_false, Bool.true_or, Bool.false_or, List.find?_cons, Option.getD_some, Option.getD_none, Bool.bne_false, Bool.false_bne, Bool.true_bne, Bool.bne_true, Int.reduceEq, Int.reducePow, m_law_disk, b_law_disk, m1, w', Mi.mDisp, Mi.mPairs, m2, m3, mt, c3, Mi.mSetK, get0, set0, ownD, List.foldl_cons, List.foldl_nil, o4, L]
  · rw [List.getElem?_set_ne (by omega), List.getElem?_append_left (by simp; omega), List.getElem?_append_left hi]
  · rw [List.getElem?_set_ne (by omega)]
    exact g2
end Lw

namespace Lw
open Mi (Dv MO Sto Sl Rs bnd ME MT MA MS MF Fl MG MGs MI)
open Ms (mExtend mPar3 fMaxL mLc2 mLc2Loop gUnL)
open PySem (PyData)
theorem start_ok {hd hc : Nat} {G : Sto} (d : Dk hd hc G) (s k : Int) (hS : 6 ≤ s ∧ s ≤ 40) (hK : 4 ≤ k ∧ k ≤ 24) : ∃ G1 G2 hi hs, m_Disk_mk [.ref G.length, .int s, .int k] (G ++ [.ins 0 []]) = some (.non, G1) ∧ m_law_disk [.int s, .int k] G1 = some (.ref hi, G2) ∧
    Wr hd hc G.length (G.length + 1) (G.length + 2) (G.length + 3) hi hs s k (List.replicate (Many s k) d_BLANK) [] 0 G2 := by
  have e1 := mk_ok s k G hS hK
  have D := dsk_mk s k G
  have S1 : Sm [] G (G ++ [.ins 0 (dfs s k (G.length + 1) (G.length + 2) (G.length + 3) .non), .lst (List.replicate (Many s k) d_BLANK), .lst [], .dct []]) := sm_app
  have lt := d.lt
  have l1 : (G ++ [.ins 0 (dfs s k (G.length + 1) (G.length + 2) (G.length + 3) .non), .lst (List.replicate (Many s k) d_BLANK), .lst [], .dct []] : Sto).length = G.length + 4 := by rw [List.length_append]; rfl
  generalize eG : (G ++ [.ins 0 (dfs s k (G.length + 1) (G.length + 2) (G.length + 3) .non), .lst (List.replicate (Many s k) d_BLANK), .lst [], .dct []] : Sto) = G1 at e1 D S1 l1
  obtain ⟨hi, hs, G2, e2, S2, g1, g2, q1, q2⟩ := law_disk_ok s k G1 hS hK
  refine ⟨G1, G2, hi, hs, e1, e2, (d.disk S1).disk S2, D.sm S2 (by simp) (by simp) (by simp) (by simp), g1, g2, ?_, ?_, by omega, fun x hx => ?_, fun p hp => (by simp at hp), by rw [List.length_replicate], hS, hK, Nat.le_refl _⟩
  · intro x hx
    simp only [List.mem_cons, or_false, List.not_mem_nil] at hx
    omega
  · intro x hx
    simp only [List.mem_cons, or_false, List.not_mem_nil] at hx
    omega
  · rw [(List.mem_replicate.mp hx).2]
    exact blkd_blank
/-- sizes of a disk -/
theorem wide_ok {hd hc : Nat} {G : Sto} (d : Dk hd hc G) : ∃ s k G', m_law_wide_field [.ref hd] G = some (.tup [.int s, .int k], G') ∧ (6 ≤ s ∧ s ≤ 40) ∧ (4 ≤ k ∧ k ≤ 24) ∧ Dr hd hc G G' := by
  obtain ⟨x, G', e, hx, dr⟩ := pick d [.tup [.int 6, .int 4], .tup [.int 7, .int 5], .tup [.int 9, .int 7], .tup [.int 10, .int 7], .tup [.int 12, .int 8], .tup [.int 12, .int 4], .tup [.int 9, .int 8], .tup [.int 6, .int 24]] (by simp) (by simp)
  have q : ∃ s k : Int, x = .tup [.int s, .int k] ∧ (6 ≤ s ∧ s ≤ 40) ∧ (4 ≤ k ∧ k ≤ 24) := by
    simp only [List.mem_cons, or_false, List.not_mem_nil] at hx
    rcases hx with rfl | rfl | rfl | rfl | rfl | rfl | rfl | rfl <;> exact ⟨_, _, rfl, by omega, by omega⟩
  obtain ⟨s, k, rfl, h1, h2⟩ := q
  exact ⟨s, k, G', by simp only [Mi.bnd, Mi.mVar, Mi.mC, Mi.mkL, Mi.m2, Mi.m1, Mi.uNeg, Mi.bAdd, Mi.bSub, Mi.bDiv, Mi.bMod, Mi.bPow, Mi.sEq, Mi.bEq, Mi.bCmp, Mi.bLt, Mi.bLe, Mi.bGt, Mi.bGe, Mi.isNon, Mi.mIsN, Mi.mChain, Mi.mAnd, Mi.mOr, Mi.mNot, Mi.mTb, Mi.mTand, Mi.mTor, Mi.mTnot, Mi.mIf, Mi.mNil, Mi.mCons, Mi.mTup, Mi.mLst, Mi.mB, Mi.kOf, Mi.mFld, Mi.mCall, Mi.mCallK, Mi.mMeth, Mi.mMethK, Mi.mDef, Mi.fInt, Mi.fMax, Mi.fMin, Mi.isI, Mi.mIsI, Ms.mIsC, Mi.gNm, Mi.gNil, Mi.gCons, Mi.gTup, Mi.mSeq, Mi.mSkip, Mi.mBrk, Mi.mCont, Mi.mAsg, Mi.mPar, Mi.mExpr, Mi.mRet, Mi.mRetN, Mi.mIfS, Mi.tYes, Mi.wipe, Ms.mDct0, Ms.bAddI, List.map_cons, List.map_nil, List.nil_append, List.cons_append, List.length_cons, List.length_nil, List.replicate_succ, List.replicate_zero, List.getElem?_cons_zero, List.getElem?_cons_succ, List.getElem?_nil, List.set_cons_zero, List.set_cons_succ, Option.map_some, Option.map_none, if_true, if_false, reduceIte, decide_true, decide_false, Nat.reduceAdd, Nat.reduceLeDiff, List.mem_cons, List.mem_singleton, true_or, or_true, true_and, and_true, bne_self_eq_false, Bool.not_true, Bool.not_false, reduceCtorEq, Nat.reduceEqDiff, beq_self_eq_true, Nat.reduceLT, Int.reduceLT, Int.reduceLE, Int.reduceToNat, Int.reduceAdd, Int.reduceSub, Int.reduceMul, Int.reduceNeg, String.reduceEq, String.reduceBEq, List.lookup_cons, List.lookup_nil, Mi.big, Mi.putF, List.length_append, List.append_assoc, ite_true, ite_false, Bool.false_eq_true, and_self, not_true_eq_false, not_false_eq_true, Sum.inr.injEq, Sum.inl.injEq, Mi.look, Mi.put, List.any_cons, List.any_nil, Bool.or_true, Bool.or_false, Bool.true_or, Bool.false_or, List.find?_cons, Option.getD_some, Option.getD_none, Bool.bne_false, Bool.false_bne, Bool.true_bne, Bool.bne_true, Int.reduceEq, Int.reducePow, m_law_wide_field, b_law_wide_field, e], h1, h2, dr⟩
end Lw

namespace Lw
open Mi (Dv MO Sto Sl Rs bnd ME MT MA MS MF Fl MG MGs MI)
open Ms (mExtend mPar3 fMaxL mLc2 mLc2Loop gUnL)
open PySem (PyData)
theorem cut_blk {w : List Int} (B : Blk w) (p : Nat) (hp : p < 32) (y : Int) (h0 : 0 ≤ y) (h1 : y ≤ 1000000000) : Blk (w.take p ++ y :: w.drop (p + 1)) := by
  refine ⟨by rw [List.length_append, List.length_take, List.length_cons, List.length_drop, B.1]; omega, fun z hz => ?_⟩
  rcases (List.mem_append.mp hz : _ ∨ _) with q | q
  · exact B.2 z (List.mem_of_mem_take q)
  · rcases (List.mem_cons.mp q : _ ∨ _) with rfl | q
    · exact ⟨h0, h1⟩
    · exact B.2 z (List.mem_of_mem_drop q)
theorem w_at {w : List Int} (B : Blk w) (p : Nat) (hp : p < 32) (G : Sto) : ∃ v, Mi.bSubs (T w) (.int (p : Int)) G = some (.int v, G) ∧ 0 ≤ v ∧ v ≤ 1000000000 := by
  have hl : p < (w.map Dv.int).length := by rw [List.length_map, B.1]; exact hp
  have hl' : p < w.length := by rw [B.1]; exact hp
  have e := atI_nat hl
  refine ⟨w[p], ?_, B.2 _ (List.getElem_mem _)⟩
  rw [List.getD_eq_getElem?_getD, List.getElem?_map, List.getElem?_eq_getElem hl'] at e
  simp [Mi.bSubs, Mi.bGet, Mi.bIx, Mi.lstOf, Mi.seqOf, e]
section
variable {G : Sto} {hd hc hi hs h hb hq hn n : Nat} {s k : Int} {bl : List Dv} {its : List (Nat × Dv)}
theorem bent_ok (W : Wr hd hc h hb hq hn hi hs s k bl its n G) {w : List Int} (B : Blk w) : ∃ w' G', m_law_bent_block [.ref hd, .ref hi, T w] G = some (T w', G') ∧ Blk w' ∧ Dr hd hc G G' := by
  have hr := R'_b W.hS W.hK
  have hp := prodB W.hS W.hK
  have hS := W.hS
  have hK := W.hK
  obtain ⟨r1, G1, e1, a1, b1, d1⟩ := draw W.dk 32 (by decide) (by decide)
  obtain ⟨r2, G2, e2, a2, b2, d2⟩ := draw d1.d 32 (by decide) (by decide)
  obtain ⟨x, G3, e3, hx, d3⟩ := pick d2.d [.int 0, .int 1, .int 2, .int 3, .int 4, .int 5, .int 6, .int 7, .int 30, .int 31, .int r1, .int r2] (by simp) (by simp)
  have hxi : ∃ p : Nat, x = .int (p : Int) ∧ p < 32 := by
    simp only [List.mem_cons, or_false, List.not_mem_nil] at hx
    have mk : ∀ i : Int, 0 ≤ i → i < 32 → ∃ p : Nat, Dv.int i = .int (p : Int) ∧ p < 32 := fun i h1 h2 => ⟨i.toNat, by rw [Int.toNat_of_nonneg h1], by omega⟩
    rcases hx with rfl | rfl | rfl | rfl | rfl | rfl | rfl | rfl | rfl | rfl | rfl | rfl <;> exact mk _ (by omega) (by omega)
  obtain ⟨p, rfl, hp32⟩ := hxi
  have dr3 := (d1.trans d2).trans d3
  have W3 := W.dr dr3
  have it3 := W3.it
  have m2 : ∀ G, Mi.bMul false (.int 2) (.int (R' s k)) G = some (.int (2 * R' s k), G) := fun G => bMul_small false _ _ G (by omega)
  have m3 : ∀ G, Mi.bMul false (.int s) (.int k) G = some (.int (s * k), G) := fun G => bMul_small false _ _ G (by omega)
  obtain ⟨v, ev1, v0, v1⟩ := w_at B p hp32 G3
  obtain ⟨y, G4, e4, hy, d4⟩ := pick W3.dk [.int 0, .int 1, .int 2, .int 3, .int (v + 1), .int (if v - 1 > 0 then v - 1 else 0), .int s, .int (s - 1), .int k, .int (k + 1), .int (N' s k), .int (2 * R' s k), .int (2 * R' s k + s * k), .int (2 * R' s k + s * k + 1), .int 1000000000] (by simp) (by simp)
  have hyi : ∃ i : Int, y = .int i ∧ 0 ≤ i := by
    simp only [List.mem_cons, List.not_mem_nil, or_false] at hy
    have : (0 : Int) ≤ (if v - 1 > 0 then v - 1 else 0) := by split <;> omega
    rcases hy with rfl | rfl | rfl | rfl | rfl | rfl | rfl | rfl | rfl | rfl | rfl | rfl | rfl | rfl | rfl <;> exact ⟨_, rfl, by omega⟩
  obtain ⟨i, rfl, i0⟩ := hyi
  have lw : (w.map Dv.int).length = 32 := by rw [List.length_map, B.1]
  have c1 := cut_lo (w.map Dv.int) p (by omega)
  have c2 := cut_hi (w.map Dv.int) (p + 1) (by omega)
  have e5 : ((p + 1 : Nat) : Int) = (p : Int) + 1 := rfl
  rw [e5] at c2
  refine ⟨w.take p ++ (if 1000000000 < i then 1000000000 else i) :: w.drop (p + 1), G4, ?_, cut_blk B p hp32 _ (by split <;> omega) (by split <;> omega), dr3.trans d4⟩
  have l1 : ((w.map Dv.int).take p).length + 1 ≤ 16777216 := by rw [List.length_take]; omega
  have l2 : ((w.map Dv.int).take p).length + 1 + ((w.map Dv.int).drop (p + 1)).length ≤ 16777216 := by rw [List.length_take, List.length_drop]; omega
  have p9 : (Int.natAbs 10 < 2 ^ 64) = True := by decide
  simp only [Mi.bnd, Mi.mVar, Mi.mC, Mi.mkL, Mi.m2, Mi.m1, Mi.uNeg, Mi.bAdd, Mi.bSub, Mi.bDiv, Mi.bMod, Mi.bPow, Mi.sEq, Mi.bEq, Mi.bCmp, Mi.bLt, Mi.bLe, Mi.bGt, Mi.bGe, Mi.isNon, Mi.mIsN, Mi.mChain, Mi.mAnd, Mi.mOr, Mi.mNot, Mi.mTb, Mi.mTand, Mi.mTor, Mi.mTnot, Mi.mIf, Mi.mNil, Mi.mCons, Mi.mTup, Mi.mLst, Mi.mB, Mi.kOf, Mi.mFld, Mi.mCall, Mi.mCallK, Mi.mMeth, Mi.mMethK, Mi.mDef, Mi.fInt, Mi.fMax, Mi.fMin, Mi.isI, Mi.mIsI, Ms.mIsC, Mi.gNm, Mi.gNil, Mi.gCons, Mi.gTup, Mi.mSeq, Mi.mSkip, Mi.mBrk, Mi.mCont, Mi.mAsg, Mi.mPar, Mi.mExpr, Mi.mRet, Mi.mRetN, Mi.mIfS, Mi.tYes, Mi.wipe, Ms.mDct0, Ms.bAddI, List.map_cons, List.map_nil, List.nil_append, List.cons_append, List.length_cons, List.length_nil, List.replicate_succ, List.replicate_zero, List.getElem?_cons_zero, List.getElem?_cons_succ, List.getElem?_nil, List.set_cons_zero, List.set_cons_succ, Option.map_some, Option.map_none, if_true, if_false, reduceIte, decide_true, decide_false, Nat.reduceAdd, Nat.reduceLeDiff, List.mem_cons, List.mem_singleton, true_or, or_true, true_and, and_true, bne_self_eq_false, Bool.not_true, Bool.not_false, reduceCtorEq, Nat.reduceEqDiff, beq_self_eq_true, Nat.reduceLT, Int.reduceLT, Int.reduceLE, Int.reduceToNat, Int.reduceAdd, Int.reduceSub, Int.reduceMul, Int.reduceNeg, String.reduceEq, String.reduceBEq, List.lookup_cons, List.lookup_nil, Mi.big, Mi.putF, List.length_append, List.append_assoc, ite_true, ite_false, Bool.false_eq_true, and_self, not_true_eq_false, not_false_eq_true, Sum.inr.injEq, Sum.inl.injEq, Mi.look, Mi.put, List.any_cons, List.any_nil, Bool.or_true, Bool.or_false, Bool.true_or, Bool.false_or, List.find?_cons, Option.getD_some, Option.getD_none, Bool.bne_false, Bool.false_bne, Bool.true_bne, Bool.bne_true, Int.reduceEq, Int.reducePow, m_law_bent_block, b_law_bent_block, e1, e2, e3, sR it3, sS it3, sK it3, sN it3, m2, m3, ev1, e4, Mi.mSlice, Mi.mO, c1, c2, l1, l2, p9]
  rw [show ∀ z : List Int, T z = .tup (z.map Dv.int) from fun _ => rfl, List.map_append, List.map_cons, List.map_take, List.map_drop]
end
end Lw

namespace Lw
open Mi (Dv MO Sto Sl Rs bnd ME MT MA MS MF Fl MG MGs MI)
open Ms (mExtend mPar3 fMaxL mLc2 mLc2Loop gUnL)
open PySem (PyData)
/-- what a dict of places tells -/
def Plc (kvs : List (Mi.Key × Dv)) : Prop := ∀ j : Int, ∃ z : Int, (Mi.look kvs (.inl j)).getD (.int (-1)) = .int z ∧ -1 ≤ z ∧ z < 1000000000
def pv (kvs : List (Mi.Key × Dv)) (j : Int) : Int := match (Mi.look kvs (.inl j)).getD (.int (-1)) with
  | .int z => z + 1
  | _ => 0
theorem Plc.pv {kvs : List (Mi.Key × Dv)} (h : Plc kvs) (j : Int) : 0 ≤ pv kvs j ∧ pv kvs j ≤ 1000000000 := by
  obtain ⟨z, e, h1, h2⟩ := h j
  unfold Lw.pv
  rw [e]
  dsimp only
  omega
theorem plc_nil : Plc [] := fun j => ⟨-1, rfl, by decide, by decide⟩
theorem Plc.put {kvs : List (Mi.Key × Dv)} (h : Plc kvs) (i z : Int) (h1 : -1 ≤ z) (h2 : z < 1000000000) : Plc (Mi.put kvs (.inl i) (.int z)) := fun j => by
  rw [look_put]
  by_cases c : (Sum.inl j : Mi.Key) = .inl i
  · rw [if_pos c]
    exact ⟨z, rfl, h1, h2⟩
  · rw [if_neg c]
    exact h j
theorem words_ok {G : Sto} {hi hs hp : Nat} {s k : Int} {kvs : List (Mi.Key × Dv)} (e : G[hi]? = some (.dct (ownD s k hs))) (e2 : G[hp]? = some (.dct kvs)) (P : Plc kvs) (hN : 0 < N' s k ∧ N' s k ≤ 828) (a1 a2 a3 a4 a5 : Option Dv) :
    ql_law_root_1 [some (.ref hi), a1, a2, a3, a4, a5, some (.ref hp), none, none, none] G = some (.fls (((List.range (N' s k).toNat).map fun i => pv kvs (i : Nat)).map Dv.int), G) := by
  have q := lc_map (i := 8) (e := qe_law_root_1) (st := fun _ => True) (δ := [some (.ref hi), a1, a2, a3, a4, a5, some (.ref hp), none, none, none]) (f := liftD fun z => .int (pv kvs z)) (G := G) trivial (Mi.rng 0 (N' s k)) [] (fun d hd => by
    obtain ⟨j, hj, rfl⟩ := List.mem_map.mp hd
    obtain ⟨z, ez, _⟩ := P ((0 : Int) + (j : Nat))
    have ep : pv kvs ((0 : Int) + (j : Nat)) = z + 1 := by unfold pv; rw [ez]
    unfold Mi.look at ez
    simp only [Mi.bnd, Mi.mVar, Mi.mC, Mi.mkL, Mi.m2, Mi.m1, Mi.uNeg, Mi.bAdd, Mi.bSub, Mi.bDiv, Mi.bMod, Mi.bPow, Mi.sEq, Mi.bEq, Mi.bCmp, Mi.bLt, Mi.bLe, Mi.bGt, Mi.bGe, Mi.isNon, Mi.mIsN, Mi.mChain, Mi.mAnd, Mi.mOr, Mi.mNot, Mi.mTb, Mi.mTand, Mi.mTor, Mi.mTnot, Mi.mIf, Mi.mNil, Mi.mCons, Mi.mTup, Mi.mLst, Mi.mB, Mi.kOf, Mi.mFld, Mi.mCall, Mi.mCallK, Mi.mMeth, Mi.mMethK, Mi.mDef, Mi.fInt, Mi.fMax, Mi.fMin, Mi.isI, Mi.mIsI, Ms.mIsC, Mi.gNm, Mi.gNil, Mi.gCons, Mi.gTup, Mi.mSeq, Mi.mSkip, Mi.mBrk, Mi.mCont, Mi.mAsg, Mi.mPar, Mi.mExpr, Mi.mRet, Mi.mRetN, Mi.mIfS, Mi.tYes, Mi.wipe, Ms.mDct0, Ms.bAddI, List.map_cons, List.map_nil, List.nil_append, List.cons_append, List.length_cons, List.length_nil, List.replicate_succ, List.replicate_zero, List.getElem?_cons_zero, List.getElem?_cons_succ, List.getElem?_nil, List.set_cons_zero, List.set_cons_succ, Option.map_some, Option.map_none, if_true, if_false, reduceIte, decide_true, decide_false, Nat.reduceAdd, Nat.reduceLeDiff, List.mem_cons, List.mem_singleton, true_or, or_true, true_and, and_true, bne_self_eq_false, Bool.not_true, Bool.not_false, reduceCtorEq, Nat.reduceEqDiff, beq_self_eq_true, Nat.reduceLT, Int.reduceLT, Int.reduceLE, Int.reduceToNat, Int.reduceAdd, Int.reduceSub, Int.reduceMul, Int.reduceNeg, String.reduceEq, String.reduceBEq, List.lookup_cons, List.lookup_nil, Mi.big, Mi.putF, List.length_append, List.append_assoc, ite_true, ite_false, Bool.false_eq_true, and_self, not_true_eq_false, not_false_eq_true, Sum.inr.injEq, Sum.inl.injEq, Mi.look, Mi.put, List.any_cons, List.any_nil, Bool.or_true, Bool.or_false, Bool.true_or, Bool.false_or, List.find?_cons, Option.getD_some, Option.getD_none, Bool.bne_false, Bool.false_bne, Bool.true_bne, Bool.bne_true, Int.reduceEq, Int.reducePow, qe_law_root_1, Mi.mGet2, e2, ez, liftD, ep]) (by unfold Mi.rng; rw [List.length_map, List.length_range]; show 0 + _ ≤ 16777216; omega)
  have er : (Mi.rng 0 (N' s k)).map (liftD fun z => .int (pv kvs z)) = ((List.range (N' s k).toNat).map fun i => pv kvs (i : Nat)).map Dv.int := by
    unfold Mi.rng
    rw [List.map_map, List.map_map, show N' s k - 0 = N' s k by omega]
    refine List.map_congr_left ?_; intro i _
    simp [liftD]
  rw [List.nil_append, er] at q
  have i1 : -(2 ^ 62) ≤ N' s k ∧ N' s k < 2 ^ 62 := by omega
  unfold ql_law_root_1 qi_law_root_1 Mi.mLc
  simp only [Mi.bnd, Mi.mVar, Mi.mC, Mi.mkL, Mi.m2, Mi.m1, Mi.uNeg, Mi.bAdd, Mi.bSub, Mi.bDiv, Mi.bMod, Mi.bPow, Mi.sEq, Mi.bEq, Mi.bCmp, Mi.bLt, Mi.bLe, Mi.bGt, Mi.bGe, Mi.isNon, Mi.mIsN, Mi.mChain, Mi.mAnd, Mi.mOr, Mi.mNot, Mi.mTb, Mi.mTand, Mi.mTor, Mi.mTnot, Mi.mIf, Mi.mNil, Mi.mCons, Mi.mTup, Mi.mLst, Mi.mB, Mi.kOf, Mi.mFld, Mi.mCall, Mi.mCallK, Mi.mMeth, Mi.mMethK, Mi.mDef, Mi.fInt, Mi.fMax, Mi.fMin, Mi.isI, Mi.mIsI, Ms.mIsC, Mi.gNm, Mi.gNil, Mi.gCons, Mi.gTup, Mi.mSeq, Mi.mSkip, Mi.mBrk, Mi.mCont, Mi.mAsg, Mi.mPar, Mi.mExpr, Mi.mRet, Mi.mRetN, Mi.mIfS, Mi.tYes, Mi.wipe, Ms.mDct0, Ms.bAddI, List.map_cons, List.map_nil, List.nil_append, List.cons_append, List.length_cons, List.length_nil, List.replicate_succ, List.replicate_zero, List.getElem?_cons_zero, List.getElem?_cons_succ, List.getElem?_nil, List.set_cons_zero, List.set_cons_succ, Option.map_some, Option.map_none, if_true, if_false, reduceIte, decide_true, decide_false, Nat.reduceAdd, Nat.reduceLeDiff, List.mem_cons, List.mem_singleton, true_or, or_true, true_and, and_true, bne_self_eq_false, Bool.not_true, Bool.not_false, reduceCtorEq, Nat.reduceEqDiff, beq_self_eq_true, Nat.reduceLT, Int.reduceLT, Int.reduceLE, Int.reduceToNat, Int.reduceAdd, Int.reduceSub, Int.reduceMul, Int.reduceNeg, String.reduceEq, String.reduceBEq, List.lookup_cons, List.lookup_nil, Mi.big, Mi.putF, List.length_append, List.append_assoc, ite_true, ite_false, Bool.false_eq_true, and_self, not_true_eq_false, not_false_eq_true, Sum.inr.injEq, Sum.inl.injEq, Mi.look, Mi.put, List.any_cons, List.any_nil, Bool.or_true, Bool.or_false, Bool.true_or, Bool.false_or, List.find?_cons, Option.getD_some, Option.getD_none, Bool.bne_false, Bool.false_bne, Bool.true_bne, Bool.bne_true, Int.reduceEq, Int.reducePow, -Int.reducePow, -Int.reduceNeg, Mi.iRange1, sN e, if_pos i1, q]
end Lw

namespace Lw
open Mi (Dv MO Sto Sl Rs bnd ME MT MA MS MF Fl MG MGs MI)
open Ms (mExtend mPar3 fMaxL mLc2 mLc2Loop gUnL)
open PySem (PyData)
def blkOf (n : Int) (W : List Int) (i : Nat) : List Int := n :: 3 :: (i : Int) :: ((W.drop (28 * i)).take 28 ++ [n])
theorem blkOf_blk {n : Int} {W : List Int} {R : Nat} (h : W.length = 28 * R) (hW : ∀ z ∈ W, 0 ≤ z ∧ z ≤ 1000000000) (hn : 0 ≤ n ∧ n ≤ 1000000000) (hR : R ≤ 1000) (i : Nat) (hi : i < R) : Blk (blkOf n W i) := by
  refine ⟨by unfold blkOf; simp only [List.length_cons, List.length_append, List.length_take, List.length_drop, List.length_nil]; omega, fun z hz => ?_⟩
  unfold blkOf at hz
  rcases (List.mem_cons.mp hz : _ ∨ _) with rfl | hz
  · exact hn
  rcases (List.mem_cons.mp hz : _ ∨ _) with rfl | hz
  · decide
  rcases (List.mem_cons.mp hz : _ ∨ _) with rfl | hz
  · omega
  rcases (List.mem_append.mp hz : _ ∨ _) with hz | hz
  · exact hW z (List.mem_of_mem_drop (List.mem_of_mem_take hz))
  · cases List.mem_singleton.mp hz
    exact hn
theorem blocks_ok {G : Sto} {hi hs : Nat} {s k n : Int} {W : List Int} {R : Nat} (e : G[hi]? = some (.dct (ownD s k hs))) (hR : (R : Int) = R' s k) (hR2 : R ≤ 30) (h : W.length = 28 * R) (a2 a3 a4 a5 a6 a8 : Option Dv) :
    ql_law_root_2 [some (.ref hi), some (.int n), a2, a3, a4, a5, a6, some (.fls (W.map Dv.int)), a8, none] G = some (.ref G.length, G ++ [.lst (((List.range R).map (blkOf n W)).map T)]) := by
  have q := lc_map (i := 9) (e := qe_law_root_2) (st := fun _ => True) (δ := [some (.ref hi), some (.int n), a2, a3, a4, a5, a6, some (.fls (W.map Dv.int)), a8, none]) (f := liftD fun z => T (blkOf n W z.toNat)) (G := G) trivial (Mi.rng 0 (R' s k)) [] (fun d hd => by
    obtain ⟨j, hj, rfl⟩ := List.mem_map.mp hd
    have hj' := (List.mem_range).mp hj
    have m : ∀ G, Mi.bMul false (.int 28) (.int ((0 : Int) + (j : Nat))) G = some (.int (28 * ((0 : Int) + (j : Nat))), G) := fun G => bMul_small' false _ _ G (by decide)
    have c := cut_mid (W.map Dv.int) (28 * j) (28 * j + 28) (by omega) (by rw [List.length_map]; omega)
    have i1 : ((28 * j : Nat) : Int) = 28 * ((0 : Int) + (j : Nat)) := by omega
    have i2 : ((28 * j + 28 : Nat) : Int) = 28 * ((0 : Int) + (j : Nat)) + 28 := by omega
    rw [i1, i2, show 28 * j + 28 - 28 * j = 28 by omega] at c
    have l1 : (((W.map Dv.int).drop (28 * j)).take 28).length = 28 := by rw [List.length_take, List.length_drop, List.length_map]; omega
    have t : ((0 : Int) + (j : Nat)).toNat = j := by omega
    have t2 : ((0 : Int) + (j : Nat)) = (j : Nat) := by omega
    simp only [Mi.bnd, Mi.mVar, Mi.mC, Mi.mkL, Mi.m2, Mi.m1, Mi.uNeg, Mi.bAdd, Mi.bSub, Mi.bDiv, Mi.bMod, Mi.bPow, Mi.sEq, Mi.bEq, Mi.bCmp, Mi.bLt, Mi.bLe, Mi.bGt, Mi.bGe, Mi.isNon, Mi.mIsN, Mi.mChain, Mi.mAnd, Mi.mOr, Mi.mNot, Mi.mTb, Mi.mTand, Mi.mTor, Mi.mTnot, Mi.mIf, Mi.mNil, Mi.mCons, Mi.mTup, Mi.mLst, Mi.mB, Mi.kOf, Mi.mFld, Mi.mCall, Mi.mCallK, Mi.mMeth, Mi.mMethK, Mi.mDef, Mi.fInt, Mi.fMax, Mi.fMin, Mi.isI, Mi.mIsI, Ms.mIsC, Mi.gNm, Mi.gNil, Mi.gCons, Mi.gTup, Mi.mSeq, Mi.mSkip, Mi.mBrk, Mi.mCont, Mi.mAsg, Mi.mPar, Mi.mExpr, Mi.mRet, Mi.mRetN, Mi.mIfS, Mi.tYes, Mi.wipe, Ms.mDct0, Ms.bAddI, List.map_cons, List.map_nil, List.nil_append, List.cons_append, List.length_cons, List.length_nil, List.replicate_succ, List.replicate_zero, List.getElem?_cons_zero, List.getElem?_cons_succ, List.getElem?_nil, List.set_cons_zero, List.set_cons_succ, Option.map_some, Option.map_none, if_true, if_false, reduceIte, decide_true, decide_false, Nat.reduceAdd, Nat.reduceLeDiff, List.mem_cons, List.mem_singleton, true_or, or_true, true_and, and_true, bne_self_eq_false, Bool.not_true, Bool.not_false, reduceCtorEq, Nat.reduceEqDiff, beq_self_eq_true, Nat.reduceLT, Int.reduceLT, Int.reduceLE, Int.reduceToNat, Int.reduceAdd, Int.reduceSub, Int.reduceMul, Int.reduceNeg, String.reduceEq, String.reduceBEq, List.lookup_cons, List.lookup_nil, Mi.big, Mi.putF, List.length_append, List.append_assoc, ite_true, ite_false, Bool.false_eq_true, and_self, not_true_eq_false, not_false_eq_true, Sum.inr.injEq, Sum.inl.injEq, Mi.look, Mi.put, List.any_cons, List.any_nil, Bool.or_true, Bool.or_false, Bool.true_or, Bool.false_or, List.find?_cons, Option.getD_some, Option.getD_none, Bool.bne_false, Bool.false_bne, Bool.true_bne, Bool.bne_true, Int.reduceEq, Int.reducePow, qe_law_root_2, m, Mi.mSlice, Mi.mO, Mi.lstOf, c, Mi.fTuple, l1, liftD, t]
    rw [show ∀ z : List Int, T z = .tup (z.map Dv.int) from fun _ => rfl]
    unfold blkOf
    simp [List.map_take, List.map_drop]) (by unfold Mi.rng; rw [List.length_map, List.length_range]; show 0 + _ ≤ 16777216; omega)
  have er : (Mi.rng 0 (R' s k)).map (liftD fun z => T (blkOf n W z.toNat)) = ((List.range R).map (blkOf n W)).map T := by
    unfold Mi.rng
    rw [List.map_map, List.map_map, show (R' s k - 0).toNat = R by omega]
    refine List.map_congr_left ?_; intro i _
    simp [liftD]
  rw [List.nil_append, er] at q
  have i1 : -(2 ^ 62) ≤ R' s k ∧ R' s k < 2 ^ 62 := by omega
  unfold ql_law_root_2 qi_law_root_2 Mi.mLc
  simp only [Mi.bnd, Mi.mVar, Mi.mC, Mi.mkL, Mi.m2, Mi.m1, Mi.uNeg, Mi.bAdd, Mi.bSub, Mi.bDiv, Mi.bMod, Mi.bPow, Mi.sEq, Mi.bEq, Mi.bCmp, Mi.bLt, Mi.bLe, Mi.bGt, Mi.bGe, Mi.isNon, Mi.mIsN, Mi.mChain, Mi.mAnd, Mi.mOr, Mi.mNot, Mi.mTb, Mi.mTand, Mi.mTor, Mi.mTnot, Mi.mIf, Mi.mNil, Mi.mCons, Mi.mTup, Mi.mLst, Mi.mB, Mi.kOf, Mi.mFld, Mi.mCall, Mi.mCallK, Mi.mMeth, Mi.mMethK, Mi.mDef, Mi.fInt, Mi.fMax, Mi.fMin, Mi.isI, Mi.mIsI, Ms.mIsC, Mi.gNm, Mi.gNil, Mi.gCons, Mi.gTup, Mi.mSeq, Mi.mSkip, Mi.mBrk, Mi.mCont, Mi.mAsg, Mi.mPar, Mi.mExpr, Mi.mRet, Mi.mRetN, Mi.mIfS, Mi.tYes, Mi.wipe, Ms.mDct0, Ms.bAddI, List.map_cons, List.map_nil, List.nil_append, List.cons_append, List.length_cons, List.length_nil, List.replicate_succ, List.replicate_zero, List.getElem?_cons_zero, List.getElem?_cons_succ, List.getElem?_nil, List.set_cons_zero, List.set_cons_succ, Option.map_some, Option.map_none, if_true, if_false, reduceIte, decide_true, decide_false, Nat.reduceAdd, Nat.reduceLeDiff, List.mem_cons, List.mem_singleton, true_or, or_true, true_and, and_true, bne_self_eq_false, Bool.not_true, Bool.not_false, reduceCtorEq, Nat.reduceEqDiff, beq_self_eq_true, Nat.reduceLT, Int.reduceLT, Int.reduceLE, Int.reduceToNat, Int.reduceAdd, Int.reduceSub, Int.reduceMul, Int.reduceNeg, String.reduceEq, String.reduceBEq, List.lookup_cons, List.lookup_nil, Mi.big, Mi.putF, List.length_append, List.append_assoc, ite_true, ite_false, Bool.false_eq_true, and_self, not_true_eq_false, not_false_eq_true, Sum.inr.injEq, Sum.inl.injEq, Mi.look, Mi.put, List.any_cons, List.any_nil, Bool.or_true, Bool.or_false, Bool.true_or, Bool.false_or, List.find?_cons, Option.getD_some, Option.getD_none, Bool.bne_false, Bool.false_bne, Bool.true_bne, Bool.bne_true, Int.reduceEq, Int.reducePow, -Int.reducePow, -Int.reduceNeg, Mi.iRange1, sR e, if_pos i1, q]
end Lw

namespace Lw
open Mi (Dv MO Sto Sl Rs bnd ME MT MA MS MF Fl MG MGs MI)
open Ms (mExtend mPar3 fMaxL mLc2 mLc2Loop gUnL)
open PySem (PyData)
theorem law_root_ok {G : Sto} {hi hs hp : Nat} {s k n g o b l : Int} {kvs : List (Mi.Key × Dv)} (e : G[hi]? = some (.dct (ownD s k hs))) (e2 : G[hp]? = some (.dct kvs)) (P : Plc kvs) (h1 : 6 ≤ s ∧ s ≤ 40) (h2 : 4 ≤ k ∧ k ≤ 24)
    (hn : 0 ≤ n ∧ n ≤ 1000000000) (hg : 0 ≤ g ∧ g ≤ 1000000000) (ho : 0 ≤ o ∧ o ≤ 1000000000) (hb : 0 ≤ b ∧ b ≤ 1000000000) (hl : 0 ≤ l ∧ l ≤ 1000000000) :
    ∃ ws : List (List Int), m_law_root [.ref hi, .int n, .int g, .int o, .int b, .int l, .ref hp] G = some (.ref G.length, G ++ [.lst (ws.map T)]) ∧ (∀ w ∈ ws, Blk w) ∧ (ws.length : Int) = R' s k := by
  have pb := prodB h1 h2
  have rb := R'_b h1 h2
  have hN : N' s k + 4 ≤ 28 * R' s k ∧ 28 * (R' s k - 1) < N' s k + 4 := by
    have : R' s k = (N' s k + 4 + 28 - 1) / 28 := rfl
    omega
  obtain ⟨R, hR⟩ : ∃ R : Nat, (R : Int) = R' s k := ⟨(R' s k).toNat, Int.toNat_of_nonneg (by omega)⟩
  have w1 := words_ok e e2 P (by omega) (some (.int n)) (some (.int g)) (some (.int o)) (some (.int b)) (some (.int l))
  have pos : ∀ z ∈ (List.range (N' s k).toNat).map fun i => pv kvs (i : Nat), 0 ≤ z ∧ z ≤ 1000000000 := fun z hz => by
    obtain ⟨i, _, rfl⟩ := List.mem_map.mp hz
    exact P.pv _
  have len : ((List.range (N' s k).toNat).map fun i => pv kvs (i : Nat)).length = (N' s k).toNat := by rw [List.length_map, List.length_range]
  generalize (List.range (N' s k).toNat).map (fun i => pv kvs (i : Nat)) = V at w1 pos len
  obtain ⟨z, hz⟩ : ∃ z : Nat, (z : Int) = 28 * R' s k - (4 + N' s k) := ⟨(28 * R' s k - (4 + N' s k)).toNat, Int.toNat_of_nonneg (by omega)⟩
  have lW : ((g :: o :: b :: l :: V) ++ List.replicate z 0).length = 28 * R := by
    simp only [List.length_append, List.length_cons, List.length_replicate, len]
    omega
  have bd : ∀ y ∈ (g :: o :: b :: l :: V) ++ List.replicate z 0, 0 ≤ y ∧ y ≤ 1000000000 := fun y hy => by
    rcases (List.mem_append.mp hy : _ ∨ _) with q | q
    · simp only [List.mem_cons] at q
      rcases q with rfl | rfl | rfl | rfl | q
      · exact hg
      · exact ho
      · exact hb
      · exact hl
      · exact pos y q
    · rw [(List.mem_replicate.mp q).2]
      decide
  have w2 := fun a8 => blocks_ok (n := n) e hR (by omega) lW (some (.int g)) (some (.int o)) (some (.int b)) (some (.int l)) (some (.ref hp)) a8
  refine ⟨(List.range R).map (blkOf n ((g :: o :: b :: l :: V) ++ List.replicate z 0)), ?_, fun w hw => ?_, by rw [List.length_map, List.length_range, hR]⟩
  · have m1 : ∀ G, Mi.bMul false (.int 28) (.int (R' s k)) G = some (.int (28 * R' s k), G) := fun G => bMul_small false _ _ G (by omega)
    have c3 : Mi.bMul false (.fls [.int 0]) (.int z) G = some (.fls (List.replicate z (.int 0)), G) := by
      unfold Mi.bMul
      dsimp only
      rw [if_pos ⟨by omega, by omega, by show 1 * ((z : Int)).toNat ≤ 16777216; omega⟩, rep1]
      rfl
    have lv : ((V.map Dv.int).length + 1 + 1 + 1 + 1 : Nat) = 4 + (N' s k).toNat := by rw [List.length_map, len]; omega
    have mz : 28 * R' s k - ((4 + (N' s k).toNat : Nat) : Int) = z := by omega
    have b1 : 4 + (V.map Dv.int).length ≤ 16777216 := by rw [List.length_map, len]; omega
    have b2 : 4 + (N' s k).toNat + z ≤ 16777216 := by omega
    have sh : Dv.int g :: Dv.int o :: Dv.int b :: Dv.int l :: (V.map Dv.int ++ List.replicate z (Dv.int 0)) = ((g :: o :: b :: l :: V) ++ List.replicate z 0).map Dv.int := by simp
    rw [← sh] at w2
    simp only [Mi.bnd, Mi.mVar, Mi.mC, Mi.mkL, Mi.m2, Mi.m1, Mi.uNeg, Mi.bAdd, Mi.bSub, Mi.bDiv, Mi.bMod, Mi.bPow, Mi.sEq, Mi.bEq, Mi.bCmp, Mi.bLt, Mi.bLe, Mi.bGt, Mi.bGe, Mi.isNon, Mi.mIsN, Mi.mChain, Mi.mAnd, Mi.mOr, Mi.mNot, Mi.mTb, Mi.mTand, Mi.mTor, Mi.mTnot, Mi.mIf, Mi.mNil, Mi.mCons, Mi.mTup, Mi.mLst, Mi.mB, Mi.kOf, Mi.mFld, Mi.mCall, Mi.mCallK, Mi.mMeth, Mi.mMethK, Mi.mDef, Mi.fInt, Mi.fMax, Mi.fMin, Mi.isI, Mi.mIsI, Ms.mIsC, Mi.gNm, Mi.gNil, Mi.gCons, Mi.gTup, Mi.mSeq, Mi.mSkip, Mi.mBrk, Mi.mCont, Mi.mAsg, Mi.mPar, Mi.mExpr, Mi.mRet, Mi.mRetN, Mi.mIfS, Mi.tYes, Mi.wipe, Ms.mDct0, Ms.bAddI, List.map_cons, List.map_nil, List.nil_append, List.cons_append, List.length_cons, List.length_nil, List.replicate_succ, List.replicate_zero, List.getElem?_cons_zero, List.getElem?_cons_succ, List.getElem?_nil, List.set_cons_zero, List.set_cons_succ, Option.map_some, Option.map_none, if_true, if_false, reduceIte, decide_true, decide_false, Nat.reduceAdd, Nat.reduceLeDiff, List.mem_cons, List.mem_singleton, true_or, or_true, true_and, and_true, bne_self_eq_false, Bool.not_true, Bool.not_false, reduceCtorEq, Nat.reduceEqDiff, beq_self_eq_true, Nat.reduceLT, Int.reduceLT, Int.reduceLE, Int.reduceToNat, Int.reduceAdd, Int.reduceSub, Int.reduceMul, Int.reduceNeg, String.reduceEq, String.reduceBEq, List.lookup_cons, List.lookup_nil, Mi.big, Mi.putF, List.length_append, List.append_assoc, ite_true, ite_false, Bool.false_eq_true, and_self, not_true_eq_false, not_false_eq_true, Sum.inr.injEq, Sum.inl.injEq, Mi.look, Mi.put, List.any_cons, List.any_nil, Bool.or_true, Bool.or_false, Bool.true_or, Bool.false_or, List.find?_cons, Option.getD_some, Option.getD_none, Bool.bne_false, Bool.false_bne, Bool.true_bne, Bool.bne_true, Int.reduceEq, Int.reducePow, m_law_root, b_law_root, w1, b1, sR e, m1, Mi.fLen, Mi.lstOf, lv, mz, c3, List.length_replicate, b2, w2]
  · obtain ⟨i, hi', rfl⟩ := List.mem_map.mp hw
    exact blkOf_blk lW bd hn (by omega) i (List.mem_range.mp hi')
end Lw

namespace Lw
open Mi (Dv MO Sto Sl Rs bnd ME MT MA MS MF Fl MG MGs MI)
open Ms (mExtend mPar3 fMaxL mLc2 mLc2Loop gUnL)
open PySem (PyData)
section
variable {G G' : Sto} {hd hc hi hs h hb hq hn n : Nat} {s k : Int} {bl : List Dv} {its : List (Nat × Dv)}
theorem Wr.off (W : Wr hd hc h hb hq hn hi hs s k bl its n G) {xs : List Nat} (r : Sm xs G G') (m : ∀ x ∈ [h, hb, hq, hn, hi, hs, hd, hc], x ∉ xs) : Wr hd hc h hb hq hn hi hs s k bl its n G' :=
  ⟨W.dk.sm r (m _ (by simp)) (m _ (by simp)), W.ds.sm r (m _ (by simp)) (m _ (by simp)) (m _ (by simp)) (m _ (by simp)), r.get (m _ (by simp)) W.it, r.get (m _ (by simp)) W.sd, W.ap, W.a2, W.a3, W.bb, W.ib, W.sz, W.hS, W.hK, W.il⟩
theorem Wr.below (W : Wr hd hc h hb hq hn hi hs s k bl its n G) : ∀ x ∈ [h, hb, hq, hn, hi, hs, hd, hc], x < G.length := fun x hx => by
  have l := W.dk.lt
  have l1 := lt_get W.ds.ob
  have l2 := lt_get W.ds.bl
  have l3 := lt_get W.ds.qu
  have l4 := lt_get W.ds.nw
  have l5 := lt_get W.it
  have l6 := lt_get W.sd
  simp only [List.mem_cons, or_false, List.not_mem_nil] at hx
  rcases hx with rfl | rfl | rfl | rfl | rfl | rfl | rfl | rfl <;> omega
theorem put_len (kvs : List (Mi.Key × Dv)) (k : Mi.Key) (v : Dv) : (Mi.put kvs k v).length ≤ kvs.length + 1 := by
  unfold Mi.put
  split <;> simp
/-- one key's draw -/
theorem key_body (W : Wr hd hc h hb hq hn hi hs s k bl its n G) {hp : Nat} {kvs : List (Mi.Key × Dv)} (e : G[hp]? = some (.dct kvs)) (P : Plc kvs) (hl : kvs.length ≤ 1000) (m : ∀ x ∈ [h, hb, hq, hn, hi, hs, hd, hc], x ≠ hp) (j : Int) (a6 a7 a8 : Option Dv) :
    ∃ kvs' G', qb_law_drawn_root_1 [some (.ref hd), some (.ref hi), some (.ref hp), some (.int (2 * R' s k)), some (.int (2 * R' s k + s * k)), some (.int j), a6, a7, a8] G = some (.nx, [some (.ref hd), some (.ref hi), some (.ref hp), some (.int (2 * R' s k)), some (.int (2 * R' s k + s * k)), some (.int j), a6, a7, a8], G') ∧
      Wr hd hc h hb hq hn hi hs s k bl its n G' ∧ G'[hp]? = some (.dct kvs') ∧ Plc kvs' ∧ kvs'.length ≤ kvs.length + 1 ∧ Sm [hd, hc, hp] G G' := by
  have pb := prodB W.hS W.hK
  have rb := R'_b W.hS W.hK
  have n1 : hp ∉ [hd, hc] := by
    have q1 := m hd (by simp)
    have q2 := m hc (by simp)
    simp only [List.mem_cons, List.not_mem_nil, or_false]
    omega
  obtain ⟨r, G1, e1, a1, b1, d1⟩ := draw W.dk 3 (by decide) (by decide)
  by_cases hr : r = 0
  · obtain ⟨r2, G2, e2, a2, b2, d2⟩ := draw d1.d (2 * R' s k + s * k - 2 * R' s k) (by omega) (by omega)
    have dd := d1.trans d2
    have g2 := dd.s.get n1 e
    have hl' : kvs.length < 16777216 := by omega
    refine ⟨Mi.put kvs (.inl j) (.int (2 * R' s k + r2)), G2.set hp (.dct (Mi.put kvs (.inl j) (.int (2 * R' s k + r2)))), ?_, (W.dr dd).off (xs := [hp]) (sm_set (by simp)) (fun x hx => by simpa using m x hx), set_at g2, P.put _ _ (by omega) (by omega), put_len _ _ _, (dd.s.mono (by simp)).trans ((sm_set (hs := [hp]) (by simp)).mono (by simp))⟩
    subst hr
    simp only [Mi.bnd, Mi.mVar, Mi.mC, Mi.mkL, Mi.m2, Mi.m1, Mi.uNeg, Mi.bAdd, Mi.bSub, Mi.bDiv, Mi.bMod, Mi.bPow, Mi.sEq, Mi.bEq, Mi.bCmp, Mi.bLt, Mi.bLe, Mi.bGt, Mi.bGe, Mi.isNon, Mi.mIsN, Mi.mChain, Mi.mAnd, Mi.mOr, Mi.mNot, Mi.mTb, Mi.mTand, Mi.mTor, Mi.mTnot, Mi.mIf, Mi.mNil, Mi.mCons, Mi.mTup, Mi.mLst, Mi.mB, Mi.kOf, Mi.mFld, Mi.mCall, Mi.mCallK, Mi.mMeth, Mi.mMethK, Mi.mDef, Mi.fInt, Mi.fMax, Mi.fMin, Mi.isI, Mi.mIsI, Ms.mIsC, Mi.gNm, Mi.gNil, Mi.gCons, Mi.gTup, Mi.mSeq, Mi.mSkip, Mi.mBrk, Mi.mCont, Mi.mAsg, Mi.mPar, Mi.mExpr, Mi.mRet, Mi.mRetN, Mi.mIfS, Mi.tYes, Mi.wipe, Ms.mDct0, Ms.bAddI, List.map_cons, List.map_nil, List.nil_append, List.cons_append, List.length_cons, List.length_nil, List.replicate_succ, List.replicate_zero, List.getElem?_cons_zero, List.getElem?_cons_succ, List.getElem?_nil, List.set_cons_zero, List.set_cons_succ, Option.map_some, Option.map_none, if_true, if_false, reduceIte, decide_true, decide_false, Nat.reduceAdd, Nat.reduceLeDiff, List.mem_cons, List.mem_singleton, true_or, or_true, true_and, and_true, bne_self_eq_false, Bool.not_true, Bool.not_false, reduceCtorEq, Nat.reduceEqDiff, beq_self_eq_true, Nat.reduceLT, Int.reduceLT, Int.reduceLE, Int.reduceToNat, Int.reduceAdd, Int.reduceSub, Int.reduceMul, Int.reduceNeg, String.reduceEq, String.reduceBEq, List.lookup_cons, List.lookup_nil, Mi.big, Mi.putF, List.length_append, List.append_assoc, ite_true, ite_false, Bool.false_eq_true, and_self, not_true_eq_false, not_false_eq_true, Sum.inr.injEq, Sum.inl.injEq, Mi.look, Mi.put, List.any_cons, List.any_nil, Bool.or_true, Bool.or_false, Bool.true_or, Bool.false_or, List.find?_cons, Option.getD_some, Option.getD_none, Bool.bne_false, Bool.false_bne, Bool.true_bne, Bool.bne_true, Int.reduceEq, Int.reducePow, -Mi.put, qb_law_drawn_root_1, e1, e2, Mi.mSetK, g2, hl']
  · refine ⟨kvs, G1, by simp only [Mi.bnd, Mi.mVar, Mi.mC, Mi.mkL, Mi.m2, Mi.m1, Mi.uNeg, Mi.bAdd, Mi.bSub, Mi.bDiv, Mi.bMod, Mi.bPow, Mi.sEq, Mi.bEq, Mi.bCmp, Mi.bLt, Mi.bLe, Mi.bGt, Mi.bGe, Mi.isNon, Mi.mIsN, Mi.mChain, Mi.mAnd, Mi.mOr, Mi.mNot, Mi.mTb, Mi.mTand, Mi.mTor, Mi.mTnot, Mi.mIf, Mi.mNil, Mi.mCons, Mi.mTup, Mi.mLst, Mi.mB, Mi.kOf, Mi.mFld, Mi.mCall, Mi.mCallK, Mi.mMeth, Mi.mMethK, Mi.mDef, Mi.fInt, Mi.fMax, Mi.fMin, Mi.isI, Mi.mIsI, Ms.mIsC, Mi.gNm, Mi.gNil, Mi.gCons, Mi.gTup, Mi.mSeq, Mi.mSkip, Mi.mBrk, Mi.mCont, Mi.mAsg, Mi.mPar, Mi.mExpr, Mi.mRet, Mi.mRetN, Mi.mIfS, Mi.tYes, Mi.wipe, Ms.mDct0, Ms.bAddI, List.map_cons, List.map_nil, List.nil_append, List.cons_append, List.length_cons, List.length_nil, List.replicate_succ, List.replicate_zero, List.getElem?_cons_zero, List.getElem?_cons_succ, List.getElem?_nil, List.set_cons_zero, List.set_cons_succ, Option.map_some, Option.map_none, if_true, if_false, reduceIte, decide_true, decide_false, Nat.reduceAdd, Nat.reduceLeDiff, List.mem_cons, List.mem_singleton, true_or, or_true, true_and, and_true, bne_self_eq_false, Bool.not_true, Bool.not_false, reduceCtorEq, Nat.reduceEqDiff, beq_self_eq_true, Nat.reduceLT, Int.reduceLT, Int.reduceLE, Int.reduceToNat, Int.reduceAdd, Int.reduceSub, Int.reduceMul, Int.reduceNeg, String.reduceEq, String.reduceBEq, List.lookup_cons, List.lookup_nil, Mi.big, Mi.putF, List.length_append, List.append_assoc, ite_true, ite_false, Bool.false_eq_true, and_self, not_true_eq_false, not_false_eq_true, Sum.inr.injEq, Sum.inl.injEq, Mi.look, Mi.put, List.any_cons, List.any_nil, Bool.or_true, Bool.or_false, Bool.true_or, Bool.false_or, List.find?_cons, Option.getD_some, Option.getD_none, Bool.bne_false, Bool.false_bne, Bool.true_bne, Bool.bne_true, Int.reduceEq, Int.reducePow, qb_law_drawn_root_1, e1, hr], W.dr d1, d1.s.get n1 e, P, by omega, d1.s.mono (by simp)⟩
end
end Lw

namespace Lw
open Mi (Dv MO Sto Sl Rs bnd ME MT MA MS MF Fl MG MGs MI)
open Ms (mExtend mPar3 fMaxL mLc2 mLc2Loop gUnL)
open PySem (PyData)
section
variable {G G' : Sto} {hd hc hi hs h hb hq hn n : Nat} {s k : Int} {bl : List Dv} {its : List (Nat × Dv)}
theorem keys_ok (hp : Nat) (m : ∀ x ∈ [h, hb, hq, hn, hi, hs, hd, hc], x ≠ hp) (a6 a7 a8 : Option Dv) : ∀ (js : List Int) (G : Sto) (kvs : List (Mi.Key × Dv)) (x : Option Dv), Wr hd hc h hb hq hn hi hs s k bl its n G → G[hp]? = some (.dct kvs) → Plc kvs → kvs.length + js.length ≤ 1000 →
    ∃ kvs' x' G', Mi.mLoop (Mi.gNm 5) qb_law_drawn_root_1 (fun _ => True) (js.map Dv.int) [some (.ref hd), some (.ref hi), some (.ref hp), some (.int (2 * R' s k)), some (.int (2 * R' s k + s * k)), x, a6, a7, a8] G = some (.nx, [some (.ref hd), some (.ref hi), some (.ref hp), some (.int (2 * R' s k)), some (.int (2 * R' s k + s * k)), x', a6, a7, a8], G') ∧
      Wr hd hc h hb hq hn hi hs s k bl its n G' ∧ G'[hp]? = some (.dct kvs') ∧ Plc kvs'
  | [], G, kvs, x, W, e, P, _ => ⟨kvs, x, G, by rw [List.map_nil, Mi.mLoop, if_pos trivial], W, e, P⟩
  | j :: js, G, kvs, x, W, e, P, hl => by
    rw [List.length_cons] at hl
    obtain ⟨kvs1, G1, e1, W1, g1, P1, l1, S1⟩ := key_body W e P (by omega) m j a6 a7 a8
    obtain ⟨kvs2, x2, G2, e2, W2, g2, P2⟩ := keys_ok hp m a6 a7 a8 js G1 kvs1 (some (.int j)) W1 g1 P1 (by omega)
    refine ⟨kvs2, x2, G2, ?_, W2, g2, P2⟩
    rw [List.map_cons, Mi.mLoop, if_pos trivial]
    simp only [Mi.gNm, List.set_cons_succ, List.set_cons_zero]
    rw [e1]
    exact e2
theorem drawn_root_ok (W : Wr hd hc h hb hq hn hi hs s k bl its n G) : ∃ (ws : List (List Int)) (hx : Nat) (G' : Sto), m_law_drawn_root [.ref hd, .ref hi] G = some (.ref hx, G') ∧ G'[hx]? = some (.lst (ws.map T)) ∧ (∀ w ∈ ws, Blk w) ∧ (ws.length : Int) = R' s k ∧ Wr hd hc h hb hq hn hi hs s k bl its n G' ∧ (∀ x ∈ [h, hb, hq, hn, hi, hs, hd, hc], x ≠ hx) := by
  have pb := prodB W.hS W.hK
  have rb := R'_b W.hS W.hK
  have hS := W.hS
  have hK := W.hK
  have W0 : Wr hd hc h hb hq hn hi hs s k bl its n (G ++ [.dct []]) := W.sm sm_app
  have m : ∀ x ∈ [h, hb, hq, hn, hi, hs, hd, hc], x ≠ G.length := fun x hx => Nat.ne_of_lt (W.below x hx)
  have g0 : (G ++ [MO.dct []])[G.length]? = some (.dct []) := get0 _ _ _
  have er : Mi.rng 0 (N' s k) = ((List.range (N' s k).toNat).map fun i => ((i : Nat) : Int)).map Dv.int := by
    unfold Mi.rng
    rw [List.map_map, show N' s k - 0 = N' s k by omega]
    refine List.map_congr_left ?_; intro i _
    simp
  obtain ⟨kvs, x', G1, e1, W1, g1, P1⟩ := keys_ok G.length m none none none ((List.range (N' s k).toNat).map fun i => ((i : Nat) : Int)) (G ++ [.dct []]) [] none W0 g0 plc_nil (by simp; omega)
  rw [← er] at e1
  have i1 : -(2 ^ 62) ≤ N' s k ∧ N' s k < 2 ^ 62 := by omega
  have e1' : qf_law_drawn_root_1 [some (.ref hd), some (.ref hi), some (.ref G.length), some (.int (2 * R' s k)), some (.int (2 * R' s k + s * k)), none, none, none, none] (G ++ [.dct []]) = some (.nx, [some (.ref hd), some (.ref hi), some (.ref G.length), some (.int (2 * R' s k)), some (.int (2 * R' s k + s * k)), x', none, none, none], G1) := by
    unfold qf_law_drawn_root_1 qi_law_drawn_root_1 Mi.mFor
    simp only [Mi.bnd, Mi.mVar, Mi.mC, Mi.mkL, Mi.m2, Mi.m1, Mi.uNeg, Mi.bAdd, Mi.bSub, Mi.bDiv, Mi.bMod, Mi.bPow, Mi.sEq, Mi.bEq, Mi.bCmp, Mi.bLt, Mi.bLe, Mi.bGt, Mi.bGe, Mi.isNon, Mi.mIsN, Mi.mChain, Mi.mAnd, Mi.mOr, Mi.mNot, Mi.mTb, Mi.mTand, Mi.mTor, Mi.mTnot, Mi.mIf, Mi.mNil, Mi.mCons, Mi.mTup, Mi.mLst, Mi.mB, Mi.kOf, Mi.mFld, Mi.mCall, Mi.mCallK, Mi.mMeth, Mi.mMethK, Mi.mDef, Mi.fInt, Mi.fMax, Mi.fMin, Mi.isI, Mi.mIsI, Ms.mIsC, Mi.gNm, Mi.gNil, Mi.gCons, Mi.gTup, Mi.mSeq, Mi.mSkip, Mi.mBrk, Mi.mCont, Mi.mAsg, Mi.mPar, Mi.mExpr, Mi.mRet, Mi.mRetN, Mi.mIfS, Mi.tYes, Mi.wipe, Ms.mDct0, Ms.bAddI, List.map_cons, List.map_nil, List.nil_append, List.cons_append, List.length_cons, List.length_nil, List.replicate_succ, List.replicate_zero, List.getElem?_cons_zero, List.getElem?_cons_succ, List.getElem?_nil, List.set_cons_zero, List.set_cons_succ, Option.map_some, Option.map_none, if_true, if_false, reduceIte, decide_true, decide_false, Nat.reduceAdd, Nat.reduceLeDiff, List.mem_cons, List.mem_singleton, true_or, or_true, true_and, and_true, bne_self_eq_false, Bool.not_true, Bool.not_false, reduceCtorEq, Nat.reduceEqDiff, beq_self_eq_true, Nat.reduceLT, Int.reduceLT, Int.reduceLE, Int.reduceToNat, Int.reduceAdd, Int.reduceSub, Int.reduceMul, Int.reduceNeg, String.reduceEq, String.reduceBEq, List.lookup_cons, List.lookup_nil, Mi.big, Mi.putF, List.length_append, List.append_assoc, ite_true, ite_false, Bool.false_eq_true, and_self, not_true_eq_false, not_false_eq_true, Sum.inr.injEq, Sum.inl.injEq, Mi.look, Mi.put, List.any_cons, List.any_nil, Bool.or_true, Bool.or_false, Bool.true_or, Bool.false_or, List.find?_cons, Option.getD_some, Option.getD_none, Bool.bne_false, Bool.false_bne, Bool.true_bne, Bool.bne_true, Int.reduceEq, Int.reducePow, -Int.reducePow, -Int.reduceNeg, Mi.iRange1, sN W0.it, if_pos i1, e1]
  obtain ⟨r2, G2, e2, a2, b2, d2⟩ := draw W1.dk s (by omega) (by omega)
  have W2 := W1.dr d2
  obtain ⟨r3, G3, e3, a3, b3, d3⟩ := draw W2.dk s (by omega) (by omega)
  have W3 := W2.dr d3
  obtain ⟨r4, G4, e4, a4, b4, d4⟩ := draw W3.dk 20 (by decide) (by decide)
  have W4 := W3.dr d4
  obtain ⟨r5, G5, e5, a5, b5, d5⟩ := draw W4.dk 1000000000 (by decide) (by decide)
  have W5 := W4.dr d5
  obtain ⟨y, G6, e6, hy, d6⟩ := pick W5.dk [.int 1, .int 2, .int 5, .int 7, .int 1000000000, .int (1 + r4), .int (1 + r5), .int 0] (by simp) (by simp)
  have W6 := W5.dr d6
  have hyi : ∃ i : Int, y = .int i ∧ 0 ≤ i ∧ i ≤ 1000000000 := by
    simp only [List.mem_cons, List.not_mem_nil, or_false] at hy
    rcases hy with rfl | rfl | rfl | rfl | rfl | rfl | rfl | rfl <;> exact ⟨_, rfl, by omega, by omega⟩
  obtain ⟨i, rfl, i0, i9⟩ := hyi
  obtain ⟨r7, G7, e7, a7, b7, d7⟩ := draw W6.dk (k + 1) (by omega) (by omega)
  have W7 := W6.dr d7
  obtain ⟨r8, G8, e8, a8, b8, d8⟩ := draw W7.dk (if 1000000001 < i + 2 then 1000000001 else i + 2) (by split <;> omega) (by split <;> omega)
  have W8 := W7.dr d8
  have n1 : G.length ∉ [hd, hc] := by
    have q1 := m hd (by simp)
    have q2 := m hc (by simp)
    simp only [List.mem_cons, List.not_mem_nil, or_false]
    omega
  have dd := (((((d2.trans d3).trans d4).trans d5).trans d6).trans d7).trans d8
  have g8 := dd.s.get n1 g1
  have r8b : r8 ≤ 1000000000 := by
    have : (if 1000000001 < i + 2 then (1000000001 : Int) else i + 2) ≤ 1000000001 := by split <;> omega
    omega
  obtain ⟨ws, e9, hw, lw⟩ := law_root_ok W8.it g8 P1 hS hK (n := i) (g := r2) (o := r7) (b := r3) (l := r8) ⟨i0, i9⟩ (by omega) (by omega) (by omega) ⟨a8, r8b⟩
  have p9 : (Int.natAbs 10 < 2 ^ 64) = True := by decide
  have m2 : ∀ G, Mi.bMul false (.int 2) (.int (R' s k)) G = some (.int (2 * R' s k), G) := fun G => bMul_small false _ _ G (by omega)
  have m3 : ∀ G, Mi.bMul false (.int s) (.int k) G = some (.int (s * k), G) := fun G => bMul_small false _ _ G (by omega)
  refine ⟨ws, G8.length, G8 ++ [.lst (ws.map T)], ?_, get0 _ _ _, hw, lw, W8.sm sm_app, fun x hx => Nat.ne_of_lt (W8.below x hx)⟩
  simp only [Mi.bnd, Mi.mVar, Mi.mC, Mi.mkL, Mi.m2, Mi.m1, Mi.uNeg, Mi.bAdd, Mi.bSub, Mi.bDiv, Mi.bMod, Mi.bPow, Mi.sEq, Mi.bEq, Mi.bCmp, Mi.bLt, Mi.bLe, Mi.bGt, Mi.bGe, Mi.isNon, Mi.mIsN, Mi.mChain, Mi.mAnd, Mi.mOr, Mi.mNot, Mi.mTb, Mi.mTand, Mi.mTor, Mi.mTnot, Mi.mIf, Mi.mNil, Mi.mCons, Mi.mTup, Mi.mLst, Mi.mB, Mi.kOf, Mi.mFld, Mi.mCall, Mi.mCallK, Mi.mMeth, Mi.mMethK, Mi.mDef, Mi.fInt, Mi.fMax, Mi.fMin, Mi.isI, Mi.mIsI, Ms.mIsC, Mi.gNm, Mi.gNil, Mi.gCons, Mi.gTup, Mi.mSeq, Mi.mSkip, Mi.mBrk, Mi.mCont, Mi.mAsg, Mi.mPar, Mi.mExpr, Mi.mRet, Mi.mRetN, Mi.mIfS, Mi.tYes, Mi.wipe, Ms.mDct0, Ms.bAddI, List.map_cons, List.map_nil, List.nil_append, List.cons_append, List.length_cons, List.length_nil, List.replicate_succ, List.replicate_zero, List.getElem?_cons_zero, List.getElem?_cons_succ, List.getElem?_nil, List.set_cons_zero, List.set_cons_succ, Option.map_some, Option.map_none, if_true, if_false, reduceIte, decide_true, decide_false, Nat.reduceAdd, Nat.reduceLeDiff, List.mem_cons, List.mem_singleton, true_or, or_true, true_and, and_true, bne_self_eq_false, Bool.not_true, Bool.not_false, reduceCtorEq, Nat.reduceEqDiff, beq_self_eq_true, Nat.reduceLT, Int.reduceLT, Int.reduceLE, Int.reduceToNat, Int.reduceAdd, Int.reduceSub, Int.reduceMul, Int.reduceNeg, String.reduceEq, String.reduceBEq, List.lookup_cons, List.lookup_nil, Mi.big, Mi.putF, List.length_append, List.append_assoc, ite_true, ite_false, Bool.false_eq_true, and_self, not_true_eq_false, not_false_eq_true, Sum.inr.injEq, Sum.inl.injEq, Mi.look, Mi.put, List.any_cons, List.any_nil, Bool.or_true, Bool.or_false, Bool.true_or, Bool.false_or, List.find?_cons, Option.getD_some, Option.getD_none, Bool.bne_false, Bool.false_bne, Bool.true_bne, Bool.bne_true, Int.reduceEq, Int.reducePow, m_law_drawn_root, b_law_drawn_root, mPar3, m2, m3, sR W0.it, sS W0.it, sK W0.it, e1', sS W1.it, sS W2.it, e2, e3, e4, e5, e6, sK W6.it, e7, p9, e8, e9]
end
end Lw

namespace Lw
open Mi (Dv MO Sto Sl Rs bnd ME MT MA MS MF Fl MG MGs MI)
open Ms (mExtend mPar3 fMaxL mLc2 mLc2Loop gUnL)
open PySem (PyData)
section
variable {G G' : Sto} {hd hc hi hs h hb hq hn n : Nat} {s k : Int} {bl : List Dv} {its : List (Nat × Dv)}
/-- a row of blocks is laid: by a list's handle, or a copy -/
theorem write_all_ok (W : Wr hd hc h hb hq hn hi hs s k bl its n G) (base : Nat) (x : Dv) (ws : List (List Int)) (hx : ∀ G', Sm [hq, hn, hs] G G' → Mi.lstOf G' x = some (ws.map T)) (hw : ∀ w ∈ ws, Blk w) (hl : n + ws.length ≤ 5000) (hb' : base + ws.length ≤ bl.length) :
    ∃ its' G', m_law_write_all [.ref h, .ref hi, .int base, x] G = some (.non, G') ∧ Wr hd hc h hb hq hn hi hs s k bl its' (n + ws.length) G' ∧ Sm [hq, hn, hs] G G' := by
  obtain ⟨its', x', y', G1, e1, W1, S1⟩ := Wr.writes base (some x) (fun G' => Mi.lstOf G' x = some (ws.map T)) ws 0 its n G none none W hl hw (by omega) hx
  have e0 := hx G Sm.refl
  have e2 : qf_law_write_all_1 [some (.ref h), some (.ref hi), some (.int base), some x, none, none] G = some (.nx, [some (.ref h), some (.ref hi), some (.int base), some x, x', y'], G1) := by
    unfold qf_law_write_all_1 qi_law_write_all_1 Mi.mFor
    simp only [Mi.bnd, Mi.mVar, Mi.mC, Mi.mkL, Mi.m2, Mi.m1, Mi.uNeg, Mi.bAdd, Mi.bSub, Mi.bDiv, Mi.bMod, Mi.bPow, Mi.sEq, Mi.bEq, Mi.bCmp, Mi.bLt, Mi.bLe, Mi.bGt, Mi.bGe, Mi.isNon, Mi.mIsN, Mi.mChain, Mi.mAnd, Mi.mOr, Mi.mNot, Mi.mTb, Mi.mTand, Mi.mTor, Mi.mTnot, Mi.mIf, Mi.mNil, Mi.mCons, Mi.mTup, Mi.mLst, Mi.mB, Mi.kOf, Mi.mFld, Mi.mCall, Mi.mCallK, Mi.mMeth, Mi.mMethK, Mi.mDef, Mi.fInt, Mi.fMax, Mi.fMin, Mi.isI, Mi.mIsI, Ms.mIsC, Mi.gNm, Mi.gNil, Mi.gCons, Mi.gTup, Mi.mSeq, Mi.mSkip, Mi.mBrk, Mi.mCont, Mi.mAsg, Mi.mPar, Mi.mExpr, Mi.mRet, Mi.mRetN, Mi.mIfS, Mi.tYes, Mi.wipe, Ms.mDct0, Ms.bAddI, List.map_cons, List.map_nil, List.nil_append, List.cons_append, List.length_cons, List.length_nil, List.replicate_succ, List.replicate_zero, List.getElem?_cons_zero, List.getElem?_cons_succ, List.getElem?_nil, List.set_cons_zero, List.set_cons_succ, Option.map_some, Option.map_none, if_true, if_false, reduceIte, decide_true, decide_false, Nat.reduceAdd, Nat.reduceLeDiff, List.mem_cons, List.mem_singleton, true_or, or_true, true_and, and_true, bne_self_eq_false, Bool.not_true, Bool.not_false, reduceCtorEq, Nat.reduceEqDiff, beq_self_eq_true, Nat.reduceLT, Int.reduceLT, Int.reduceLE, Int.reduceToNat, Int.reduceAdd, Int.reduceSub, Int.reduceMul, Int.reduceNeg, String.reduceEq, String.reduceBEq, List.lookup_cons, List.lookup_nil, Mi.big, Mi.putF, List.length_append, List.append_assoc, ite_true, ite_false, Bool.false_eq_true, and_self, not_true_eq_false, not_false_eq_true, Sum.inr.injEq, Sum.inl.injEq, Mi.look, Mi.put, List.any_cons, List.any_nil, Bool.or_true, Bool.or_false, Bool.true_or, Bool.false_or, List.find?_cons, Option.getD_some, Option.getD_none, Bool.bne_false, Bool.false_bne, Bool.true_bne, Bool.bne_true, Int.reduceEq, Int.reducePow, Mi.iEnum, e0, e1]
  exact ⟨its', G1, by simp only [Mi.bnd, Mi.mVar, Mi.mC, Mi.mkL, Mi.m2, Mi.m1, Mi.uNeg, Mi.bAdd, Mi.bSub, Mi.bDiv, Mi.bMod, Mi.bPow, Mi.sEq, Mi.bEq, Mi.bCmp, Mi.bLt, Mi.bLe, Mi.bGt, Mi.bGe, Mi.isNon, Mi.mIsN, Mi.mChain, Mi.mAnd, Mi.mOr, Mi.mNot, Mi.mTb, Mi.mTand, Mi.mTor, Mi.mTnot, Mi.mIf, Mi.mNil, Mi.mCons, Mi.mTup, Mi.mLst, Mi.mB, Mi.kOf, Mi.mFld, Mi.mCall, Mi.mCallK, Mi.mMeth, Mi.mMethK, Mi.mDef, Mi.fInt, Mi.fMax, Mi.fMin, Mi.isI, Mi.mIsI, Ms.mIsC, Mi.gNm, Mi.gNil, Mi.gCons, Mi.gTup, Mi.mSeq, Mi.mSkip, Mi.mBrk, Mi.mCont, Mi.mAsg, Mi.mPar, Mi.mExpr, Mi.mRet, Mi.mRetN, Mi.mIfS, Mi.tYes, Mi.wipe, Ms.mDct0, Ms.bAddI, List.map_cons, List.map_nil, List.nil_append, List.cons_append, List.length_cons, List.length_nil, List.replicate_succ, List.replicate_zero, List.getElem?_cons_zero, List.getElem?_cons_succ, List.getElem?_nil, List.set_cons_zero, List.set_cons_succ, Option.map_some, Option.map_none, if_true, if_false, reduceIte, decide_true, decide_false, Nat.reduceAdd, Nat.reduceLeDiff, List.mem_cons, List.mem_singleton, true_or, or_true, true_and, and_true, bne_self_eq_false, Bool.not_true, Bool.not_false, reduceCtorEq, Nat.reduceEqDiff, beq_self_eq_true, Nat.reduceLT, Int.reduceLT, Int.reduceLE, Int.reduceToNat, Int.reduceAdd, Int.reduceSub, Int.reduceMul, Int.reduceNeg, String.reduceEq, String.reduceBEq, List.lookup_cons, List.lookup_nil, Mi.big, Mi.putF, List.length_append, List.append_assoc, ite_true, ite_false, Bool.false_eq_true, and_self, not_true_eq_false, not_false_eq_true, Sum.inr.injEq, Sum.inl.injEq, Mi.look, Mi.put, List.any_cons, List.any_nil, Bool.or_true, Bool.or_false, Bool.true_or, Bool.false_or, List.find?_cons, Option.getD_some, Option.getD_none, Bool.bne_false, Bool.false_bne, Bool.true_bne, Bool.bne_true, Int.reduceEq, Int.reducePow, m_law_write_all, b_law_write_all, e2], W1, S1⟩
end
end Lw

namespace Lw
open Mi (Dv MO Sto Sl Rs bnd ME MT MA MS MF Fl MG MGs MI)
open Ms (mExtend mPar3 fMaxL mLc2 mLc2Loop gUnL)
open PySem (PyData)
section
variable {G G' : Sto} {hd hc hi hs h hb hq hn n : Nat} {s k : Int} {bl : List Dv} {its : List (Nat × Dv)}
theorem Wr.mono (W : Wr hd hc h hb hq hn hi hs s k bl its n G) {m : Nat} (hm : n ≤ m) : Wr hd hc h hb hq hn hi hs s k bl its m G :=
  ⟨W.dk, W.ds, W.it, W.sd, W.ap, W.a2, W.a3, W.bb, W.ib, W.sz, W.hS, W.hK, Nat.le_trans W.il hm⟩
theorem judge_root_ok (W : Wr hd hc h hb hq hn hi hs s k bl its n G) (area : Int) (ha : 0 ≤ area ∧ area ≤ 1) (x : Dv) (hx : m_root_at [.ref h, .int area] G = some (x, G)) : m_judge_root [.ref h, .int area] G = some (x, G) := by
  have e1 := need_disk_ok W.ds
  have e2 := is_between_int area 0 1 G
  have e3 : decide (0 ≤ area ∧ area ≤ 1) = true := decide_eq_true ha
  rw [e3] at e2
  simp only [Mi.bnd, Mi.mVar, Mi.mC, Mi.mkL, Mi.m2, Mi.m1, Mi.uNeg, Mi.bAdd, Mi.bSub, Mi.bDiv, Mi.bMod, Mi.bPow, Mi.sEq, Mi.bEq, Mi.bCmp, Mi.bLt, Mi.bLe, Mi.bGt, Mi.bGe, Mi.isNon, Mi.mIsN, Mi.mChain, Mi.mAnd, Mi.mOr, Mi.mNot, Mi.mTb, Mi.mTand, Mi.mTor, Mi.mTnot, Mi.mIf, Mi.mNil, Mi.mCons, Mi.mTup, Mi.mLst, Mi.mB, Mi.kOf, Mi.mFld, Mi.mCall, Mi.mCallK, Mi.mMeth, Mi.mMethK, Mi.mDef, Mi.fInt, Mi.fMax, Mi.fMin, Mi.isI, Mi.mIsI, Ms.mIsC, Mi.gNm, Mi.gNil, Mi.gCons, Mi.gTup, Mi.mSeq, Mi.mSkip, Mi.mBrk, Mi.mCont, Mi.mAsg, Mi.mPar, Mi.mExpr, Mi.mRet, Mi.mRetN, Mi.mIfS, Mi.tYes, Mi.wipe, Ms.mDct0, Ms.bAddI, List.map_cons, List.map_nil, List.nil_append, List.cons_append, List.length_cons, List.length_nil, List.replicate_succ, List.replicate_zero, List.getElem?_cons_zero, List.getElem?_cons_succ, List.getElem?_nil, List.set_cons_zero, List.set_cons_succ, Option.map_some, Option.map_none, if_true, if_false, reduceIte, decide_true, decide_false, Nat.reduceAdd, Nat.reduceLeDiff, List.mem_cons, List.mem_singleton, true_or, or_true, true_and, and_true, bne_self_eq_false, Bool.not_true, Bool.not_false, reduceCtorEq, Nat.reduceEqDiff, beq_self_eq_true, Nat.reduceLT, Int.reduceLT, Int.reduceLE, Int.reduceToNat, Int.reduceAdd, Int.reduceSub, Int.reduceMul, Int.reduceNeg, String.reduceEq, String.reduceBEq, List.lookup_cons, List.lookup_nil, Mi.big, Mi.putF, List.length_append, List.append_assoc, ite_true, ite_false, Bool.false_eq_true, and_self, not_true_eq_false, not_false_eq_true, Sum.inr.injEq, Sum.inl.injEq, Mi.look, Mi.put, List.any_cons, List.any_nil, Bool.or_true, Bool.or_false, Bool.true_or, Bool.false_or, List.find?_cons, Option.getD_some, Option.getD_none, Bool.bne_false, Bool.false_bne, Bool.true_bne, Bool.bne_true, Int.reduceEq, Int.reducePow, m_judge_root, b_judge_root, e1, e2, hx]
theorem newer_root_ok (W : Wr hd hc h hb hq hn hi hs s k bl its n G) (x : Dv) (hx : m_newer [.ref h] G = some (x, G')) : m_newer_root [.ref h] G = some (x, G') := by
  have e1 := need_disk_ok W.ds
  simp only [Mi.bnd, Mi.mVar, Mi.mC, Mi.mkL, Mi.m2, Mi.m1, Mi.uNeg, Mi.bAdd, Mi.bSub, Mi.bDiv, Mi.bMod, Mi.bPow, Mi.sEq, Mi.bEq, Mi.bCmp, Mi.bLt, Mi.bLe, Mi.bGt, Mi.bGe, Mi.isNon, Mi.mIsN, Mi.mChain, Mi.mAnd, Mi.mOr, Mi.mNot, Mi.mTb, Mi.mTand, Mi.mTor, Mi.mTnot, Mi.mIf, Mi.mNil, Mi.mCons, Mi.mTup, Mi.mLst, Mi.mB, Mi.kOf, Mi.mFld, Mi.mCall, Mi.mCallK, Mi.mMeth, Mi.mMethK, Mi.mDef, Mi.fInt, Mi.fMax, Mi.fMin, Mi.isI, Mi.mIsI, Ms.mIsC, Mi.gNm, Mi.gNil, Mi.gCons, Mi.gTup, Mi.mSeq, Mi.mSkip, Mi.mBrk, Mi.mCont, Mi.mAsg, Mi.mPar, Mi.mExpr, Mi.mRet, Mi.mRetN, Mi.mIfS, Mi.tYes, Mi.wipe, Ms.mDct0, Ms.bAddI, List.map_cons, List.map_nil, List.nil_append, List.cons_append, List.length_cons, List.length_nil, List.replicate_succ, List.replicate_zero, List.getElem?_cons_zero, List.getElem?_cons_succ, List.getElem?_nil, List.set_cons_zero, List.set_cons_succ, Option.map_some, Option.map_none, if_true, if_false, reduceIte, decide_true, decide_false, Nat.reduceAdd, Nat.reduceLeDiff, List.mem_cons, List.mem_singleton, true_or, or_true, true_and, and_true, bne_self_eq_false, Bool.not_true, Bool.not_false, reduceCtorEq, Nat.reduceEqDiff, beq_self_eq_true, Nat.reduceLT, Int.reduceLT, Int.reduceLE, Int.reduceToNat, Int.reduceAdd, Int.reduceSub, Int.reduceMul, Int.reduceNeg, String.reduceEq, String.reduceBEq, List.lookup_cons, List.lookup_nil, Mi.big, Mi.putF, List.length_append, List.append_assoc, ite_true, ite_false, Bool.false_eq_true, and_self, not_true_eq_false, not_false_eq_true, Sum.inr.injEq, Sum.inl.injEq, Mi.look, Mi.put, List.any_cons, List.any_nil, Bool.or_true, Bool.or_false, Bool.true_or, Bool.false_or, List.find?_cons, Option.getD_some, Option.getD_none, Bool.bne_false, Bool.false_bne, Bool.true_bne, Bool.bne_true, Int.reduceEq, Int.reducePow, m_newer_root, b_newer_root, e1, hx]
theorem re_new (n0 n1 : Int) : ∃ d c, Re (newVal n0 n1) d c 0 ∧ c ≤ 100 := by
  unfold newVal
  split
  · exact ⟨_, _, re_non, by decide⟩
  · split
    · exact ⟨_, _, re_int (by decide), by decide⟩
    · exact ⟨_, _, re_int (by decide), by decide⟩
end
end Lw

namespace Lw
open Mi (Dv MO Sto Sl Rs bnd ME MT MA MS MF Fl MG MGs MI)
open Ms (mExtend mPar3 fMaxL mLc2 mLc2Loop gUnL)
open PySem (PyData)
section
variable {G G' : Sto} {hd hc hi hs h hb hq hn n : Nat} {s k : Int} {bl : List Dv} {its : List (Nat × Dv)}
/-- both judges and both newers at one moment -/
theorem Wr.both (W : Wr hd hc h hb hq hn hi hs s k bl its n G) : ∃ (x0 x1 v : Dv) (c0 c1 c2 : Nat) (d0 d1 d2 : PyData), Re x0 d0 c0 2 ∧ c0 ≤ 100000 ∧ Re x1 d1 c1 2 ∧ c1 ≤ 100000 ∧ Re v d2 c2 0 ∧ c2 ≤ 100 ∧
    (∀ G', Sm [] G G' → m_judge_root [.ref h, .int 0] G' = some (x0, G')) ∧ (∀ G', Sm [] G G' → m_judge_root [.ref h, .int 1] G' = some (x1, G')) ∧
    (∀ G', Sm [] G G' → ∃ G'', m_law_judge_root [.ref hi, .ref hs, .int 0] G' = some (x0, G'') ∧ Sm [] G' G'') ∧ (∀ G', Sm [] G G' → ∃ G'', m_law_judge_root [.ref hi, .ref hs, .int 1] G' = some (x1, G'') ∧ Sm [] G' G'') ∧
    (∀ G', Sm [] G G' → ∃ G'', m_newer_root [.ref h] G' = some (v, G'') ∧ Sm [] G' G'') ∧ (∀ G', Sm [] G G' → ∃ G'', m_law_newer [.ref hi, .ref hs] G' = some (v, G'') ∧ Sm [] G' G'') := by
  obtain ⟨x0, m0, j0, p0, l0, d0, c0, r0, q0⟩ := W.judge 0 (by decide)
  obtain ⟨x1, m1, j1, p1, l1, d1, c1, r1, q1⟩ := W.judge 1 (by decide)
  obtain ⟨d2, c2, r2, q2⟩ := re_new m0 m1
  refine ⟨x0, x1, newVal m0 m1, c0, c1, c2, d0, d1, d2, r0, q0, r1, q1, r2, q2, fun G' S => judge_root_ok (W.sm S) 0 (by decide) x0 (p0 G' S), fun G' S => judge_root_ok (W.sm S) 1 (by decide) x1 (p1 G' S), l0, l1, fun G' S => ?_, fun G' S => ?_⟩
  · obtain ⟨G2, e, S2⟩ := newer_ok h G' x0 x1 m0 m1 j0 j1 (fun G'' S' => p0 G'' (S.trans S')) (fun G'' S' => p1 G'' (S.trans S'))
    exact ⟨G2, newer_root_ok (W.sm S) _ e, S2⟩
  · exact law_newer_ok hi hs G' x0 x1 m0 m1 j0 j1 (fun G'' S' => l0 G'' (S.trans S')) (fun G'' S' => l1 G'' (S.trans S'))
end
end Lw

namespace Lw
open Mi (Dv MO Sto Sl Rs bnd ME MT MA MS MF Fl MG MGs MI)
open Ms (mExtend mPar3 fMaxL mLc2 mLc2Loop gUnL)
open PySem (PyData)
section
variable {G G' : Sto} {hd hc hi hs h hb hq hn n : Nat} {s k : Int} {bl : List Dv} {its : List (Nat × Dv)}
/-- what each way makes of the drawn blocks and the old ones -/
theorem rows_blk {ws os : List (List Int)} (h1 : ∀ w ∈ ws, Blk w) (h2 : ∀ w ∈ os, Blk w) (i : Nat) : ∀ w ∈ ws.take i ++ os.drop i, Blk w := fun w hw => by
  rcases (List.mem_append.mp hw : _ ∨ _) with q | q
  · exact h1 w (List.mem_of_mem_take q)
  · exact h2 w (List.mem_of_mem_drop q)
theorem set_blk {ws : List (List Int)} (h1 : ∀ w ∈ ws, Blk w) (i : Nat) {v : List Int} (hv : Blk v) : ∀ w ∈ ws.set i v, Blk w := fun w hw => by
  rcases List.mem_or_eq_of_mem_set hw with q | rfl
  · exact h1 w q
  · exact hv
theorem torn_blk {w o : List Int} (h1 : Blk w) (h2 : Blk o) (m : Nat) (hm : m ≤ 32) : Blk (w.take m ++ o.drop m) := by
  refine ⟨by rw [List.length_append, List.length_take, List.length_drop, h1.1, h2.1]; omega, fun z hz => ?_⟩
  rcases (List.mem_append.mp hz : _ ∨ _) with q | q
  · exact h1.2 z (List.mem_of_mem_take q)
  · exact h2.2 z (List.mem_of_mem_drop q)
theorem zero_blk : Blk (List.replicate 32 0) := ⟨by decide, fun z hz => by rw [(List.mem_replicate.mp hz).2]; decide⟩
/-- the old blocks of an area -/
theorem Wr.old (W : Wr hd hc h hb hq hn hi hs s k bl its n G) (area : Int) (ha : 0 ≤ area ∧ area ≤ 1) : ∃ (os : List (List Int)) (F : Nat), area * R' s k = (F : Int) ∧ Mi.cut (layAll bl its) (some (area * R' s k)) (some (area * R' s k + R' s k)) = os.map T ∧ (∀ w ∈ os, Blk w) ∧ (os.length : Int) = R' s k ∧ F + os.length ≤ bl.length := by
  have hr := R'_b W.hS W.hK
  have hp := prodB W.hS W.hK
  have mny := W.many
  have sz := W.sz
  obtain ⟨ws, ew, hw⟩ := allB_ws (lay_blk its bl W.bb fun p hp => (W.ib p hp).2)
  have lw : ws.length = bl.length := by rw [← lay_len its bl, ew, List.length_map]
  obtain ⟨R, hR⟩ : ∃ R : Nat, (R : Int) = R' s k := ⟨(R' s k).toNat, Int.toNat_of_nonneg (by omega)⟩
  obtain ⟨F, hF⟩ : ∃ F : Nat, area * R' s k = (F : Int) := ⟨(area * R' s k).toNat, (Int.toNat_of_nonneg (by rcases (show area = 0 ∨ area = 1 by omega) with rfl | rfl <;> omega)).symm⟩
  have hF2 : F + R ≤ ws.length := by rcases (show area = 0 ∨ area = 1 by omega) with rfl | rfl <;> omega
  refine ⟨(ws.drop F).take R, F, hF, ?_, fun w q => hw w (List.mem_of_mem_drop (List.mem_of_mem_take q)), by rw [List.length_take, List.length_drop]; omega, by rw [List.length_take, List.length_drop]; omega⟩
  rw [hF, show (F : Int) + R' s k = ((F + R : Nat) : Int) by omega, cut_mid _ F (F + R) (by omega) (by rw [ew, List.length_map]; omega), ew, List.map_take, List.map_drop, show F + R - F = R by omega]
end
end Lw

namespace Lw
open Mi (Dv MO Sto Sl Rs bnd ME MT MA MS MF Fl MG MGs MI)
open Ms (mExtend mPar3 fMaxL mLc2 mLc2Loop gUnL)
open PySem (PyData)
/-- the look's end, from the writes on -/
noncomputable def tl_law_1 : MS :=
    Mi.mSeq (Mi.mExpr (Mi.mCall m_law_write_all (Mi.mCons (Mi.mVar 5) (Mi.mCons (Mi.mVar 6) (Mi.mCons (Mi.mVar 11) (Mi.mCons (Mi.mVar 9) Mi.mNil)))))) (
    Mi.mSeq (Mi.mIfS (Mi.mTb (Mi.m2 (Mi.bEq false) (Mi.mVar 10) (Mi.mC (.int 6)))) (Mi.mExpr (Mi.mMeth 0 "force" m_Disk_force (Mi.mVar 5) Mi.mNil)) Mi.mSkip) (
    Mi.mSeq (Mi.mAsg (Mi.mLst false (Mi.mCons (Mi.mCall m_law_judge_root (Mi.mCons (Mi.mVar 6) (Mi.mCons (Mi.m2 Mi.bSubs (Mi.mVar 6) (Mi.mC (.str "stand"))) (Mi.mCons (Mi.mC (.int 0)) Mi.mNil)))) (Mi.mCons (Mi.mCall m_law_judge_root (Mi.mCons (Mi.mVar 6) (Mi.mCons (Mi.m2 Mi.bSubs (Mi.mVar 6) (Mi.mC (.str "stand"))) (Mi.mCons (Mi.mC (.int 1)) Mi.mNil)))) Mi.mNil))) (Mi.gNm 15)) (
    Mi.mSeq (Mi.mAsg (Mi.mLst false (Mi.mCons (Mi.mCall m_judge_root (Mi.mCons (Mi.mVar 5) (Mi.mCons (Mi.mC (.int 0)) Mi.mNil))) (Mi.mCons (Mi.mCallK m_judge_root [1, 0] Mi.mNil (Mi.mCons (Mi.mC (.int 1)) (Mi.mCons (Mi.mVar 5) Mi.mNil))) Mi.mNil))) (Mi.gNm 16)) (
    Mi.mSeq (Mi.mIfS (Mi.mTb (Mi.mReprEq true (Mi.mVar 16) (Mi.mVar 15))) (Mi.mRet (Mi.mC (.bl false))) Mi.mSkip) (
    Mi.mSeq (Mi.mAsg (Mi.mIf (Mi.mTb (Mi.m2 Mi.bLt (Mi.mVar 7) (Mi.mC (.int 3)))) (Mi.mCall m_newer_root (Mi.mCons (Mi.mVar 5) Mi.mNil)) (Mi.mCallK m_newer_root [0] Mi.mNil (Mi.mCons (Mi.mVar 5) Mi.mNil))) (Mi.gNm 16)) (
    Mi.mIfS (Mi.mTb (Mi.mReprEq true (Mi.mVar 16) (Mi.mCall m_law_newer (Mi.mCons (Mi.mVar 6) (Mi.mCons (Mi.m2 Mi.bSubs (Mi.mVar 6) (Mi.mC (.str "stand"))) Mi.mNil))))) (Mi.mRet (Mi.mC (.bl false))) Mi.mSkip))))))
section
variable {G G' : Sto} {hd hc hi hs h hb hq hn n : Nat} {s k : Int} {bl : List Dv} {its : List (Nat × Dv)}
theorem tail_ok (W : Wr hd hc h hb hq hn hi hs s k bl its n G) (hn' : n ≤ 4000) (F : Nat) (x : Dv) (ws : List (List Int)) (hx : ∀ G', Sm [hq, hn, hs] G G' → Mi.lstOf G' x = some (ws.map T)) (hw : ∀ w ∈ ws, Blk w) (hl : ws.length ≤ 30) (hb' : F + ws.length ≤ bl.length) (look way : Int) (a0 a2 a3 a4 a8 a12 a13 a14 a15 a16 : Option Dv) :
    ∃ bl' its' hq' hn' G' y15 y16, tl_law_1 [a0, some (.ref hd), a2, a3, a4, some (.ref h), some (.ref hi), some (.int look), a8, some x, some (.int way), some (.int F), a12, a13, a14, a15, a16] G = some (.nx, [a0, some (.ref hd), a2, a3, a4, some (.ref h), some (.ref hi), some (.int look), a8, some x, some (.int way), some (.int F), a12, a13, a14, y15, y16], G') ∧
      Wr hd hc h hb hq' hn' hi hs s k bl' its' (n + 30) G' := by
  obtain ⟨its1, G1, e1, W1, S1⟩ := write_all_ok W F x ws hx hw (by omega) hb'
  have W1 := W1.mono (m := n + 30) (by omega)
  have fin : ∀ {bl its hq hn G}, Wr hd hc h hb hq hn hi hs s k bl its (n + 30) G → ∃ x0 x1 v G2 G3 G4 G5, Mi.bSubs (.ref hi) (.str "stand") G = some (.ref hs, G) ∧ m_law_judge_root [.ref hi, .ref hs, .int 0] G = some (x0, G2) ∧ Mi.bSubs (.ref hi) (.str "stand") G2 = some (.ref hs, G2) ∧ m_law_judge_root [.ref hi, .ref hs, .int 1] G2 = some (x1, G3) ∧ m_judge_root [.ref h, .int 0] G3 = some (x0, G3) ∧ m_judge_root [.ref h, .int 1] G3 = some (x1, G3) ∧ (∃ d, Mi.pyT G3 (.fls [x0, x1]) = some d ∧ Mi.pyT G3 (.fls [x0, x1]) = some d ∧ Mi.okR d) ∧ m_newer_root [.ref h] G3 = some (v, G4) ∧ Mi.bSubs (.ref hi) (.str "stand") G4 = some (.ref hs, G4) ∧ m_law_newer [.ref hi, .ref hs] G4 = some (v, G5) ∧ (∃ d, Mi.pyT G4 v = some d ∧ Mi.pyT G5 v = some d ∧ Mi.okR d) ∧ Wr hd hc h hb hq hn hi hs s k bl its (n + 30) G5 := fun {bl its hq hn G} W => by
    obtain ⟨x0, x1, v, c0, c1, c2, d0, d1, d2, r0, q0, r1, q1, r2, q2, p0, p1, l0, l1, nw, ln⟩ := W.both
    obtain ⟨G2, e2, S2⟩ := l0 G Sm.refl
    obtain ⟨G3, e3, S3⟩ := l1 G2 S2
    have S03 := S2.trans S3
    obtain ⟨G4, e4, S4⟩ := nw G3 S03
    obtain ⟨G5, e5, S5⟩ := ln G4 (S03.trans S4)
    have rf := re_fls (re_cons r0 (re_cons r1 (re_nil (m := 2)) (Nat.le_refl _)) (Nat.le_refl _))
    exact ⟨x0, x1, v, G2, G3, G4, G5, sSt W.it, e2, sSt (W.sm S2).it, e3, p0 G3 S03, p1 G3 S03, rf.rq (by omega) (by decide) G3 G3, e4, sSt (W.sm (S03.trans S4)).it, e5, r2.rq (by omega) (by decide) G4 G5, W.sm ((S03.trans S4).trans S5)⟩
  by_cases hway : way = 6
  · obtain ⟨hq', hn'', G2, e2, W2⟩ := W1.force
    have W2 := W2.mono (m := n + 30) (by omega)
    obtain ⟨x0, x1, v, G3, G4, G5, G6, f1, f2, f3, f4, f5, f6, f7, f8, f9, f10, f11, f12⟩ := fin W2
    have ob := W1.ds.ob
    refine ⟨_, _, _, _, G6, some (.fls [x0, x1]), some v, ?_, f12⟩
    by_cases hlk : look < 3
    · simp only [Mi.bnd, Mi.mVar, Mi.mC, Mi.mkL, Mi.m2, Mi.m1, Mi.uNeg, Mi.bAdd, Mi.bSub, Mi.bDiv, Mi.bMod, Mi.bPow, Mi.sEq, Mi.bEq, Mi.bCmp, Mi.bLt, Mi.bLe, Mi.bGt, Mi.bGe, Mi.isNon, Mi.mIsN, Mi.mChain, Mi.mAnd, Mi.mOr, Mi.mNot, Mi.mTb, Mi.mTand, Mi.mTor, Mi.mTnot, Mi.mIf, Mi.mNil, Mi.mCons, Mi.mTup, Mi.mLst, Mi.mB, Mi.kOf, Mi.mFld, Mi.mCall, Mi.mCallK, Mi.mMeth, Mi.mMethK, Mi.mDef, Mi.fInt, Mi.fMax, Mi.fMin, Mi.isI, Mi.mIsI, Ms.mIsC, Mi.gNm, Mi.gNil, Mi.gCons, Mi.gTup, Mi.mSeq, Mi.mSkip, Mi.mBrk, Mi.mCont, Mi.mAsg, Mi.mPar, Mi.mExpr, Mi.mRet, Mi.mRetN, Mi.mIfS, Mi.tYes, Mi.wipe, Ms.mDct0, Ms.bAddI, List.map_cons, List.map_nil, List.nil_append, List.cons_append, List.length_cons, List.length_nil, List.replicate_succ, List.replicate_zero, List.getElem?_cons_zero, List.getElem?_cons_succ, List.getElem?_nil, List.set_cons_zero, List.set_cons_succ, Option.map_some, Option.map_none, if_true, if_false, reduceIte, decide_true, decide_false, Nat.reduceAdd, Nat.reduceLeDiff, List.mem_cons, List.mem_singleton, true_or, or_true, true_and, and_true, bne_self_eq_false, Bool.not_true, Bool.not_false, reduceCtorEq, Nat.reduceEqDiff, beq_self_eq_true, Nat.reduceLT, Int.reduceLT, Int.reduceLE, Int.reduceToNat, Int.reduceAdd, Int.reduceSub, Int.reduceMul, Int.reduceNeg, String.reduceEq, String.reduceBEq, List.lookup_cons, List.lookup_nil, Mi.big, Mi.putF, List.length_append, List.append_assoc, ite_true, ite_false, Bool.false_eq_true, and_self, not_true_eq_false, not_false_eq_true, Sum.inr.injEq, Sum.inl.injEq, Mi.look, Mi.put, List.any_cons, List.any_nil, Bool.or_true, Bool.or_false, Bool.true_or, Bool.false_or, List.find?_cons, Option.getD_some, Option.getD_none, Bool.bne_false, Bool.false_bne, Bool.true_bne, Bool.bne_true, Int.reduceEq, Int.reducePow, tl_law_1, e1, hway, e2, ob, dfs, f1, f2, f3, f4, f5, f6, Mi.mReprEq, if_pos f7, hlk, f8, f9, f10, if_pos f11, List.getD_cons_zero, List.getD_cons_succ]
    · simp only [Mi.bnd, Mi.mVar, Mi.mC, Mi.mkL, Mi.m2, Mi.m1, Mi.uNeg, Mi.bAdd, Mi.bSub, Mi.bDiv, Mi.bMod, Mi.bPow, Mi.sEq, Mi.bEq, Mi.bCmp, Mi.bLt, Mi.bLe, Mi.bGt, Mi.bGe, Mi.isNon, Mi.mIsN, Mi.mChain, Mi.mAnd, Mi.mOr, Mi.mNot, Mi.mTb, Mi.mTand, Mi.mTor, Mi.mTnot, Mi.mIf, Mi.mNil, Mi.mCons, Mi.mTup, Mi.mLst, Mi.mB, Mi.kOf, Mi.mFld, Mi.mCall, Mi.mCallK, Mi.mMeth, Mi.mMethK, Mi.mDef, Mi.fInt, Mi.fMax, Mi.fMin, Mi.isI, Mi.mIsI, Ms.mIsC, Mi.gNm, Mi.gNil, Mi.gCons, Mi.gTup, Mi.mSeq, Mi.mSkip, Mi.mBrk, Mi.mCont, Mi.mAsg, Mi.mPar, Mi.mExpr, Mi.mRet, Mi.mRetN, Mi.mIfS, Mi.tYes, Mi.wipe, Ms.mDct0, Ms.bAddI, List.map_cons, List.map_nil, List.nil_append, List.cons_append, List.length_cons, List.length_nil, List.replicate_succ, List.replicate_zero, List.getElem?_cons_zero, List.getElem?_cons_succ, List.getElem?_nil, List.set_cons_zero, List.set_cons_succ, Option.map_some, Option.map_none, if_true, if_false, reduceIte, decide_true, decide_false, Nat.reduceAdd, Nat.reduceLeDiff, List.mem_cons, List.mem_singleton, true_or, or_true, true_and, and_true, bne_self_eq_false, Bool.not_true, Bool.not_false, reduceCtorEq, Nat.reduceEqDiff, beq_self_eq_true, Nat.reduceLT, Int.reduceLT, Int.reduceLE, Int.reduceToNat, Int.reduceAdd, Int.reduceSub, Int.reduceMul, Int.reduceNeg, String.reduceEq, String.reduceBEq, List.lookup_cons, List.lookup_nil, Mi.big, Mi.putF, List.length_append, List.append_assoc, ite_true, ite_false, Bool.false_eq_true, and_self, not_true_eq_false, not_false_eq_true, Sum.inr.injEq, Sum.inl.injEq, Mi.look, Mi.put, List.any_cons, List.any_nil, Bool.or_true, Bool.or_false, Bool.true_or, Bool.false_or, List.find?_cons, Option.getD_some, Option.getD_none, Bool.bne_false, Bool.false_bne, Bool.true_bne, Bool.bne_true, Int.reduceEq, Int.reducePow, tl_law_1, e1, hway, e2, ob, dfs, f1, f2, f3, f4, f5, f6, Mi.mReprEq, if_pos f7, hlk, f8, f9, f10, if_pos f11, List.getD_cons_zero, List.getD_cons_succ]
  · obtain ⟨x0, x1, v, G3, G4, G5, G6, f1, f2, f3, f4, f5, f6, f7, f8, f9, f10, f11, f12⟩ := fin W1
    refine ⟨_, _, _, _, G6, some (.fls [x0, x1]), some v, ?_, f12⟩
    by_cases hlk : look < 3
    · simp only [Mi.bnd, Mi.mVar, Mi.mC, Mi.mkL, Mi.m2, Mi.m1, Mi.uNeg, Mi.bAdd, Mi.bSub, Mi.bDiv, Mi.bMod, Mi.bPow, Mi.sEq, Mi.bEq, Mi.bCmp, Mi.bLt, Mi.bLe, Mi.bGt, Mi.bGe, Mi.isNon, Mi.mIsN, Mi.mChain, Mi.mAnd, Mi.mOr, Mi.mNot, Mi.mTb, Mi.mTand, Mi.mTor, Mi.mTnot, Mi.mIf, Mi.mNil, Mi.mCons, Mi.mTup, Mi.mLst, Mi.mB, Mi.kOf, Mi.mFld, Mi.mCall, Mi.mCallK, Mi.mMeth, Mi.mMethK, Mi.mDef, Mi.fInt, Mi.fMax, Mi.fMin, Mi.isI, Mi.mIsI, Ms.mIsC, Mi.gNm, Mi.gNil, Mi.gCons, Mi.gTup, Mi.mSeq, Mi.mSkip, Mi.mBrk, Mi.mCont, Mi.mAsg, Mi.mPar, Mi.mExpr, Mi.mRet, Mi.mRetN, Mi.mIfS, Mi.tYes, Mi.wipe, Ms.mDct0, Ms.bAddI, List.map_cons, List.map_nil, List.nil_append, List.cons_append, List.length_cons, List.length_nil, List.replicate_succ, List.replicate_zero, List.getElem?_cons_zero, List.getElem?_cons_succ, List.getElem?_nil, List.set_cons_zero, List.set_cons_succ, Option.map_some, Option.map_none, if_true, if_false, reduceIte, decide_true, decide_false, Nat.reduceAdd, Nat.reduceLeDiff, List.mem_cons, List.mem_singleton, true_or, or_true, true_and, and_true, bne_self_eq_false, Bool.not_true, Bool.not_false, reduceCtorEq, Nat.reduceEqDiff, beq_self_eq_true, Nat.reduceLT, Int.reduceLT, Int.reduceLE, Int.reduceToNat, Int.reduceAdd, Int.reduceSub, Int.reduceMul, Int.reduceNeg, String.reduceEq, String.reduceBEq, List.lookup_cons, List.lookup_nil, Mi.big, Mi.putF, List.length_append, List.append_assoc, ite_true, ite_false, Bool.false_eq_true, and_self, not_true_eq_false, not_false_eq_true, Sum.inr.injEq, Sum.inl.injEq, Mi.look, Mi.put, List.any_cons, List.any_nil, Bool.or_true, Bool.or_false, Bool.true_or, Bool.false_or, List.find?_cons, Option.getD_some, Option.getD_none, Bool.bne_false, Bool.false_bne, Bool.true_bne, Bool.bne_true, Int.reduceEq, Int.reducePow, tl_law_1, e1, hway, f1, f2, f3, f4, f5, f6, Mi.mReprEq, if_pos f7, hlk, f8, f9, f10, if_pos f11, List.getD_cons_zero, List.getD_cons_succ]
    · simp only [Mi.bnd, Mi.mVar, Mi.mC, Mi.mkL, Mi.m2, Mi.m1, Mi.uNeg, Mi.bAdd, Mi.bSub, Mi.bDiv, Mi.bMod, Mi.bPow, Mi.sEq, Mi.bEq, Mi.bCmp, Mi.bLt, Mi.bLe, Mi.bGt, Mi.bGe, Mi.isNon, Mi.mIsN, Mi.mChain, Mi.mAnd, Mi.mOr, Mi.mNot, Mi.mTb, Mi.mTand, Mi.mTor, Mi.mTnot, Mi.mIf, Mi.mNil, Mi.mCons, Mi.mTup, Mi.mLst, Mi.mB, Mi.kOf, Mi.mFld, Mi.mCall, Mi.mCallK, Mi.mMeth, Mi.mMethK, Mi.mDef, Mi.fInt, Mi.fMax, Mi.fMin, Mi.isI, Mi.mIsI, Ms.mIsC, Mi.gNm, Mi.gNil, Mi.gCons, Mi.gTup, Mi.mSeq, Mi.mSkip, Mi.mBrk, Mi.mCont, Mi.mAsg, Mi.mPar, Mi.mExpr, Mi.mRet, Mi.mRetN, Mi.mIfS, Mi.tYes, Mi.wipe, Ms.mDct0, Ms.bAddI, List.map_cons, List.map_nil, List.nil_append, List.cons_append, List.length_cons, List.length_nil, List.replicate_succ, List.replicate_zero, List.getElem?_cons_zero, List.getElem?_cons_succ, List.getElem?_nil, List.set_cons_zero, List.set_cons_succ, Option.map_some, Option.map_none, if_true, if_false, reduceIte, decide_true, decide_false, Nat.reduceAdd, Nat.reduceLeDiff, List.mem_cons, List.mem_singleton, true_or, or_true, true_and, and_true, bne_self_eq_false, Bool.not_true, Bool.not_false, reduceCtorEq, Nat.reduceEqDiff, beq_self_eq_true, Nat.reduceLT, Int.reduceLT, Int.reduceLE, Int.reduceToNat, Int.reduceAdd, Int.reduceSub, Int.reduceMul, Int.reduceNeg, String.reduceEq, String.reduceBEq, List.lookup_cons, List.lookup_nil, Mi.big, Mi.putF, List.length_append, List.append_assoc, ite_true, ite_false, Bool.false_eq_true, and_self, not_true_eq_false, not_false_eq_true, Sum.inr.injEq, Sum.inl.injEq, Mi.look, Mi.put, List.any_cons, List.any_nil, Bool.or_true, Bool.or_false, Bool.true_or, Bool.false_or, List.find?_cons, Option.getD_some, Option.getD_none, Bool.bne_false, Bool.false_bne, Bool.true_bne, Bool.bne_true, Int.reduceEq, Int.reducePow, tl_law_1, e1, hway, f1, f2, f3, f4, f5, f6, Mi.mReprEq, if_pos f7, hlk, f8, f9, f10, if_pos f11, List.getD_cons_zero, List.getD_cons_succ]
end
end Lw

namespace Lw
open Mi (Dv MO Sto Sl Rs bnd ME MT MA MS MF Fl MG MGs MI)
open Ms (mExtend mPar3 fMaxL mLc2 mLc2Loop gUnL)
open PySem (PyData)
/-- what the ways do -/
noncomputable def way_law_1 : MS :=
    (Mi.mIfS (Mi.mTb (Mi.m2 (Mi.bEq false) (Mi.mVar 10) (Mi.mC (.int 0)))) (Mi.mSetI (Mi.mVar 9) (Mi.mVar 12) (Mi.mCall m_law_bent_block (Mi.mCons (Mi.mVar 1) (Mi.mCons (Mi.mVar 6) (Mi.mCons (Mi.m2 Mi.bSubs (Mi.mVar 9) (Mi.mVar 12)) Mi.mNil))))) (Mi.mIfS (Mi.mTb (Mi.m2 (Mi.bEq false) (Mi.mVar 10) (Mi.mC (.int 1)))) (Mi.mSeq (Mi.mAsg (Mi.m2 (Mi.bAdd false) (Mi.mC (.int 1)) (Mi.mCall m_law_draw (Mi.mCons (Mi.mVar 1) (Mi.mCons (Mi.mC (.int 31)) Mi.mNil)))) (Mi.gNm 14)) (
    Mi.mSetI (Mi.mVar 9) (Mi.mVar 12) (Mi.m2 (Mi.bAdd false) (Mi.mSlice false (Mi.m2 Mi.bSubs (Mi.mVar 9) (Mi.mVar 12)) none (some (Mi.mVar 14))) (Mi.mSlice false (Mi.m2 Mi.bSubs (Mi.mVar 13) (Mi.mVar 12)) (some (Mi.mVar 14)) none)))) (Mi.mIfS (Mi.mTb (Mi.m2 (Mi.bEq false) (Mi.mVar 10) (Mi.mC (.int 2)))) (Mi.mAsg (Mi.m2 (Mi.bAdd false) (Mi.mSlice false (Mi.mVar 9) none (some (Mi.mVar 12))) (Mi.mSlice false (Mi.mVar 13) (some (Mi.mVar 12)) none)) (Mi.gNm 9)) (Mi.mIfS (Mi.mTb (Mi.m2 (Mi.bEq false) (Mi.mVar 10) (Mi.mC (.int 3)))) (Mi.mAsg (Mi.mRev false (Mi.mVar 9)) (Mi.gNm 9)) (Mi.mIfS (Mi.mTand (Mi.mTb (Mi.m2 (Mi.bEq false) (Mi.mVar 10) (Mi.mC (.int 4)))) (Mi.mTb (Mi.m2 Mi.bGt (Mi.mVar 7) (Mi.mC (.int 2))))) (Mi.mSetI (Mi.mVar 9) (Mi.mVar 12) (Mi.m2 (Mi.bMul false) (Mi.mTup (Mi.mCons (Mi.mC (.int 0)) Mi.mNil)) (Mi.mC (.int 32)))) Mi.mSkip)))))
section
variable {G G' : Sto} {hd hc hi hs h hb hq hn n : Nat} {s k : Int} {bl : List Dv} {its : List (Nat × Dv)}
theorem ref_at {xs : List Dv} {x : Dv} {hx : Nat} (j : Nat) (e : G[hx]? = some (.lst xs)) (h : xs[j]? = some x) : Mi.bSubs (.ref hx) (.int (j : Nat)) G = some (x, G) := by
  have hl : j < xs.length := (List.getElem?_eq_some_iff.mp h).1
  have e' : Mi.atI xs (j : Nat) = some x := by
    unfold Mi.atI Mi.ixN
    rw [if_pos (by omega)]; rw [if_pos (by omega)]
    exact h
  simp [Mi.bSubs, Mi.bGet, Mi.bIx, Mi.lstOf, Mi.seqOf, e, e']
/-- the blocks that are laid, by the way -/
theorem way_ok (W : Wr hd hc h hb hq hn hi hs s k bl its n G) {ws os : List (List Int)} {hx : Nat} (e : G[hx]? = some (.lst (ws.map T))) (m : ∀ x ∈ [h, hb, hq, hn, hi, hs, hd, hc], x ≠ hx) (hw : ∀ w ∈ ws, Blk w) (ho : ∀ w ∈ os, Blk w) (lo : os.length = ws.length) (i : Nat) (hi' : i < ws.length) (hl : ws.length ≤ 30) (look way : Int) (a0 a2 a3 a4 a8 a11 a14 a15 a16 : Option Dv) :
    ∃ (x : Dv) (ws' : List (List Int)) (G' : Sto) (y14 : Option Dv), way_law_1 [a0, some (.ref hd), a2, a3, a4, some (.ref h), some (.ref hi), some (.int look), a8, some (.ref hx), some (.int way), a11, some (.int i), some (.fls (os.map T)), a14, a15, a16] G = some (.nx, [a0, some (.ref hd), a2, a3, a4, some (.ref h), some (.ref hi), some (.int look), a8, some x, some (.int way), a11, some (.int i), some (.fls (os.map T)), y14, a15, a16], G') ∧
      Wr hd hc h hb hq hn hi hs s k bl its n G' ∧ (∀ G'', Sm [hq, hn, hs] G' G'' → Mi.lstOf G'' x = some (ws'.map T)) ∧ (∀ w ∈ ws', Blk w) ∧ ws'.length = ws.length := by
  have ni : hx ∉ [hq, hn, hs] := by
    have q1 := m hq (by simp)
    have q2 := m hn (by simp)
    have q3 := m hs (by simp)
    simp only [List.mem_cons, List.not_mem_nil, or_false]
    omega
  have keep : ∀ {G1 : Sto} {l : List (List Int)}, G1[hx]? = some (.lst (l.map T)) → ∀ G'', Sm [hq, hn, hs] G1 G'' → Mi.lstOf G'' (.ref hx) = some (l.map T) := fun q G'' S => by
    have := S.get ni q
    simp only [Mi.lstOf, this]
  have nd : hx ∉ [hd, hc] := by
    have q1 := m hd (by simp)
    have q2 := m hc (by simp)
    simp only [List.mem_cons, List.not_mem_nil, or_false]
    omega
  have ei : (ws.map T)[i]? = some (T ws[i]) := by rw [List.getElem?_map, List.getElem?_eq_getElem hi']; rfl
  have eo : (os.map T)[i]? = some (T (os[i]'(by omega))) := by rw [List.getElem?_map, List.getElem?_eq_getElem (by omega)]; rfl
  have b1 := hw ws[i] (List.getElem_mem _)
  have b2 := ho (os[i]'(by omega)) (List.getElem_mem _)
  have ix : Mi.ixN (ws.map T).length (i : Int) = some i := ixN_nat (by rw [List.length_map]; exact hi')
  by_cases h0 : way = 0
  · obtain ⟨w', G1, e1, B, d1⟩ := bent_ok W b1
    have g1 := d1.s.get nd e
    refine ⟨.ref hx, ws.set i w', G1.set hx (.lst ((ws.map T).set i (T w'))), a14, ?_, (W.dr d1).off (xs := [hx]) (sm_set (by simp)) (fun x q => by simpa using m x q), keep (by rw [List.map_set]; exact set_at g1), set_blk hw i B, List.length_set⟩
    simp only [Mi.bnd, Mi.mVar, Mi.mC, Mi.mkL, Mi.m2, Mi.m1, Mi.uNeg, Mi.bAdd, Mi.bSub, Mi.bDiv, Mi.bMod, Mi.bPow, Mi.sEq, Mi.bEq, Mi.bCmp, Mi.bLt, Mi.bLe, Mi.bGt, Mi.bGe, Mi.isNon, Mi.mIsN, Mi.mChain, Mi.mAnd, Mi.mOr, Mi.mNot, Mi.mTb, Mi.mTand, Mi.mTor, Mi.mTnot, Mi.mIf, Mi.mNil, Mi.mCons, Mi.mTup, Mi.mLst, Mi.mB, Mi.kOf, Mi.mFld, Mi.mCall, Mi.mCallK, Mi.mMeth, Mi.mMethK, Mi.mDef, Mi.fInt, Mi.fMax, Mi.fMin, Mi.isI, Mi.mIsI, Ms.mIsC, Mi.gNm, Mi.gNil, Mi.gCons, Mi.gTup, Mi.mSeq, Mi.mSkip, Mi.mBrk, Mi.mCont, Mi.mAsg, Mi.mPar, Mi.mExpr, Mi.mRet, Mi.mRetN, Mi.mIfS, Mi.tYes, Mi.wipe, Ms.mDct0, Ms.bAddI, List.map_cons, List.map_nil, List.nil_append, List.cons_append, List.length_cons, List.length_nil, List.replicate_succ, List.replicate_zero, List.getElem?_cons_zero, List.getElem?_cons_succ, List.getElem?_nil, List.set_cons_zero, List.set_cons_succ, Option.map_some, Option.map_none, if_true, if_false, reduceIte, decide_true, decide_false, Nat.reduceAdd, Nat.reduceLeDiff, List.mem_cons, List.mem_singleton, true_or, or_true, true_and, and_true, bne_self_eq_false, Bool.not_true, Bool.not_false, reduceCtorEq, Nat.reduceEqDiff, beq_self_eq_true, Nat.reduceLT, Int.reduceLT, Int.reduceLE, Int.reduceToNat, Int.reduceAdd, Int.reduceSub, Int.reduceMul, Int.reduceNeg, String.reduceEq, String.reduceBEq, List.lookup_cons, List.lookup_nil, Mi.big, Mi.putF, List.length_append, List.append_assoc, ite_true, ite_false, Bool.false_eq_true, and_self, not_true_eq_false, not_false_eq_true, Sum.inr.injEq, Sum.inl.injEq, Mi.look, Mi.put, List.any_cons, List.any_nil, Bool.or_true, Bool.or_false, Bool.true_or, Bool.false_or, List.find?_cons, Option.getD_some, Option.getD_none, Bool.bne_false, Bool.false_bne, Bool.true_bne, Bool.bne_true, Int.reduceEq, Int.reducePow, way_law_1, h0, ref_at i e ei, e1, Mi.mSetI, g1, ix]
  by_cases h1 : way = 1
  · obtain ⟨r, G1, e1, a1, c1, d1⟩ := draw W.dk 31 (by decide) (by decide)
    obtain ⟨q, hq⟩ : ∃ q : Nat, 1 + r = (q : Int) := ⟨(1 + r).toNat, (Int.toNat_of_nonneg (by omega)).symm⟩
    have g1 := d1.s.get nd e
    have l1 : (ws[i].map Dv.int).length = 32 := by rw [List.length_map, b1.1]
    have l2 : ((os[i]'(by omega)).map Dv.int).length = 32 := by rw [List.length_map, b2.1]
    have c2 := cut_lo (ws[i].map Dv.int) q (by omega)
    have c3 := cut_hi ((os[i]'(by omega)).map Dv.int) q (by omega)
    have lz : ((ws[i].map Dv.int).take q).length + (((os[i]'(by omega)).map Dv.int).drop q).length ≤ 16777216 := by rw [List.length_take, List.length_drop]; omega
    have B := torn_blk b1 b2 q (by omega)
    have ez : T (ws[i].take q ++ (os[i]'(by omega)).drop q) = .tup ((ws[i].map Dv.int).take q ++ ((os[i]'(by omega)).map Dv.int).drop q) := by rw [show ∀ z : List Int, T z = .tup (z.map Dv.int) from fun _ => rfl, List.map_append, List.map_take, List.map_drop]
    refine ⟨.ref hx, ws.set i (ws[i].take q ++ (os[i]'(by omega)).drop q), G1.set hx (.lst ((ws.map T).set i (T (ws[i].take q ++ (os[i]'(by omega)).drop q)))), some (.int q), ?_, (W.dr d1).off (xs := [hx]) (sm_set (by simp)) (fun x q => by simpa using m x q), keep (by rw [List.map_set]; exact set_at g1), set_blk hw i B, List.length_set⟩
    rw [ez]
    simp only [Mi.bnd, Mi.mVar, Mi.mC, Mi.mkL, Mi.m2, Mi.m1, Mi.uNeg, Mi.bAdd, Mi.bSub, Mi.bDiv, Mi.bMod, Mi.bPow, Mi.sEq, Mi.bEq, Mi.bCmp, Mi.bLt, Mi.bLe, Mi.bGt, Mi.bGe, Mi.isNon, Mi.mIsN, Mi.mChain, Mi.mAnd, Mi.mOr, Mi.mNot, Mi.mTb, Mi.mTand, Mi.mTor, Mi.mTnot, Mi.mIf, Mi.mNil, Mi.mCons, Mi.mTup, Mi.mLst, Mi.mB, Mi.kOf, Mi.mFld, Mi.mCall, Mi.mCallK, Mi.mMeth, Mi.mMethK, Mi.mDef, Mi.fInt, Mi.fMax, Mi.fMin, Mi.isI, Mi.mIsI, Ms.mIsC, Mi.gNm, Mi.gNil, Mi.gCons, Mi.gTup, Mi.mSeq, Mi.mSkip, Mi.mBrk, Mi.mCont, Mi.mAsg, Mi.mPar, Mi.mExpr, Mi.mRet, Mi.mRetN, Mi.mIfS, Mi.tYes, Mi.wipe, Ms.mDct0, Ms.bAddI, List.map_cons, List.map_nil, List.nil_append, List.cons_append, List.length_cons, List.length_nil, List.replicate_succ, List.replicate_zero, List.getElem?_cons_zero, List.getElem?_cons_succ, List.getElem?_nil, List.set_cons_zero, List.set_cons_succ, Option.map_some, Option.map_none, if_true, if_false, reduceIte, decide_true, decide_false, Nat.reduceAdd, Nat.reduceLeDiff, List.mem_cons, List.mem_singleton, true_or, or_true, true_and, and_true, bne_self_eq_false, Bool.not_true, Bool.not_false, reduceCtorEq, Nat.reduceEqDiff, beq_self_eq_true, Nat.reduceLT, Int.reduceLT, Int.reduceLE, Int.reduceToNat, Int.reduceAdd, Int.reduceSub, Int.reduceMul, Int.reduceNeg, String.reduceEq, String.reduceBEq, List.lookup_cons, List.lookup_nil, Mi.big, Mi.putF, List.length_append, List.append_assoc, ite_true, ite_false, Bool.false_eq_true, and_self, not_true_eq_false, not_false_eq_true, Sum.inr.injEq, Sum.inl.injEq, Mi.look, Mi.put, List.any_cons, List.any_nil, Bool.or_true, Bool.or_false, Bool.true_or, Bool.false_or, List.find?_cons, Option.getD_some, Option.getD_none, Bool.bne_false, Bool.false_bne, Bool.true_bne, Bool.bne_true, Int.reduceEq, Int.reducePow, way_law_1, h0, h1, e1, hq, ref_at i g1 ei, atN i eo, Mi.mSlice, Mi.mO, c2, c3, lz, Mi.mSetI, g1, ix]
  by_cases h2 : way = 2
  · have c2 := cut_lo (ws.map T) i (by rw [List.length_map]; omega)
    have c3 := cut_hi (os.map T) i (by rw [List.length_map]; omega)
    have lz : ((ws.map T).take i).length + ((os.map T).drop i).length ≤ 16777216 := by rw [List.length_take, List.length_drop, List.length_map, List.length_map]; omega
    refine ⟨.fls ((ws.map T).take i ++ (os.map T).drop i), ws.take i ++ os.drop i, G, a14, ?_, W, fun G'' _ => ?_, rows_blk hw ho i, by rw [List.length_append, List.length_take, List.length_drop]; omega⟩
    · simp only [Mi.bnd, Mi.mVar, Mi.mC, Mi.mkL, Mi.m2, Mi.m1, Mi.uNeg, Mi.bAdd, Mi.bSub, Mi.bDiv, Mi.bMod, Mi.bPow, Mi.sEq, Mi.bEq, Mi.bCmp, Mi.bLt, Mi.bLe, Mi.bGt, Mi.bGe, Mi.isNon, Mi.mIsN, Mi.mChain, Mi.mAnd, Mi.mOr, Mi.mNot, Mi.mTb, Mi.mTand, Mi.mTor, Mi.mTnot, Mi.mIf, Mi.mNil, Mi.mCons, Mi.mTup, Mi.mLst, Mi.mB, Mi.kOf, Mi.mFld, Mi.mCall, Mi.mCallK, Mi.mMeth, Mi.mMethK, Mi.mDef, Mi.fInt, Mi.fMax, Mi.fMin, Mi.isI, Mi.mIsI, Ms.mIsC, Mi.gNm, Mi.gNil, Mi.gCons, Mi.gTup, Mi.mSeq, Mi.mSkip, Mi.mBrk, Mi.mCont, Mi.mAsg, Mi.mPar, Mi.mExpr, Mi.mRet, Mi.mRetN, Mi.mIfS, Mi.tYes, Mi.wipe, Ms.mDct0, Ms.bAddI, List.map_cons, List.map_nil, List.nil_append, List.cons_append, List.length_cons, List.length_nil, List.replicate_succ, List.replicate_zero, List.getElem?_cons_zero, List.getElem?_cons_succ, List.getElem?_nil, List.set_cons_zero, List.set_cons_succ, Option.map_some, Option.map_none, if_true, if_false, reduceIte, decide_true, decide_false, Nat.reduceAdd, Nat.reduceLeDiff, List.mem_cons, List.mem_singleton, true_or, or_true, true_and, and_true, bne_self_eq_false, Bool.not_true, Bool.not_false, reduceCtorEq, Nat.reduceEqDiff, beq_self_eq_true, Nat.reduceLT, Int.reduceLT, Int.reduceLE, Int.reduceToNat, Int.reduceAdd, Int.reduceSub, Int.reduceMul, Int.reduceNeg, String.reduceEq, String.reduceBEq, List.lookup_cons, List.lookup_nil, Mi.big, Mi.putF, List.length_append, List.append_assoc, ite_true, ite_false, Bool.false_eq_true, and_self, not_true_eq_false, not_false_eq_true, Sum.inr.injEq, Sum.inl.injEq, Mi.look, Mi.put, List.any_cons, List.any_nil, Bool.or_true, Bool.or_false, Bool.true_or, Bool.false_or, List.find?_cons, Option.getD_some, Option.getD_none, Bool.bne_false, Bool.false_bne, Bool.true_bne, Bool.bne_true, Int.reduceEq, Int.reducePow, way_law_1, h0, h1, h2, Mi.mSlice, Mi.mO, Mi.lstOf, e, c2, c3, lz]
    · simp only [Mi.lstOf, List.map_append, List.map_take, List.map_drop]
  by_cases h3 : way = 3
  · refine ⟨.fls (ws.map T).reverse, ws.reverse, G, a14, ?_, W, fun G'' _ => ?_, fun w q => hw w (List.mem_reverse.mp q), List.length_reverse⟩
    · simp only [Mi.bnd, Mi.mVar, Mi.mC, Mi.mkL, Mi.m2, Mi.m1, Mi.uNeg, Mi.bAdd, Mi.bSub, Mi.bDiv, Mi.bMod, Mi.bPow, Mi.sEq, Mi.bEq, Mi.bCmp, Mi.bLt, Mi.bLe, Mi.bGt, Mi.bGe, Mi.isNon, Mi.mIsN, Mi.mChain, Mi.mAnd, Mi.mOr, Mi.mNot, Mi.mTb, Mi.mTand, Mi.mTor, Mi.mTnot, Mi.mIf, Mi.mNil, Mi.mCons, Mi.mTup, Mi.mLst, Mi.mB, Mi.kOf, Mi.mFld, Mi.mCall, Mi.mCallK, Mi.mMeth, Mi.mMethK, Mi.mDef, Mi.fInt, Mi.fMax, Mi.fMin, Mi.isI, Mi.mIsI, Ms.mIsC, Mi.gNm, Mi.gNil, Mi.gCons, Mi.gTup, Mi.mSeq, Mi.mSkip, Mi.mBrk, Mi.mCont, Mi.mAsg, Mi.mPar, Mi.mExpr, Mi.mRet, Mi.mRetN, Mi.mIfS, Mi.tYes, Mi.wipe, Ms.mDct0, Ms.bAddI, List.map_cons, List.map_nil, List.nil_append, List.cons_append, List.length_cons, List.length_nil, List.replicate_succ, List.replicate_zero, List.getElem?_cons_zero, List.getElem?_cons_succ, List.getElem?_nil, List.set_cons_zero, List.set_cons_succ, Option.map_some, Option.map_none, if_true, if_false, reduceIte, decide_true, decide_false, Nat.reduceAdd, Nat.reduceLeDiff, List.mem_cons, List.mem_singleton, true_or, or_true, true_and, and_true, bne_self_eq_false, Bool.not_true, Bool.not_false, reduceCtorEq, Nat.reduceEqDiff, beq_self_eq_true, Nat.reduceLT, Int.reduceLT, Int.reduceLE, Int.reduceToNat, Int.reduceAdd, Int.reduceSub, Int.reduceMul, Int.reduceNeg, String.reduceEq, String.reduceBEq, List.lookup_cons, List.lookup_nil, Mi.big, Mi.putF, List.length_append, List.append_assoc, ite_true, ite_false, Bool.false_eq_true, and_self, not_true_eq_false, not_false_eq_true, Sum.inr.injEq, Sum.inl.injEq, Mi.look, Mi.put, List.any_cons, List.any_nil, Bool.or_true, Bool.or_false, Bool.true_or, Bool.false_or, List.find?_cons, Option.getD_some, Option.getD_none, Bool.bne_false, Bool.false_bne, Bool.true_bne, Bool.bne_true, Int.reduceEq, Int.reducePow, way_law_1, h0, h1, h2, h3, Mi.mRev, Mi.lstOf, e]
    · simp only [Mi.lstOf, List.map_reverse]
  by_cases h4 : way = 4 ∧ 2 < look
  · have mt : ∀ (G : Sto), Mi.bMul false (.tup [.int 0]) (.int 32) G = some (T (List.replicate 32 0), G) := fun G => rfl
    refine ⟨.ref hx, ws.set i (List.replicate 32 0), G.set hx (.lst ((ws.map T).set i (T (List.replicate 32 0)))), a14, ?_, W.off (xs := [hx]) (sm_set (by simp)) (fun x q => by simpa using m x q), keep (by rw [List.map_set]; exact set_at e), set_blk hw i zero_blk, List.length_set⟩
    obtain ⟨h4a, h4b⟩ := h4
    generalize T (List.replicate 32 0) = Z at mt
    simp only [Mi.bnd, Mi.mVar, Mi.mC, Mi.mkL, Mi.m2, Mi.m1, Mi.uNeg, Mi.bAdd, Mi.bSub, Mi.bDiv, Mi.bMod, Mi.bPow, Mi.sEq, Mi.bEq, Mi.bCmp, Mi.bLt, Mi.bLe, Mi.bGt, Mi.bGe, Mi.isNon, Mi.mIsN, Mi.mChain, Mi.mAnd, Mi.mOr, Mi.mNot, Mi.mTb, Mi.mTand, Mi.mTor, Mi.mTnot, Mi.mIf, Mi.mNil, Mi.mCons, Mi.mTup, Mi.mLst, Mi.mB, Mi.kOf, Mi.mFld, Mi.mCall, Mi.mCallK, Mi.mMeth, Mi.mMethK, Mi.mDef, Mi.fInt, Mi.fMax, Mi.fMin, Mi.isI, Mi.mIsI, Ms.mIsC, Mi.gNm, Mi.gNil, Mi.gCons, Mi.gTup, Mi.mSeq, Mi.mSkip, Mi.mBrk, Mi.mCont, Mi.mAsg, Mi.mPar, Mi.mExpr, Mi.mRet, Mi.mRetN, Mi.mIfS, Mi.tYes, Mi.wipe, Ms.mDct0, Ms.bAddI, List.map_cons, List.map_nil, List.nil_append, List.cons_append, List.length_cons, List.length_nil, List.replicate_succ, List.replicate_zero, List.getElem?_cons_zero, List.getElem?_cons_succ, List.getElem?_nil, List.set_cons_zero, List.set_cons_succ, Option.map_some, Option.map_none, if_true, if_false, reduceIte, decide_true, decide_false, Nat.reduceAdd, Nat.reduceLeDiff, List.mem_cons, List.mem_singleton, true_or, or_true, true_and, and_true, bne_self_eq_false, Bool.not_true, Bool.not_false, reduceCtorEq, Nat.reduceEqDiff, beq_self_eq_true, Nat.reduceLT, Int.reduceLT, Int.reduceLE, Int.reduceToNat, Int.reduceAdd, Int.reduceSub, Int.reduceMul, Int.reduceNeg, String.reduceEq, String.reduceBEq, List.lookup_cons, List.lookup_nil, Mi.big, Mi.putF, List.length_append, List.append_assoc, ite_true, ite_false, Bool.false_eq_true, and_self, not_true_eq_false, not_false_eq_true, Sum.inr.injEq, Sum.inl.injEq, Mi.look, Mi.put, List.any_cons, List.any_nil, Bool.or_true, Bool.or_false, Bool.true_or, Bool.false_or, List.find?_cons, Option.getD_some, Option.getD_none, Bool.bne_false, Bool.false_bne, Bool.true_bne, Bool.bne_true, Int.reduceEq, Int.reducePow, way_law_1, h0, h1, h2, h3, h4a, h4b, mt, Mi.mSetI, e, ix]
  · refine ⟨.ref hx, ws, G, a14, ?_, W, keep e, hw, rfl⟩
    by_cases h4a : way = 4
    · have h4b : ¬ 2 < look := fun z => h4 ⟨h4a, z⟩
      simp only [Mi.bnd, Mi.mVar, Mi.mC, Mi.mkL, Mi.m2, Mi.m1, Mi.uNeg, Mi.bAdd, Mi.bSub, Mi.bDiv, Mi.bMod, Mi.bPow, Mi.sEq, Mi.bEq, Mi.bCmp, Mi.bLt, Mi.bLe, Mi.bGt, Mi.bGe, Mi.isNon, Mi.mIsN, Mi.mChain, Mi.mAnd, Mi.mOr, Mi.mNot, Mi.mTb, Mi.mTand, Mi.mTor, Mi.mTnot, Mi.mIf, Mi.mNil, Mi.mCons, Mi.mTup, Mi.mLst, Mi.mB, Mi.kOf, Mi.mFld, Mi.mCall, Mi.mCallK, Mi.mMeth, Mi.mMethK, Mi.mDef, Mi.fInt, Mi.fMax, Mi.fMin, Mi.isI, Mi.mIsI, Ms.mIsC, Mi.gNm, Mi.gNil, Mi.gCons, Mi.gTup, Mi.mSeq, Mi.mSkip, Mi.mBrk, Mi.mCont, Mi.mAsg, Mi.mPar, Mi.mExpr, Mi.mRet, Mi.mRetN, Mi.mIfS, Mi.tYes, Mi.wipe, Ms.mDct0, Ms.bAddI, List.map_cons, List.map_nil, List.nil_append, List.cons_append, List.length_cons, List.length_nil, List.replicate_succ, List.replicate_zero, List.getElem?_cons_zero, List.getElem?_cons_succ, List.getElem?_nil, List.set_cons_zero, List.set_cons_succ, Option.map_some, Option.map_none, if_true, if_false, reduceIte, decide_true, decide_false, Nat.reduceAdd, Nat.reduceLeDiff, List.mem_cons, List.mem_singleton, true_or, or_true, true_and, and_true, bne_self_eq_false, Bool.not_true, Bool.not_false, reduceCtorEq, Nat.reduceEqDiff, beq_self_eq_true, Nat.reduceLT, Int.reduceLT, Int.reduceLE, Int.reduceToNat, Int.reduceAdd, Int.reduceSub, Int.reduceMul, Int.reduceNeg, String.reduceEq, String.reduceBEq, List.lookup_cons, List.lookup_nil, Mi.big, Mi.putF, List.length_append, List.append_assoc, ite_true, ite_false, Bool.false_eq_true, and_self, not_true_eq_false, not_false_eq_true, Sum.inr.injEq, Sum.inl.injEq, Mi.look, Mi.put, List.any_cons, List.any_nil, Bool.or_true, Bool.or_false, Bool.true_or, Bool.false_or, List.find?_cons, Option.getD_some, Option.getD_none, Bool.bne_false, Bool.false_bne, Bool.true_bne, Bool.bne_true, Int.reduceEq, Int.reducePow, way_law_1, h0, h1, h2, h3, h4a, h4b]
    · simp only [Mi.bnd, Mi.mVar, Mi.mC, Mi.mkL, Mi.m2, Mi.m1, Mi.uNeg, Mi.bAdd, Mi.bSub, Mi.bDiv, Mi.bMod, Mi.bPow, Mi.sEq, Mi.bEq, Mi.bCmp, Mi.bLt, Mi.bLe, Mi.bGt, Mi.bGe, Mi.isNon, Mi.mIsN, Mi.mChain, Mi.mAnd, Mi.mOr, Mi.mNot, Mi.mTb, Mi.mTand, Mi.mTor, Mi.mTnot, Mi.mIf, Mi.mNil, Mi.mCons, Mi.mTup, Mi.mLst, Mi.mB, Mi.kOf, Mi.mFld, Mi.mCall, Mi.mCallK, Mi.mMeth, Mi.mMethK, Mi.mDef, Mi.fInt, Mi.fMax, Mi.fMin, Mi.isI, Mi.mIsI, Ms.mIsC, Mi.gNm, Mi.gNil, Mi.gCons, Mi.gTup, Mi.mSeq, Mi.mSkip, Mi.mBrk, Mi.mCont, Mi.mAsg, Mi.mPar, Mi.mExpr, Mi.mRet, Mi.mRetN, Mi.mIfS, Mi.tYes, Mi.wipe, Ms.mDct0, Ms.bAddI, List.map_cons, List.map_nil, List.nil_append, List.cons_append, List.length_cons, List.length_nil, List.replicate_succ, List.replicate_zero, List.getElem?_cons_zero, List.getElem?_cons_succ, List.getElem?_nil, List.set_cons_zero, List.set_cons_succ, Option.map_some, Option.map_none, if_true, if_false, reduceIte, decide_true, decide_false, Nat.reduceAdd, Nat.reduceLeDiff, List.mem_cons, List.mem_singleton, true_or, or_true, true_and, and_true, bne_self_eq_false, Bool.not_true, Bool.not_false, reduceCtorEq, Nat.reduceEqDiff, beq_self_eq_true, Nat.reduceLT, Int.reduceLT, Int.reduceLE, Int.reduceToNat, Int.reduceAdd, Int.reduceSub, Int.reduceMul, Int.reduceNeg, String.reduceEq, String.reduceBEq, List.lookup_cons, List.lookup_nil, Mi.big, Mi.putF, List.length_append, List.append_assoc, ite_true, ite_false, Bool.false_eq_true, and_self, not_true_eq_false, not_false_eq_true, Sum.inr.injEq, Sum.inl.injEq, Mi.look, Mi.put, List.any_cons, List.any_nil, Bool.or_true, Bool.or_false, Bool.true_or, Bool.false_or, List.find?_cons, Option.getD_some, Option.getD_none, Bool.bne_false, Bool.false_bne, Bool.true_bne, Bool.bne_true, Int.reduceEq, Int.reducePow, way_law_1, h0, h1, h2, h3, h4a]
end
end Lw

namespace Lw
open Mi (Dv MO Sto Sl Rs bnd ME MT MA MS MF Fl MG MGs MI)
open Ms (mExtend mPar3 fMaxL mLc2 mLc2Loop gUnL)
open PySem (PyData)
section
variable {G G' : Sto} {hd hc hi hs h hb hq hn n : Nat} {s k : Int} {bl : List Dv} {its : List (Nat × Dv)}
theorem look_ok (W : Wr hd hc h hb hq hn hi hs s k bl its n G) (hn' : n ≤ 4000) (look : Int) (a0 a2 a3 a4 b8 b9 b10 b11 b12 b13 b14 b15 b16 : Option Dv) :
    ∃ bl' its' hq' hn' G' c8 c9 c10 c11 c12 c13 c14 c15 c16, qb_law_1 [a0, some (.ref hd), a2, a3, a4, some (.ref h), some (.ref hi), some (.int look), b8, b9, b10, b11, b12, b13, b14, b15, b16] G = some (.nx, [a0, some (.ref hd), a2, a3, a4, some (.ref h), some (.ref hi), some (.int look), c8, c9, c10, c11, c12, c13, c14, c15, c16], G') ∧
      Wr hd hc h hb hq' hn' hi hs s k bl' its' (n + 30) G' := by
  have hr := R'_b W.hS W.hK
  obtain ⟨area, G1, e1, a1, b1, d1⟩ := draw W.dk 2 (by decide) (by decide)
  have W1 := W.dr d1
  obtain ⟨ws, hx, G2, e2, g2, hw, lw, W2, m⟩ := drawn_root_ok W1
  obtain ⟨way, G3, e3, a3', b3', d3⟩ := draw W2.dk 7 (by decide) (by decide)
  have W3 := W2.dr d3
  obtain ⟨i, G4, e4, a4', b4', d4⟩ := draw W3.dk (R' s k) (by omega) (by omega)
  have W4 := W3.dr d4
  have nd : hx ∉ [hd, hc] := by
    have q1 := m hd (by simp)
    have q2 := m hc (by simp)
    simp only [List.mem_cons, List.not_mem_nil, or_false]
    omega
  have g4 := d4.s.get nd (d3.s.get nd g2)
  obtain ⟨os, F, hF, ec, ho, lo, hF2⟩ := W4.old area (by omega)
  obtain ⟨j, rfl⟩ := Int.eq_ofNat_of_zero_le a4'
  obtain ⟨x, ws', G5, y14, e5, W5, hx5, hw5, lw5⟩ := way_ok W4 g4 m hw ho (by omega) j (by omega) (by omega) look way a0 a2 a3 a4 (some (.int area)) (some (.int F)) b14 b15 b16
  obtain ⟨bl', its', hq', hn2, G6, y15, y16, e6, W6⟩ := tail_ok W5 hn' F x ws' hx5 hw5 (by omega) (by omega) look way a0 a2 a3 a4 (some (.int area)) (some (.int j)) (some (.fls (os.map T))) y14 b15 b16
  refine ⟨bl', its', hq', hn2, G6, some (.int area), some x, some (.int way), some (.int F), some (.int j), some (.fls (os.map T)), y14, y15, y16, ?_, W6⟩
  have m1 : ∀ G, Mi.bMul false (.int area) (.int (R' s k)) G = some (.int (F : Int), G) := fun G => by rw [← hF]; exact bMul_small false _ _ G (by omega)
  rw [hF] at ec
  have sd := W4.sd
  show (Mi.mSeq _ (Mi.mSeq _ (Mi.mSeq _ (Mi.mSeq way_law_1 tl_law_1)))) _ _ = _
  simp only [Mi.bnd, Mi.mVar, Mi.mC, Mi.mkL, Mi.m2, Mi.m1, Mi.uNeg, Mi.bAdd, Mi.bSub, Mi.bDiv, Mi.bMod, Mi.bPow, Mi.sEq, Mi.bEq, Mi.bCmp, Mi.bLt, Mi.bLe, Mi.bGt, Mi.bGe, Mi.isNon, Mi.mIsN, Mi.mChain, Mi.mAnd, Mi.mOr, Mi.mNot, Mi.mTb, Mi.mTand, Mi.mTor, Mi.mTnot, Mi.mIf, Mi.mNil, Mi.mCons, Mi.mTup, Mi.mLst, Mi.mB, Mi.kOf, Mi.mFld, Mi.mCall, Mi.mCallK, Mi.mMeth, Mi.mMethK, Mi.mDef, Mi.fInt, Mi.fMax, Mi.fMin, Mi.isI, Mi.mIsI, Ms.mIsC, Mi.gNm, Mi.gNil, Mi.gCons, Mi.gTup, Mi.mSeq, Mi.mSkip, Mi.mBrk, Mi.mCont, Mi.mAsg, Mi.mPar, Mi.mExpr, Mi.mRet, Mi.mRetN, Mi.mIfS, Mi.tYes, Mi.wipe, Ms.mDct0, Ms.bAddI, List.map_cons, List.map_nil, List.nil_append, List.cons_append, List.length_cons, List.length_nil, List.replicate_succ, List.replicate_zero, List.getElem?_cons_zero, List.getElem?_cons_succ, List.getElem?_nil, List.set_cons_zero, List.set_cons_succ, Option.map_some, Option.map_none, if_true, if_false, reduceIte, decide_true, decide_false, Nat.reduceAdd, Nat.reduceLeDiff, List.mem_cons, List.mem_singleton, true_or, or_true, true_and, and_true, bne_self_eq_false, Bool.not_true, Bool.not_false, reduceCtorEq, Nat.reduceEqDiff, beq_self_eq_true, Nat.reduceLT, Int.reduceLT, Int.reduceLE, Int.reduceToNat, Int.reduceAdd, Int.reduceSub, Int.reduceMul, Int.reduceNeg, String.reduceEq, String.reduceBEq, List.lookup_cons, List.lookup_nil, Mi.big, Mi.putF, List.length_append, List.append_assoc, ite_true, ite_false, Bool.false_eq_true, and_self, not_true_eq_false, not_false_eq_true, Sum.inr.injEq, Sum.inl.injEq, Mi.look, Mi.put, List.any_cons, List.any_nil, Bool.or_true, Bool.or_false, Bool.true_or, Bool.false_or, List.find?_cons, Option.getD_some, Option.getD_none, Bool.bne_false, Bool.false_bne, Bool.true_bne, Bool.bne_true, Int.reduceEq, Int.reducePow, mPar3, e1, e2, e3, sR W3.it, m1, e4, sSt W4.it, sR W4.it, Mi.mSlice, Mi.mO, Mi.lstOf, sd, ec, e5]
  exact e6
end
end Lw

namespace Lw
open Mi (Dv MO Sto Sl Rs bnd ME MT MA MS MF Fl MG MGs MI)
open Ms (mExtend mPar3 fMaxL mLc2 mLc2Loop gUnL)
open PySem (PyData)
def St17 (a0 a2 a3 a4 a5 a6 : Option Dv) (hd : Nat) (δ : Sl) : Prop := ∃ b7 b8 b9 b10 b11 b12 b13 b14 b15 b16, δ = [a0, some (.ref hd), a2, a3, a4, a5, a6, b7, b8, b9, b10, b11, b12, b13, b14, b15, b16]
theorem looks_ok {hd hc h hb hi hs : Nat} {s k : Int} (a0 a2 a3 a4 : Option Dv) : ∀ (zs : List Int) (n hq hn : Nat) (bl : List Dv) (its : List (Nat × Dv)) (G : Sto) (δ : Sl), St17 a0 a2 a3 a4 (some (.ref h)) (some (.ref hi)) hd δ → Wr hd hc h hb hq hn hi hs s k bl its n G → n + 30 * zs.length ≤ 4000 →
    ∃ δ' G', Mi.mLoop (Mi.gNm 7) qb_law_1 (fun _ => True) (zs.map Dv.int) δ G = some (.nx, δ', G') ∧ St17 a0 a2 a3 a4 (some (.ref h)) (some (.ref hi)) hd δ' ∧ Dk hd hc G'
  | [], n, hq, hn, bl, its, G, δ, hδ, W, _ => ⟨δ, G, by rw [List.map_nil, Mi.mLoop, if_pos trivial], hδ, W.dk⟩
  | z :: zs, n, hq, hn, bl, its, G, δ, hδ, W, hl => by
    obtain ⟨b7, b8, b9, b10, b11, b12, b13, b14, b15, b16, ed⟩ := hδ
    subst ed
    rw [List.length_cons] at hl
    obtain ⟨bl', its', hq', hn', G1, c8, c9, c10, c11, c12, c13, c14, c15, c16, e1, W1⟩ := look_ok W (by omega) z a0 a2 a3 a4 b8 b9 b10 b11 b12 b13 b14 b15 b16
    obtain ⟨δ', G2, e2, h2, d2⟩ := looks_ok a0 a2 a3 a4 zs (n + 30) hq' hn' bl' its' G1 _ ⟨_, _, _, _, _, _, _, _, _, _, rfl⟩ W1 (by omega)
    refine ⟨δ', G2, ?_, h2, d2⟩
    rw [List.map_cons, Mi.mLoop, if_pos trivial]
    simp only [Mi.gNm, List.set_cons_succ, List.set_cons_zero]
    rw [e1]
    exact e2
theorem turn_ok {hd hc : Nat} {G : Sto} (d : Dk hd hc G) (a0 a2 a3 a4 a5 a6 : Option Dv) (δ : Sl) (hδ : St17 a0 a2 a3 a4 a5 a6 hd δ) : ∃ a3' a4' a5' a6' δ' G', qb_law_2 δ G = some (.nx, δ', G') ∧ St17 a0 a2 a3' a4' a5' a6' hd δ' ∧ Dk hd hc G' := by
  obtain ⟨b7, b8, b9, b10, b11, b12, b13, b14, b15, b16, rfl⟩ := hδ
  obtain ⟨s, k, G1, e1, hS, hK, c1⟩ := wide_ok d
  obtain ⟨G2, G3, hi, hs, e2, e3, W3⟩ := start_ok c1.d s k hS hK
  obtain ⟨δ', G4, e4, h4, d4⟩ := looks_ok a0 a2 (some (.int s)) (some (.int k)) [0, 1, 2, 3, 4] 0 _ _ _ _ G3 [a0, some (.ref hd), a2, some (.int s), some (.int k), some (.ref G1.length), some (.ref hi), b7, b8, b9, b10, b11, b12, b13, b14, b15, b16] ⟨_, _, _, _, _, _, _, _, _, _, rfl⟩ W3 (by decide)
  have e5 : qf_law_1 [a0, some (.ref hd), a2, some (.int s), some (.int k), some (.ref G1.length), some (.ref hi), b7, b8, b9, b10, b11, b12, b13, b14, b15, b16] G3 = some (.nx, δ', G4) := e4
  exact ⟨_, _, _, _, δ', G4, by simp only [Mi.bnd, Mi.mVar, Mi.mC, Mi.mkL, Mi.m2, Mi.m1, Mi.uNeg, Mi.bAdd, Mi.bSub, Mi.bDiv, Mi.bMod, Mi.bPow, Mi.sEq, Mi.bEq, Mi.bCmp, Mi.bLt, Mi.bLe, Mi.bGt, Mi.bGe, Mi.isNon, Mi.mIsN, Mi.mChain, Mi.mAnd, Mi.mOr, Mi.mNot, Mi.mTb, Mi.mTand, Mi.mTor, Mi.mTnot, Mi.mIf, Mi.mNil, Mi.mCons, Mi.mTup, Mi.mLst, Mi.mB, Mi.kOf, Mi.mFld, Mi.mCall, Mi.mCallK, Mi.mMeth, Mi.mMethK, Mi.mDef, Mi.fInt, Mi.fMax, Mi.fMin, Mi.isI, Mi.mIsI, Ms.mIsC, Mi.gNm, Mi.gNil, Mi.gCons, Mi.gTup, Mi.mSeq, Mi.mSkip, Mi.mBrk, Mi.mCont, Mi.mAsg, Mi.mPar, Mi.mExpr, Mi.mRet, Mi.mRetN, Mi.mIfS, Mi.tYes, Mi.wipe, Ms.mDct0, Ms.bAddI, List.map_cons, List.map_nil, List.nil_append, List.cons_append, List.length_cons, List.length_nil, List.replicate_succ, List.replicate_zero, List.getElem?_cons_zero, List.getElem?_cons_succ, List.getElem?_nil, List.set_cons_zero, List.set_cons_succ, Option.map_some, Option.map_none, if_true, if_false, reduceIte, decide_true, decide_false, Nat.reduceAdd, Nat.reduceLeDiff, List.mem_cons, List.mem_singleton, true_or, or_true, true_and, and_true, bne_self_eq_false, Bool.not_true, Bool.not_false, reduceCtorEq, Nat.reduceEqDiff, beq_self_eq_true, Nat.reduceLT, Int.reduceLT, Int.reduceLE, Int.reduceToNat, Int.reduceAdd, Int.reduceSub, Int.reduceMul, Int.reduceNeg, String.reduceEq, String.reduceBEq, List.lookup_cons, List.lookup_nil, Mi.big, Mi.putF, List.length_append, List.append_assoc, ite_true, ite_false, Bool.false_eq_true, and_self, not_true_eq_false, not_false_eq_true, Sum.inr.injEq, Sum.inl.injEq, Mi.look, Mi.put, List.any_cons, List.any_nil, Bool.or_true, Bool.or_false, Bool.true_or, Bool.false_or, List.find?_cons, Option.getD_some, Option.getD_none, Bool.bne_false, Bool.false_bne, Bool.true_bne, Bool.bne_true, Int.reduceEq, Int.reducePow, qb_law_2, e1, Mi.mMake, e2, e3, e5], h4, d4⟩
end Lw

namespace Lw
open Mi (Dv MO Sto Sl Rs bnd ME MT MA MS MF Fl MG MGs MI)
theorem turns_ok {hd hc : Nat} (a0 : Option Dv) : ∀ (zs : List Int) (G : Sto) (δ : Sl) (a2 a3 a4 a5 a6 : Option Dv), Dk hd hc G → St17 a0 a2 a3 a4 a5 a6 hd δ → ∃ δ' G', Mi.mLoop (Mi.gNm 2) qb_law_2 (fun _ => True) (zs.map Dv.int) δ G = some (.nx, δ', G')
  | [], G, δ, a2, a3, a4, a5, a6, _, _ => ⟨δ, G, by rw [List.map_nil, Mi.mLoop, if_pos trivial]⟩
  | z :: zs, G, δ, a2, a3, a4, a5, a6, d, hδ => by
    obtain ⟨b7, b8, b9, b10, b11, b12, b13, b14, b15, b16, ed⟩ := hδ
    subst ed
    obtain ⟨c3, c4, c5, c6, δ1, G1, e1, h1, d1⟩ := turn_ok d a0 (some (.int z)) a3 a4 a5 a6 _ ⟨b7, b8, b9, b10, b11, b12, b13, b14, b15, b16, rfl⟩
    obtain ⟨δ2, G2, e2⟩ := turns_ok a0 zs G1 δ1 _ _ _ _ _ d1 h1
    refine ⟨δ2, G2, ?_⟩
    rw [List.map_cons, Mi.mLoop, if_pos trivial]
    simp only [Mi.gNm, List.set_cons_succ, List.set_cons_zero]
    rw [e1]
    exact e2
theorem law_runs : ∀ ns : List Int, ns.length ≤ 63 → ∃ G', m_law [.scr ns] [] = some (.bl true, G') := by
  intro ns hns
  obtain ⟨hd, hc, G0, e0, d0⟩ := deck_ok ns hns
  obtain ⟨δ', G1, e1⟩ := turns_ok (some (.scr ns)) [0, 1, 2] G0 [some (.scr ns), some (.ref hd), none, none, none, none, none, none, none, none, none, none, none, none, none, none, none] _ _ _ _ _ d0 ⟨_, _, _, _, _, _, _, _, _, _, rfl⟩
  have e2 : qf_law_2 [some (.scr ns), some (.ref hd), none, none, none, none, none, none, none, none, none, none, none, none, none, none, none] G0 = some (.nx, δ', G1) := e1
  exact ⟨G1, by simp only [Mi.bnd, Mi.mVar, Mi.mC, Mi.mkL, Mi.m2, Mi.m1, Mi.uNeg, Mi.bAdd, Mi.bSub, Mi.bDiv, Mi.bMod, Mi.bPow, Mi.sEq, Mi.bEq, Mi.bCmp, Mi.bLt, Mi.bLe, Mi.bGt, Mi.bGe, Mi.isNon, Mi.mIsN, Mi.mChain, Mi.mAnd, Mi.mOr, Mi.mNot, Mi.mTb, Mi.mTand, Mi.mTor, Mi.mTnot, Mi.mIf, Mi.mNil, Mi.mCons, Mi.mTup, Mi.mLst, Mi.mB, Mi.kOf, Mi.mFld, Mi.mCall, Mi.mCallK, Mi.mMeth, Mi.mMethK, Mi.mDef, Mi.fInt, Mi.fMax, Mi.fMin, Mi.isI, Mi.mIsI, Ms.mIsC, Mi.gNm, Mi.gNil, Mi.gCons, Mi.gTup, Mi.mSeq, Mi.mSkip, Mi.mBrk, Mi.mCont, Mi.mAsg, Mi.mPar, Mi.mExpr, Mi.mRet, Mi.mRetN, Mi.mIfS, Mi.tYes, Mi.wipe, Ms.mDct0, Ms.bAddI, List.map_cons, List.map_nil, List.nil_append, List.cons_append, List.length_cons, List.length_nil, List.replicate_succ, List.replicate_zero, List.getElem?_cons_zero, List.getElem?_cons_succ, List.getElem?_nil, List.set_cons_zero, List.set_cons_succ, Option.map_some, Option.map_none, if_true, if_false, reduceIte, decide_true, decide_false, Nat.reduceAdd, Nat.reduceLeDiff, List.mem_cons, List.mem_singleton, true_or, or_true, true_and, and_true, bne_self_eq_false, Bool.not_true, Bool.not_false, reduceCtorEq, Nat.reduceEqDiff, beq_self_eq_true, Nat.reduceLT, Int.reduceLT, Int.reduceLE, Int.reduceToNat, Int.reduceAdd, Int.reduceSub, Int.reduceMul, Int.reduceNeg, String.reduceEq, String.reduceBEq, List.lookup_cons, List.lookup_nil, Mi.big, Mi.putF, List.length_append, List.append_assoc, ite_true, ite_false, Bool.false_eq_true, and_self, not_true_eq_false, not_false_eq_true, Sum.inr.injEq, Sum.inl.injEq, Mi.look, Mi.put, List.any_cons, List.any_nil, Bool.or_true, Bool.or_false, Bool.true_or, Bool.false_or, List.find?_cons, Option.getD_some, Option.getD_none, Bool.bne_false, Bool.false_bne, Bool.true_bne, Bool.bne_true, Int.reduceEq, Int.reducePow, m_law, b_law, e0, e2]⟩
end Lw

open PySem PySem.W PyProof.Rows
set_option maxRecDepth 100000 in
set_option maxHeartbeats 0 in
theorem PySem.Challenge.cw_trailkeep_k22_whole_roots_told_and_newer_holds : PySem.Challenge.rw_trailkeep_k22_whole_roots_told_and_newer.Holds := by
  w_on
  o_law
  k_head
  case hw => w_witness2
  k_fill
  refine Lw.walk (l := PySem.Challenge.rw_trailkeep_k22_whole_roots_told_and_newer) rfl rfl (fun w h Y => PySem.W.kIn_of Y) ?F Lw.law_runs
  case F =>
    intro w mg fa h kin hns hmg L
    refine' Lw.all_mk rfl kin hns hmg L ?aC_Disk ?zb_all ?zb_bool ?zb_enumerate ?zb_int ?zb_isinstance ?zb_len ?zb_list ?zb_max ?zb_min ?zb_range ?zb_repr ?zb_tuple ?zc_CONTENT ?zc_FIRST_PLACE ?zc_LEAST_BLOCKS ?zc_LEAST_SEGMENTS ?zc_MOST_BLOCKS ?zc_MOST_SEGMENTS ?zc_ROOT ?zc_ROOT_WORDS ?zc_SPARE_SEGMENTS ?zc_WORDS ?pg_Disk ?hd_Disk ?po_Disk ?sa_Disk ?na_Disk_blocks ?na_Disk_k ?na_Disk_left ?na_Disk_n ?na_Disk_newest ?na_Disk_queue ?na_Disk_r ?na_Disk_s ?iha_Disk ?ihn_Disk ?iht_Disk ?ihm_Disk ?a0 ?l0 ?c0 ?k0 ?a1 ?l1 ?c1 ?k1 ?a2 ?l2 ?c2 ?k2 ?a3 ?l3 ?c3 ?k3 ?a4 ?l4 ?c4 ?k4 ?a5 ?i5 ?l5 ?c5 ?k5 ?mk_Disk ?kc_Disk ?a6 ?i6 ?l6 ?c6 ?k6 ?a7 ?i7 ?l7 ?c7 ?k7 ?a8 ?l8 ?c8 ?k8 ?a9 ?l9 ?c9 ?k9 ?a10 ?l10 ?c10 ?k10 ?a11 ?l11 ?c11 ?k11 ?a12 ?l12 ?c12 ?k12 ?a13 ?l13 ?c13 ?k13 ?a14 ?l14 ?c14 ?k14 ?a15 ?l15 ?c15 ?k15 ?a16 ?l16 ?c16 ?k16 ?a17 ?l17 ?c17 ?k17 ?a18 ?i18 ?l18 ?c18 ?k18 ?a19 ?l19 ?c19 ?k19 ?a20 ?l20 ?c20 ?k20 ?a21 ?l21 ?c21 ?k21 ?a22 ?i22 ?l22 ?c22 ?k22 ?a23 ?l23 ?c23 ?k23 ?a24 ?l24 ?c24 ?k24 ?a25 ?i25 ?l25 ?c25 ?k25 ?a26 ?l26 ?c26 ?k26 ?a27 ?l27 ?c27 ?k27 ?a28 ?l28 ?c28 ?k28 ?a29 ?l29 ?c29 ?k29 ?a30 ?l30 ?c30 ?k30 ?a31 ?l31 ?c31 ?k31 ?a32 ?l32 ?c32 ?k32 ?a33 ?l33 ?c33 ?k33
    (case aC_Disk => k_is); (case zb_all => k_is); (case zb_bool => k_is); (case zb_enumerate => k_is); (case zb_int => k_is); (case zb_isinstance => k_is)
    (case zb_len => k_is); (case zb_list => k_is); (case zb_max => k_is); (case zb_min => k_is); (case zb_range => k_is); (case zb_repr => k_is)
    (case zb_tuple => k_is); (case zc_CONTENT => k_is); (case zc_FIRST_PLACE => k_is); (case zc_LEAST_BLOCKS => k_is); (case zc_LEAST_SEGMENTS => k_is); (case zc_MOST_BLOCKS => k_is)
    (case zc_MOST_SEGMENTS => k_is); (case zc_ROOT => k_is); (case zc_ROOT_WORDS => k_is); (case zc_SPARE_SEGMENTS => k_is); (case zc_WORDS => k_is); (case pg_Disk => k_is)
    (case hd_Disk => k_is); (case po_Disk => k_is); (case sa_Disk => k_is); (case na_Disk_blocks => k_is); (case na_Disk_k => k_is); (case na_Disk_left => k_is)
    (case na_Disk_n => k_is); (case na_Disk_newest => k_is); (case na_Disk_queue => k_is); (case na_Disk_r => k_is); (case na_Disk_s => k_is); (case iha_Disk => k_is)
    (case ihn_Disk => k_is); (case iht_Disk => k_is); (case ihm_Disk => k_is); (case a0 => k_is); (case l0 => k_is); (case c0 => k_is)
    (case k0 => k_is); (case a1 => k_is); (case l1 => k_is); (case c1 => k_is); (case k1 => k_is); (case a2 => k_is)
    (case l2 => k_is); (case c2 => k_is); (case k2 => k_is); (case a3 => k_is); (case l3 => k_is); (case c3 => k_is)
    (case k3 => k_is); (case a4 => k_is); (case l4 => k_is); (case c4 => k_is); (case k4 => k_is); (case a5 => k_is)
    (case i5 => k_is); (case l5 => k_is); (case c5 => k_is); (case k5 => k_is); (case mk_Disk => k_is); (case kc_Disk => k_is)
    (case a6 => k_is); (case i6 => k_is); (case l6 => k_is); (case c6 => k_is); (case k6 => k_is); (case a7 => k_is)
    (case i7 => k_is); (case l7 => k_is); (case c7 => k_is); (case k7 => k_is); (case a8 => k_is); (case l8 => k_is)
    (case c8 => k_is); (case k8 => k_is); (case a9 => k_is); (case l9 => k_is); (case c9 => k_is); (case k9 => k_is)
    (case a10 => k_is); (case l10 => k_is); (case c10 => k_is); (case k10 => k_is); (case a11 => k_is); (case l11 => k_is)
    (case c11 => k_is); (case k11 => k_is); (case a12 => k_is); (case l12 => k_is); (case c12 => k_is); (case k12 => k_is)
    (case a13 => k_is); (case l13 => k_is); (case c13 => k_is); (case k13 => k_is); (case a14 => k_is); (case l14 => k_is)
    (case c14 => k_is); (case k14 => k_is); (case a15 => k_is); (case l15 => k_is); (case c15 => k_is); (case k15 => k_is)
    (case a16 => k_is); (case l16 => k_is); (case c16 => k_is); (case k16 => k_is); (case a17 => k_is); (case l17 => k_is)
    (case c17 => k_is); (case k17 => k_is); (case a18 => k_is); (case i18 => k_is); (case l18 => k_is); (case c18 => k_is)
    (case k18 => k_is); (case a19 => k_is); (case l19 => k_is); (case c19 => k_is); (case k19 => k_is); (case a20 => k_is)
    (case l20 => k_is); (case c20 => k_is); (case k20 => k_is); (case a21 => k_is); (case l21 => k_is); (case c21 => k_is)
    (case k21 => k_is); (case a22 => k_is); (case i22 => k_is); (case l22 => k_is); (case c22 => k_is); (case k22 => k_is)
    (case a23 => k_is); (case l23 => k_is); (case c23 => k_is); (case k23 => k_is); (case a24 => k_is); (case l24 => k_is)
    (case c24 => k_is); (case k24 => k_is); (case a25 => k_is); (case i25 => k_is); (case l25 => k_is); (case c25 => k_is)
    (case k25 => k_is); (case a26 => k_is); (case l26 => k_is); (case c26 => k_is); (case k26 => k_is); (case a27 => k_is)
    (case l27 => k_is); (case c27 => k_is); (case k27 => k_is); (case a28 => k_is); (case l28 => k_is); (case c28 => k_is)
    (case k28 => k_is); (case a29 => k_is); (case l29 => k_is); (case c29 => k_is); (case k29 => k_is); (case a30 => k_is)
    (case l30 => k_is); (case c30 => k_is); (case k30 => k_is); (case a31 => k_is); (case l31 => k_is); (case c31 => k_is)
    (case k31 => k_is); (case a32 => k_is); (case l32 => k_is); (case c32 => k_is); (case k32 => k_is); (case a33 => k_is)
    (case l33 => k_is); (case c33 => k_is); (case k33 => k_is)

