import PyProof.Rows.All
import PySem.Str
import PySem.PyData
import Wide.All
import OpenK.AllK
import Wide.FinOn
import HandS.ForMost
import HandS.TupMul
import HandS.TupAny
import HandS.Conv
import HandS.Style
import HandS.IsInst
import HandS.Zip
import HandS.Small
import PyProof.ReprRoads
import PyProof.StrLawsRepr
import PyProof.CallFns
import HandS.Codes
import Wide.Loose
import KE.GoesZip
import KE.GoesMore
import KE.GoesEnum
import HandS.TupLe
import KE.DataMinMax
import HandS.NoneIn
import HandS.SortInts
import HandS.More
import HandS.Exc
import HandS.ExcOwn
import HandS.TryOnly
import PyProof.InstEq
import PySem.Challenge.RW_trailkeep_k20_any_words_as_a_summary
set_option Elab.async false
set_option linter.all false
set_option maxRecDepth 100000
set_option maxHeartbeats 4200000
/-! PyM: a mirror of the Python that the program uses: values, a store of mutable objects by handles, and one total
function for each construct (none: not covered, or an error). No machine in sight. -/
namespace Mi
open PySem

inductive Dv where
  | non | bl (b : Bool) | int (i : Int) | str (x : String) | tup (xs : List Dv) | fls (xs : List Dv) | scr (ns : List Int) | ref (h : Nat)
abbrev Key := Sum Int String
inductive MO where
  | lst (xs : List Dv) | dct (kvs : List (Key × Dv)) | ins (c : Nat) (fs : List (String × Dv))
abbrev Sto := List MO
abbrev Sl := List (Option Dv)
abbrev Rs (α : Type) := Option (α × Sto)
/-- one after the other -/
def bnd {α β : Type} (r : Rs α) (f : α → Sto → Option β) : Option β := match r with
  | none => none
  | some (a, g) => f a g
theorem bnd_some {α β : Type} (a : α) (g : Sto) (f : α → Sto → Option β) : bnd (some (a, g)) f = f a g := rfl
theorem bnd_none {α β : Type} (f : α → Sto → Option β) : bnd (none : Rs α) f = none := rfl
theorem bnd_eq {α β : Type} {r : Rs α} {f : α → Sto → Option β} {b : β} (h : bnd r f = some b) : ∃ a g, r = some (a, g) ∧ f a g = some b := by
  cases r with
  | none => cases h
  | some p => exact ⟨p.1, p.2, rfl, h⟩
abbrev ME := Sl → Sto → Rs Dv
abbrev MT := Sl → Sto → Rs Bool
abbrev MA := Sl → Sto → Rs (List Dv)
inductive Fl where
  | nx | rt (d : Dv) | bk | ct
abbrev MS := Sl → Sto → Option (Fl × Sl × Sto)
abbrev MF := List Dv → Sto → Rs Dv

/-! ### names, constants -/
def mVar (i : Nat) : ME := fun δ G => match δ[i]? with
  | some (some d) => some (d, G)
  | _ => none
def mC (d : Dv) : ME := fun _ G => some (d, G)

/-! ### sequences -/
def big : Nat := 16777216
/-- a new list: frozen, or with a handle -/
def mkL (m : Bool) (xs : List Dv) (G : Sto) : Dv × Sto := if m then (.ref G.length, G ++ [.lst xs]) else (.fls xs, G)
/-- a list's items -/
def lstOf (G : Sto) : Dv → Option (List Dv)
  | .fls xs => some xs
  | .scr ns => some (ns.map .int)
  | .ref h => match G[h]? with
    | some (.lst xs) => some xs
    | _ => none
  | _ => none
def seqOf (G : Sto) : Dv → Option (List Dv)
  | .tup xs => some xs
  | d => lstOf G d
def ixN (n : Nat) (j : Int) : Option Nat := if 0 ≤ j then (if j < n then some j.toNat else none) else if -(n : Int) ≤ j then some (j + n).toNat else none
def atI {α : Type} (xs : List α) (k : Int) : Option α := (ixN xs.length k).bind fun j => xs[j]?
def sIx (n dflt : Nat) : Option Int → Nat
  | none => dflt
  | some j => if j < 0 then (j + (n : Int)).toNat else min j.toNat n
def cut {α : Type} (xs : List α) (lo hi : Option Int) : List α := (xs.drop (sIx xs.length 0 lo)).take (sIx xs.length xs.length hi - sIx xs.length 0 lo)

/-! ### operators by values -/
def okMul (i j : Int) : Bool := (decide (-(2 ^ 64) < i) && decide (i < 2 ^ 64)) || (decide (-(2 ^ 64) < j) && decide (j < 2 ^ 64))
abbrev B2 := Dv → Dv → Sto → Rs Dv
def bAdd (m : Bool) : B2
  | .int i, .int j, G => some (.int (i + j), G)
  | .tup a, .tup b, G => if a.length + b.length ≤ big then some (.tup (a ++ b), G) else none
  | .fls a, .fls b, G => if a.length + b.length ≤ big then some (mkL m (a ++ b) G) else none
  | .ref h, .fls b, G => match G[h]? with
    | some (.lst a) => if a.length + b.length ≤ big then some (mkL m (a ++ b) G) else none
    | _ => none
  | _, _, _ => none
def bSub : B2
  | .int i, .int j, G => some (.int (i - j), G)
  | _, _, _ => none
def bMul (m : Bool) : B2
  | .int i, .int j, G => if okMul i j then some (.int (i * j), G) else none
  | .tup a, .int k, G => if a ≠ [] ∧ 2 ≤ k ∧ k ≤ 1000 ∧ a.length ≤ 1000 then some (.tup (List.replicate k.toNat a).flatten, G) else none
  | .fls a, .int k, G => if -(2 ^ 63) ≤ k ∧ k < 2 ^ 63 ∧ a.length * k.toNat ≤ big then some (mkL m (List.replicate k.toNat a).flatten G) else none
  | _, _, _ => none
def bDiv : B2
  | .int i, .int j, G => if 0 < j ∧ j < 1073741824 then some (.int (i / j), G) else none
  | _, _, _ => none
def bMod : B2
  | .int i, .int j, G => if 0 < j then some (.int (i % j), G) else none
  | _, _, _ => none
def bPow : B2
  | .int i, .int j, G => if 0 ≤ j ∧ j ≤ 1000000 ∧ i.natAbs < 2 ^ 64 then some (.int (i ^ j.toNat), G) else none
  | _, _, _ => none
def m2 (f : B2) (a b : ME) : ME := fun δ G => bnd (a δ G) fun x G1 => bnd (b δ G1) fun y G2 => f x y G2
def m1 (f : Dv → Sto → Rs Dv) (a : ME) : ME := fun δ G => bnd (a δ G) fun x G1 => f x G1
def uNeg : Dv → Sto → Rs Dv
  | .int i, G => some (.int (-i), G)
  | _, _ => none

/-! ### data, for == and repr -/
mutual
/-- pure data, lists by their handles -/
def py (G : Sto) : Dv → Option PyData
  | .non => some .none
  | .bl b => some (.bool b)
  | .int i => some (.int i)
  | .str x => some (.str (Str.ofString x))
  | .tup xs => (pys G xs).map .tuple
  | .fls xs => (pys G xs).map .list
  | .scr ns => some (.list (ns.map .int))
  | .ref _ => none
def pys (G : Sto) : List Dv → Option (List PyData)
  | [] => some []
  | x :: xs => match py G x, pys G xs with
    | some c, some cs => some (c :: cs)
    | _, _ => none
end
/-- at the top a list may stand by its handle -/
def pyT (G : Sto) : Dv → Option PyData
  | .ref h => match G[h]? with
    | some (.lst xs) => (pys G xs).map .list
    | _ => none
  | d => py G d
mutual
/-- a bound of the written text, small numbers alone -/
def wt : PyData → Option Nat
  | .none => some 5
  | .bool _ => some 5
  | .int i => if i.natAbs < 10 ^ 18 then some 20 else none
  | .str s => if s.cps.toList.all (fun c => decide (c < 4294967296)) then some (10 * s.cps.size + 2) else none
  | .list xs => (wts xs).map (· + 3)
  | .tuple xs => (wts xs).map (· + 3)
  | .dict _ => none
def wts : List PyData → Option Nat
  | [] => some 0
  | x :: xs => match wt x, wts xs with
    | some a, some b => some (a + b + 2)
    | _, _ => none
end
mutual
def dep : PyData → Nat
  | .list xs => deps xs + 1
  | .tuple xs => deps xs + 1
  | _ => 0
def deps : List PyData → Nat
  | [] => 0
  | x :: xs => max (dep x) (deps xs)
end
def okR (d : PyData) : Prop := ∃ n, wt d = some n ∧ n ≤ 16000000 ∧ dep d ≤ 40
open Classical in
/-- repr(a) == repr(b): known where both are the same data -/
noncomputable def mReprEq (neg : Bool) (a b : ME) : ME := fun δ G => bnd (a δ G) fun x G1 => bnd (b δ G1) fun y G2 =>
  if ∃ d, pyT G1 x = some d ∧ pyT G2 y = some d ∧ okR d then some (.bl (!neg), G2) else none
/-- scalars alone -/
def sEq : Dv → Dv → Option Bool
  | .int i, .int j => some (decide (i = j))
  | .str x, .str y => some (decide (x = y))
  | .non, .non => some true
  | .non, .int _ => some false
  | .int _, .non => some false
  | .non, .str _ => some false
  | .str _, .non => some false
  | .int _, .str _ => some false
  | .str _, .int _ => some false
  | .bl a, .bl b => some (a == b)
  | _, _ => none
/-- the ints of such a list -/
def intsOf : List Dv → Option (List Int)
  | [] => some []
  | .int i :: r => (intsOf r).map (i :: ·)
  | _ => none
/-- lists, tuples of whole numbers -/
def qEq (G : Sto) : Dv → Dv → Option Bool
  | .tup a, .tup b => match intsOf a, intsOf b with
    | some x, some y => some (decide (x = y))
    | _, _ => none
  | x, y => match lstOf G x, lstOf G y with
    | some a, some b => match intsOf a, intsOf b with
      | some x, some y => some (decide (x = y))
      | _, _ => none
    | _, _ => none
def bEq (neg : Bool) : B2 := fun x y G => match sEq x y with
  | some r => some (.bl (r != neg), G)
  | none => match qEq G x y with
    | some r => some (.bl (r != neg), G)
    | none => none
def bCmp (p : Int → Int → Bool) : B2
  | .int i, .int j, G => some (.bl (p i j), G)
  | _, _, _ => none
def bLt : B2 := bCmp fun i j => decide (i < j)
def bLe : B2 := bCmp fun i j => decide (i ≤ j)
def bGt : B2 := bCmp fun i j => decide (j < i)
def bGe : B2 := bCmp fun i j => decide (j ≤ i)
def isNon : Dv → Bool
  | .non => true
  | _ => false
def mIsN (neg : Bool) (a : ME) : ME := m1 (fun x G => some (.bl (isNon x != neg), G)) a
/-- a op b op' c -/
def mChain (f g : B2) (a b c : ME) : ME := fun δ G => bnd (a δ G) fun x G1 => bnd (b δ G1) fun y G2 => bnd (f x y G2) fun z G3 => match z with
  | .bl true => bnd (c δ G3) fun w G4 => g y w G4
  | .bl false => some (.bl false, G3)
  | _ => none
/-- and, or, not of truth values -/
def mAnd (a b : ME) : ME := fun δ G => bnd (a δ G) fun x G1 => match x with
  | .bl true => b δ G1
  | .bl false => some (.bl false, G1)
  | _ => none
def mOr (a b : ME) : ME := fun δ G => bnd (a δ G) fun x G1 => match x with
  | .bl true => some (.bl true, G1)
  | .bl false => b δ G1
  | _ => none
def mNot (a : ME) : ME := m1 (fun x G => match x with
  | .bl b => some (.bl (!b), G)
  | _ => none) a

/-! ### tests -/
/-- truth -/
def tru (G : Sto) : Dv → Option Bool
  | .non => some false
  | .bl b => some b
  | .int i => some (i != 0)
  | .tup xs => some !xs.isEmpty
  | .fls xs => some !xs.isEmpty
  | .ref h => match G[h]? with
    | some (.lst xs) => some !xs.isEmpty
    | some (.dct kvs) => some !kvs.isEmpty
    | _ => none
  | _ => none
def mTru (a : ME) : MT := fun δ G => bnd (a δ G) fun x G1 => (tru G1 x).map fun b => (b, G1)
/-- a truth value as a test -/
def mTb (a : ME) : MT := fun δ G => bnd (a δ G) fun x G1 => match x with
  | .bl b => some (b, G1)
  | _ => none
def mTand (a b : MT) : MT := fun δ G => bnd (a δ G) fun c G1 => if c then b δ G1 else some (false, G1)
def mTor (a b : MT) : MT := fun δ G => bnd (a δ G) fun c G1 => if c then some (true, G1) else b δ G1
def mTnot (a : MT) : MT := fun δ G => bnd (a δ G) fun c G1 => some (!c, G1)
def mIf (t : MT) (a b : ME) : ME := fun δ G => bnd (t δ G) fun c G1 => if c then a δ G1 else b δ G1

/-! ### arguments, displays -/
def mNil : MA := fun _ G => some ([], G)
def mCons (a : ME) (r : MA) : MA := fun δ G => bnd (a δ G) fun x G1 => bnd (r δ G1) fun xs G2 => some (x :: xs, G2)
def mTup (a : MA) : ME := fun δ G => bnd (a δ G) fun xs G1 => if xs.length ≤ big then some (.tup xs, G1) else none
def mLst (m : Bool) (a : MA) : ME := fun δ G => bnd (a δ G) fun xs G1 => if xs.length ≤ big then some (mkL m xs G1) else none
/-- a built-in of values -/
def mB (f : List Dv → Sto → Rs Dv) (a : MA) : ME := fun δ G => bnd (a δ G) f

/-! ### subscripts, slices -/
def kOf : Dv → Option Key
  | .int i => some (.inl i)
  | .str x => some (.inr x)
  | _ => none
def look {κ : Type} [DecidableEq κ] (kvs : List (κ × Dv)) (k : κ) : Option Dv := (kvs.find? fun kv => decide (kv.1 = k)).map (·.2)
def put {κ : Type} [DecidableEq κ] (kvs : List (κ × Dv)) (k : κ) (v : Dv) : List (κ × Dv) :=
  if (kvs.any fun kv => decide (kv.1 = k)) = true then kvs.map fun kv => if kv.1 = k then (kv.1, v) else kv else kvs ++ [(k, v)]
def drp {κ : Type} [DecidableEq κ] (kvs : List (κ × Dv)) (k : κ) : List (κ × Dv) := kvs.filter fun kv => decide (kv.1 ≠ k)
/-- xs[i] of a list or a tuple -/
def bIx : B2 := fun x y G => match seqOf G x, y with
  | some xs, .int i => (atI xs i).map fun d => (d, G)
  | _, _ => none
/-- d[k] of a dict -/
def bGet : B2 := fun x y G => match x with
  | .ref h => match G[h]? with
    | some (.dct kvs) => match kOf y with
      | some k => (look kvs k).map fun d => (d, G)
      | none => none
    | _ => none
  | _ => none
/-- x[i] of any of these -/
def bSubs : B2 := fun x y G => match bGet x y G with
  | some r => some r
  | none => bIx x y G
def mO (a : Option ME) : Sl → Sto → Rs (Option Int) := fun δ G => match a with
  | none => some (none, G)
  | some e => bnd (e δ G) fun x G1 => match x with
    | .int i => some (some i, G1)
    | _ => none
def mSlice (m : Bool) (a : ME) (lo hi : Option ME) : ME := fun δ G => bnd (a δ G) fun x G1 => bnd (mO lo δ G1) fun l G2 => bnd (mO hi δ G2) fun h G3 => match x with
  | .tup xs => some (.tup (cut xs l h), G3)
  | _ => match lstOf G3 x with
    | some xs => some (mkL m (cut xs l h) G3)
    | none => none
def mRev (m : Bool) (a : ME) : ME := m1 (fun x G => match lstOf G x with
  | some xs => some (mkL m xs.reverse G)
  | none => none) a

/-! ### objects -/
def flook (fs : List (String × Dv)) (f : String) : Option Dv := fs.lookup f
def putF (f : String) (v : Dv) : List (String × Dv) → List (String × Dv)
  | [] => [(f, v)]
  | (g, y) :: r => if g = f then (g, v) :: r else (g, y) :: putF f v r
/-- e.f, fo: the classes that have no attribute of this name -/
def mFld (cs : List Nat) (a : ME) (f : String) : ME := m1 (fun x G => match x with
  | .ref h => match G[h]? with
    | some (.ins c fs) => if c ∈ cs then (fs.lookup f).map fun d => (d, G) else none
    | _ => none
  | _ => none) a

/-! ### calls -/
def mCall (f : MF) (a : MA) : ME := fun δ G => bnd (a δ G) f
/-- f(.., k = v ..): ix puts the values in the parameters' order -/
def mCallK (f : MF) (ix : List Nat) (a kw : MA) : ME := fun δ G => bnd (a δ G) fun xs G1 => bnd (kw δ G1) fun ys G2 => f (ix.map fun i => (xs ++ ys).getD i .non) G2
/-- o.m(..): of the class c -/
def mMeth (c : Nat) (m : String) (f : MF) (o : ME) (a : MA) : ME := fun δ G => bnd (o δ G) fun x G1 => match x with
  | .ref h => match G1[h]? with
    | some (.ins c' fs) => if c' = c ∧ fs.lookup m = none then bnd (a δ G1) fun xs G2 => f (x :: xs) G2 else none
    | _ => none
  | _ => none
def mMethK (c : Nat) (m : String) (f : MF) (ix : List Nat) (o : ME) (a kw : MA) : ME := fun δ G => bnd (o δ G) fun x G1 => match x with
  | .ref h => match G1[h]? with
    | some (.ins c' fs) => if c' = c ∧ fs.lookup m = none then bnd (a δ G1) fun xs G2 => bnd (kw δ G2) fun ys G3 => f (ix.map fun i => (x :: xs ++ ys).getD i .non) G3 else none
    | _ => none
  | _ => none
/-- C(..) -/
def mMake (c : Nat) (f : MF) (a : MA) : ME := fun δ G => bnd (a δ G) fun xs G1 => bnd (f (.ref G1.length :: xs) (G1 ++ [.ins c []])) fun r G2 => match r with
  | .non => some (.ref G1.length, G2)
  | _ => none
/-- a def by its body: n parameters, l locals beside -/
def mDef (n l : Nat) (b : MS) : MF := fun xs G => if xs.length = n then match b (xs.map some ++ List.replicate l none) G with
  | some (.nx, _, G') => some (.non, G')
  | some (.rt d, _, G') => some (d, G')
  | _ => none else none

/-! ### built-ins -/
def fLen : List Dv → Sto → Rs Dv
  | [.tup xs], G => some (.int xs.length, G)
  | [x], G => match lstOf G x with
    | some xs => some (.int xs.length, G)
    | none => none
  | _, _ => none
def fInt : List Dv → Sto → Rs Dv
  | [.int i], G => some (.int i, G)
  | _, _ => none
def fMax : List Dv → Sto → Rs Dv
  | [.int i, .int j], G => some (.int (if j > i then j else i), G)
  | _, _ => none
def fMin : List Dv → Sto → Rs Dv
  | [.int i, .int j], G => some (.int (if j < i then j else i), G)
  | _, _ => none
def fTuple : List Dv → Sto → Rs Dv
  | [.tup xs], G => some (.tup xs, G)
  | [x], G => (lstOf G x).map fun xs => (.tup xs, G)
  | _, _ => none
def fList (m : Bool) : List Dv → Sto → Rs Dv
  | [x], G => (seqOf G x).map fun xs => mkL m xs G
  | _, _ => none
/-- list(range(a, b)) -/
def rng (a b : Int) : List Dv := (List.range (b - a).toNat).map fun i => .int (a + (i : Nat))
def bListR (m : Bool) : B2
  | .int a, .int b, G => if -(2 ^ 62) ≤ a ∧ a < 2 ^ 62 ∧ -(2 ^ 62) ≤ b ∧ b < 2 ^ 62 ∧ (b - a).toNat ≤ 2 ^ 24 then some (mkL m (rng a b) G) else none
  | _, _, _ => none
def uListR (m : Bool) : Dv → Sto → Rs Dv
  | .int b, G => if -(2 ^ 62) ≤ b ∧ b < 2 ^ 62 ∧ b.toNat ≤ 2 ^ 24 then some (mkL m (rng 0 b) G) else none
  | _, _ => none
/-- all, any of a list of truth values -/
def bools : List Dv → Option (List Bool)
  | [] => some []
  | .bl b :: r => (bools r).map (b :: ·)
  | _ => none
def fAll : List Dv → Sto → Rs Dv
  | [x], G => match lstOf G x with
    | some xs => (bools xs).map fun bs => (.bl (bs.all id), G)
    | none => none
  | _, _ => none
def fAny : List Dv → Sto → Rs Dv
  | [x], G => match lstOf G x with
    | some xs => (bools xs).map fun bs => (.bl (bs.any id), G)
    | none => none
  | _, _ => none
/-- isinstance(x, T) for int, bool, tuple, str, list; an own class by its number -/
inductive Ty where
  | int | bool | tuple | str | list | cls (c : Nat)
  deriving DecidableEq
def isI (t : Ty) (G : Sto) : Dv → Option Bool
  | .non => some false
  | .bl _ => some (t == .int || t == .bool)
  | .int _ => some (t == .int)
  | .str _ => some (t == .str)
  | .tup _ => some (t == .tuple)
  | .fls _ => some (t == .list)
  | .scr _ => none
  | .ref h => match G[h]? with
    | some (.lst _) => some (t == .list)
    | some (.ins c _) => match t with
      | .cls c' => if c' = c then some true else none
      | _ => none
    | _ => none
def mIsI (t : Ty) (a : ME) : ME := m1 (fun x G => (isI t G x).map fun b => (.bl b, G)) a
def mAppend (o a : ME) : ME := fun δ G => bnd (o δ G) fun x G1 => bnd (a δ G1) fun y G2 => match x with
  | .ref h => match G1[h]?, G2[h]? with
    | some (.lst _), some (.lst xs) => if xs.length < big then some (.non, G2.set h (.lst (xs ++ [y]))) else none
    | _, _ => none
  | _ => none
/-- xs.pop() -/
def mPop (o : ME) : ME := m1 (fun x G => match x with
  | .ref h => match G[h]? with
    | some (.lst xs) => match xs.getLast? with
      | some d => some (d, G.set h (.lst xs.dropLast))
      | none => none
    | _ => none
  | _ => none) o
/-- d.get(k, x) -/
def mGet2 (o k x : ME) : ME := fun δ G => bnd (o δ G) fun d G1 => bnd (k δ G1) fun y G2 => bnd (x δ G2) fun z G3 => match d with
  | .ref h => match G1[h]?, G3[h]?, kOf y with
    | some (.dct _), some (.dct kvs), some k => some ((look kvs k).getD z, G3)
    | _, _, _ => none
  | _ => none
def mGet1 (o k : ME) : ME := fun δ G => bnd (o δ G) fun d G1 => bnd (k δ G1) fun y G2 => match d with
  | .ref h => match G1[h]?, G2[h]?, kOf y with
    | some (.dct _), some (.dct kvs), some k => some ((look kvs k).getD .non, G2)
    | _, _, _ => none
  | _ => none
/-- {k: v, ..}: the dict is made first -/
def mPairs : List (ME × ME) → Sl → Sto → Rs (List (Key × Dv))
  | [], _, G => some ([], G)
  | (k, e) :: r, δ, G => bnd (k δ G) fun y G1 => bnd (e δ G1) fun x G2 => bnd (mPairs r δ G2) fun ps G3 => match kOf y with
    | some k => some ((k, x) :: ps, G3)
    | none => none
def mDisp (ps : List (ME × ME)) : ME := fun δ G => bnd (mPairs ps δ (G ++ [.dct []])) fun kvs G1 => match G1[G.length]? with
  | some (.dct []) => if kvs.length ≤ 15 then some (.ref G.length, G1.set G.length (.dct (kvs.foldl (fun acc kv => put acc kv.1 kv.2) []))) else none
  | _ => none

/-! ### targets -/
abbrev MG := Dv → Sl → Sto → Option (Sl × Sto)
def gNm (i : Nat) : MG := fun d δ G => some (δ.set i (some d), G)
abbrev MGs := List Dv → Sl → Sto → Option (Sl × Sto)
def gNil : MGs := fun ds δ G => match ds with
  | [] => some (δ, G)
  | _ => none
def gCons (g : MG) (r : MGs) : MGs := fun ds δ G => match ds with
  | d :: ds' => match g d δ G with
    | some (δ1, G1) => r ds' δ1 G1
    | none => none
  | [] => none
def gTup (n : Nat) (g : MGs) : MG := fun d δ G => match d with
  | .tup xs => if xs.length = n then g xs δ G else none
  | _ => none

/-! ### statements -/
def mSeq (a b : MS) : MS := fun δ G => match a δ G with
  | some (.nx, δ', G') => b δ' G'
  | r => r
def mSkip : MS := fun δ G => some (.nx, δ, G)
def mBrk : MS := fun δ G => some (.bk, δ, G)
def mCont : MS := fun δ G => some (.ct, δ, G)
def mFail : MS := fun _ _ => none
def mAsg (e : ME) (g : MG) : MS := fun δ G => match e δ G with
  | some (d, G1) => match g d δ G1 with
    | some (δ', G') => some (.nx, δ', G')
    | none => none
  | none => none
/-- a, b = x, y -/
def mPar (i j : Nat) (a : MA) : MS := fun δ G => match a δ G with
  | some ([x, y], G1) => some (.nx, (δ.set i (some x)).set j (some y), G1)
  | _ => none
def mExpr (e : ME) : MS := fun δ G => match e δ G with
  | some (_, G1) => some (.nx, δ, G1)
  | none => none
def mRet (e : ME) : MS := fun δ G => match e δ G with
  | some (d, G1) => some (.rt d, δ, G1)
  | none => none
def mRetN : MS := fun δ G => some (.rt .non, δ, G)
def mIfS (t : MT) (a b : MS) : MS := fun δ G => match t δ G with
  | some (true, G1) => a δ G1
  | some (false, G1) => b δ G1
  | none => none
def mAug (i : Nat) (f : B2) (e : ME) : MS := fun δ G => match δ[i]? with
  | some (some x) => match e δ G with
    | some (y, G1) => match f x y G1 with
      | some (z, G2) => some (.nx, δ.set i (some z), G2)
      | none => none
    | none => none
  | _ => none
/-- o.f = e -/
def mSetF (cs : List Nat) (o : ME) (f : String) (e : ME) : MS := fun δ G => match e δ G with
  | some (y, G1) => match o δ G1 with
    | some (.ref h, G2) => match G2[h]? with
      | some (.ins c fs) => if c ∈ cs ∧ fs.length < 1000 then some (.nx, δ, G2.set h (.ins c (putF f y fs))) else none
      | _ => none
    | _ => none
  | none => none
/-- o.f op= e -/
def mAugF (cs : List Nat) (o : ME) (f : String) (op : B2) (e : ME) : MS := fun δ G => match o δ G with
  | some (.ref h, G1) => match G1[h]? with
    | some (.ins c fs) => if c ∈ cs then match fs.lookup f with
        | some x => match e δ G1 with
          | some (y, G2) => match op x y G2 with
            | some (z, G3) => match G3[h]? with
              | some (.ins c' fs') => if c' = c ∧ fs'.length < 1000 then some (.nx, δ, G3.set h (.ins c (putF f z fs'))) else none
              | _ => none
            | none => none
          | none => none
        | none => none
      else none
    | _ => none
  | _ => none
/-- o[i] = e of a list -/
def mSetI (o i e : ME) : MS := fun δ G => match e δ G with
  | some (v, G1) => match o δ G1 with
    | some (.ref h, G2) => match i δ G2 with
      | some (.int k, G3) => match G3[h]? with
        | some (.lst xs) => match ixN xs.length k with
          | some j => some (.nx, δ, G3.set h (.lst (xs.set j v)))
          | none => none
        | _ => none
      | _ => none
    | _ => none
  | none => none
/-- d[k] = e of a dict -/
def mSetK (o i e : ME) : MS := fun δ G => match e δ G with
  | some (v, G1) => match o δ G1 with
    | some (.ref h, G2) => match i δ G2 with
      | some (y, G3) => match G3[h]?, kOf y with
        | some (.dct kvs), some k => if kvs.length < big then some (.nx, δ, G3.set h (.dct (put kvs k v))) else none
        | _, _ => none
      | none => none
    | _ => none
  | none => none

/-! ### loops -/
open Classical in
/-- over the items ds, as long as st holds of the store -/
noncomputable def mLoop (g : MG) (b : MS) (st : Sto → Prop) : List Dv → MS
  | [], δ, G => if st G then some (.nx, δ, G) else none
  | d :: ds, δ, G => if st G then match g d δ G with
      | some (δ1, G1) => match b δ1 G1 with
        | some (.nx, δ2, G2) => mLoop g b st ds δ2 G2
        | some (.ct, δ2, G2) => mLoop g b st ds δ2 G2
        | some (.bk, δ2, G2) => some (.nx, δ2, G2)
        | r => r
      | none => none
    else none
/-- what is walked: the items, and what must stay of the store meanwhile -/
abbrev MI := Sl → Sto → Rs (List Dv × (Sto → Prop))
noncomputable def mFor (it : MI) (g : MG) (b : MS) : MS := fun δ G => bnd (it δ G) fun p G1 => mLoop g b p.2 p.1 δ G1
/-- a list or a tuple -/
def iSeq (a : ME) : MI := fun δ G => bnd (a δ G) fun x G1 => (seqOf G1 x).map fun xs => ((xs, fun G' => seqOf G' x = some xs), G1)
/-- range(n), range(a, b) -/
def iRange1 (a : ME) : MI := fun δ G => bnd (a δ G) fun x G1 => match x with
  | .int b => if -(2 ^ 62) ≤ b ∧ b < 2 ^ 62 then some ((rng 0 b, fun _ => True), G1) else none
  | _ => none
def iRange2 (a b : ME) : MI := fun δ G => bnd (a δ G) fun x G1 => bnd (b δ G1) fun y G2 => match x, y with
  | .int i, .int j => if -(2 ^ 62) ≤ i ∧ i < 2 ^ 62 ∧ -(2 ^ 62) ≤ j ∧ j < 2 ^ 62 then some ((rng i j, fun _ => True), G2) else none
  | _, _ => none
/-- zip(a, b), a list and a list or tuple -/
def iZip (a b : ME) : MI := fun δ G => bnd (a δ G) fun x G1 => bnd (b δ G1) fun y G2 => match seqOf G2 x, seqOf G2 y with
  | some xs, some ys => some ((List.zipWith (fun p q => .tup [p, q]) xs ys, fun G' => seqOf G' x = some xs ∧ seqOf G' y = some ys), G2)
  | _, _ => none
def enumD : Nat → List Dv → List Dv
  | _, [] => []
  | i, x :: xs => .tup [.int (i : Nat), x] :: enumD (i + 1) xs
def iEnum (a : ME) : MI := fun δ G => bnd (a δ G) fun x G1 => match lstOf G1 x with
  | some xs => some ((enumD 0 xs, fun G' => lstOf G' x = some xs), G1)
  | none => none
/-- while, by fuel -/
def mWh (t : MT) (b : MS) : Nat → MS
  | 0, _, _ => none
  | n + 1, δ, G => match t δ G with
    | some (true, G1) => match b δ G1 with
      | some (.nx, δ2, G2) => mWh t b n δ2 G2
      | some (.ct, δ2, G2) => mWh t b n δ2 G2
      | some (.bk, δ2, G2) => some (.nx, δ2, G2)
      | r => r
    | some (false, G1) => some (.nx, δ, G1)
    | none => none
/-- slots forgotten -/
def wipe (δ : Sl) : List Nat → Sl
  | [] => δ
  | v :: vs => (wipe δ vs).set v none
open Classical in
/-- [e for g in it if t], the block's own slots vs -/
noncomputable def mLcLoop (g : MG) (t : MT) (e : ME) (st : Sto → Prop) (δ : Sl) : List Dv → List Dv → Sto → Rs (List Dv)
  | [], acc, G => if st G then some (acc, G) else none
  | d :: ds, acc, G => if st G ∧ acc.length < big then match g d δ G with
      | some (δ1, G1) => match t δ1 G1 with
        | some (true, G2) => match e δ1 G2 with
          | some (y, G3) => mLcLoop g t e st δ ds (acc ++ [y]) G3
          | none => none
        | some (false, G2) => mLcLoop g t e st δ ds acc G2
        | none => none
      | none => none
    else none
noncomputable def mLc (m : Bool) (it : MI) (g : MG) (t : MT) (e : ME) (vs : List Nat) : ME := fun δ G => bnd (it δ G) fun p G1 => bnd (mLcLoop g t e p.2 (wipe δ vs) p.1 [] G1) fun xs G2 => some (mkL m xs G2)
def tYes : MT := fun _ G => some (true, G)
end Mi

/-! PyS1: how the mirror's values and store lie in the layer's heap; growth. -/
namespace Ms
open PySem L2
open Mi (Dv MO Sto Sl Rs bnd ME MT MA MS MF Fl MG MGs MI)
/-- how the arguments of a call are told: a first one that is no star; none that is; names for all keywords, these -/
abbrev Es (X : Cx) (e : Expr) (es : List Expr) : Prop := starEach (e :: es) X.env = (false, eval e X.env) :: starEach es X.env
abbrev Np (X : Cx) (pos : Pos) (es : List Expr) : Prop := (backTo pos (starEach es X.env)).any (fun a => a.1) = false
abbrev Ka (X : Cx) (pos : Pos) (kws : List Keyword) : Prop := (backToKw pos (keywordEach kws X.env)).all (fun a => a.1.isSome) = true
abbrev Ks (X : Cx) (pos : Pos) (kws : List Keyword) (ks : List Str) : Prop := (backToKw pos (keywordEach kws X.env)).filterMap (fun a => a.1) = ks
/-- a call by a global name, its value known -/
theorem called_by {X : Cx} {pins : List (Addr × Obj)} {σ : L2.St} {H : Hp} {s : Shared} {x : Str} {p pos : Pos} {es : List Expr} {kws : List Keyword} {v : Value} {Q E : Value → Shared → Prop} (I : Inv X pins σ H s) (hg : Gl X x) (hm : X.mg x = some v) (hdb : (x == ("__debug__" : Str)) = false)
    (go : wpAny (model X.prog X.w) X.A (callWith pos v [] (backTo pos (starEach es X.env)) (backToKw pos (keywordEach kws X.env))) Q E s) : wpAny (model X.prog X.w) X.A (eval (.Call (.Name x p) es kws pos) X.env) Q E s :=
  wpAny_Call_Name_kw (ld_glob I hg hm go hdb)

/-- what stays for good and holds a list -/
def FzL (K : PySem.W.Frag) (H : Hp) (a : Addr) (xs : List V) : Prop :=
  (∃ o, H a = some (.frz o (.lst xs))) ∨ ∃ (o : Obj) (its : Array Value) (n : Nat), K.lookup a = some o ∧ o.cls = .type "list" ∧ o.dict = none ∧ o.data = .seq its n ∧ its.size ≤ sizeLine ∧ Vals xs its.toList
theorem FzL.sq {K : PySem.W.Frag} {H : Hp} {a : Addr} {xs : List V} (h : FzL K H a xs) : SqL K H a xs := by
  rcases h with ⟨o, h⟩ | h
  · exact .inl (.inr ⟨o, h⟩)
  · exact .inr h
/-- where the handles lie; x: cells that are being filled, by nobody else -/
structure Rh where
  r : List Addr
  x : List Addr
mutual
/-- the value v bears the datum d; ρ: where the handles lie -/
inductive DR (K : PySem.W.Frag) (ρ : Rh) (H : Hp) : Dv → V → Prop
  | non : DR K ρ H .non .non
  | bl (b : Bool) : DR K ρ H (.bl b) (.bl b)
  | int (i : Int) : DR K ρ H (.int i) (.int i)
  | str (x : String) : DR K ρ H (.str x) (.str (Str.ofString x))
  | tup {a : Addr} {xs : List V} {ds : List Dv} : SqT K H a xs → DRs K ρ H ds xs → DR K ρ H (.tup ds) (.ref a)
  | fls {a : Addr} {xs : List V} {ds : List Dv} : H a = some (.lst xs) → a ∉ ρ.r ∧ a ∉ ρ.x → DRs K ρ H ds xs → DR K ρ H (.fls ds) (.ref a)
  | scr {a : Addr} {ns : List Int} : FzL K H a (ns.map V.int) → DR K ρ H (.scr ns) (.ref a)
  | ref {h : Nat} {a : Addr} : ρ.r[h]? = some a → DR K ρ H (.ref h) (.ref a)
inductive DRs (K : PySem.W.Frag) (ρ : Rh) (H : Hp) : List Dv → List V → Prop
  | nil : DRs K ρ H [] []
  | cons {d : Dv} {ds : List Dv} {v : V} {vs : List V} : DR K ρ H d v → DRs K ρ H ds vs → DRs K ρ H (d :: ds) (v :: vs)
end
/-- growth: handles are added, what is tracked and no handle stays -/
structure Gr (ρ : Rh) (H : Hp) (ρ' : Rh) (H' : Hp) : Prop where
  pre : (∃ t, ρ'.r = ρ.r ++ t) ∧ ρ'.x = ρ.x
  new : ∀ a ∈ ρ'.r, a ∈ ρ.r ∨ H a = none
  kp : ∀ a o, H a = some o → a ∉ ρ.r → H' a = some o
  tu : ∀ a xs, H a = some (.tup xs) → H' a = some (.tup xs)
  fz : ∀ a o u, H a = some (.frz o u) → H' a = some (.frz o u)
theorem Gr.refl {ρ : Rh} {H : Hp} : Gr ρ H ρ H := ⟨⟨⟨[], by simp⟩, rfl⟩, fun _ h => .inl h, fun _ _ h _ => h, fun _ _ h => h, fun _ _ _ h => h⟩
theorem Gr.trans {ρ ρ1 ρ2 : Rh} {H H1 H2 : Hp} (a : Gr ρ H ρ1 H1) (b : Gr ρ1 H1 ρ2 H2) : Gr ρ H ρ2 H2 := by
  refine ⟨⟨?_, b.pre.2.trans a.pre.2⟩, fun c hc => ?_, fun c o h hc => ?_, fun c xs h => b.tu c xs (a.tu c xs h), fun c o u h => b.fz c o u (a.fz c o u h)⟩
  · obtain ⟨s, e1⟩ := a.pre.1
    obtain ⟨t, e2⟩ := b.pre.1
    exact ⟨s ++ t, by rw [e2, e1]; simp⟩
  · rcases b.new c hc with h | h
    · exact a.new c h
    · by_cases hp : c ∈ ρ.r
      · exact .inl hp
      · refine .inr ?_
        cases e : H c with
        | none => rfl
        | some o =>
          have := a.kp c o e hp
          rw [h] at this
          cases this
  · refine b.kp c o (a.kp c o h hc) fun hm => ?_
    rcases a.new c hm with z | z
    · exact hc z
    · rw [z] at h
      cases h
/-- the same, weaker: cells that are being filled may come, go and change -/
structure Gw (ρ : Rh) (H : Hp) (ρ' : Rh) (H' : Hp) : Prop where
  pre : ∃ t, ρ'.r = ρ.r ++ t
  nl : ∀ a xs, H a = some (.lst xs) → a ∉ ρ.r → a ∉ ρ.x → H' a = some (.lst xs) ∧ a ∉ ρ'.r ∧ a ∉ ρ'.x
  tu : ∀ a xs, H a = some (.tup xs) → H' a = some (.tup xs)
  fz : ∀ a o u, H a = some (.frz o u) → H' a = some (.frz o u)
theorem Gr.w {ρ ρ' : Rh} {H H' : Hp} (g : Gr ρ H ρ' H') : Gw ρ H ρ' H' := ⟨g.pre.1, fun a xs h n1 n2 => ⟨g.kp _ _ h n1, (fun z => (g.new _ z).elim n1 fun q => (by rw [q] at h; cases h)), by rw [g.pre.2]; exact n2⟩, g.tu, g.fz⟩
theorem Gw.refl {ρ : Rh} {H : Hp} : Gw ρ H ρ H := Gr.refl.w
theorem Gw.trans {ρ ρ1 ρ2 : Rh} {H H1 H2 : Hp} (a : Gw ρ H ρ1 H1) (b : Gw ρ1 H1 ρ2 H2) : Gw ρ H ρ2 H2 := by
  refine ⟨?_, fun c xs h n1 n2 => ?_, fun c xs h => b.tu c xs (a.tu c xs h), fun c o u h => b.fz c o u (a.fz c o u h)⟩
  · obtain ⟨s, e1⟩ := a.pre
    obtain ⟨t, e2⟩ := b.pre
    exact ⟨s ++ t, by rw [e2, e1]; simp⟩
  · obtain ⟨h1, m1, m2⟩ := a.nl c xs h n1 n2
    exact b.nl c xs h1 m1 m2
theorem SqT.gw {K : PySem.W.Frag} {ρ ρ' : Rh} {H H' : Hp} {a : Addr} {xs : List V} (g : Gw ρ H ρ' H') (h : SqT K H a xs) : SqT K H' a xs := by
  exact h.imp (fun z => z.imp (g.tu _ _) fun ⟨o, q⟩ => ⟨o, g.fz _ _ _ q⟩) id
theorem FzL.gw {K : PySem.W.Frag} {ρ ρ' : Rh} {H H' : Hp} {a : Addr} {xs : List V} (g : Gw ρ H ρ' H') (h : FzL K H a xs) : FzL K H' a xs := by
  rcases h with ⟨o, h⟩ | h
  · exact .inl ⟨o, g.fz _ _ _ h⟩
  · exact .inr h
section
variable {K : PySem.W.Frag} {ρ ρ' : Rh} {H H' : Hp}
mutual
theorem DR.gw (g : Gw ρ H ρ' H') : ∀ {d : Dv} {v : V}, DR K ρ H d v → DR K ρ' H' d v
  | _, _, .non => .non
  | _, _, .bl b => .bl b
  | _, _, .int i => .int i
  | _, _, .str x => .str x
  | _, _, .tup h r => .tup (SqT.gw g h) (DRs.gw g r)
  | _, _, .fls h n r => .fls (g.nl _ _ h n.1 n.2).1 (g.nl _ _ h n.1 n.2).2 (DRs.gw g r)
  | _, _, .scr h => .scr (h.gw g)
  | _, _, .ref h => .ref (by
      obtain ⟨t, e⟩ := g.pre
      rw [e, List.getElem?_append_left (List.getElem?_eq_some_iff.mp h).1]
      exact h)
theorem DRs.gw (g : Gw ρ H ρ' H') : ∀ {ds : List Dv} {vs : List V}, DRs K ρ H ds vs → DRs K ρ' H' ds vs
  | _, _, .nil => .nil
  | _, _, .cons a b => .cons (DR.gw g a) (DRs.gw g b)
end
theorem DR.gr (g : Gr ρ H ρ' H') {d : Dv} {v : V} (h : DR K ρ H d v) : DR K ρ' H' d v := h.gw g.w
theorem DRs.gr (g : Gr ρ H ρ' H') {ds : List Dv} {vs : List V} (h : DRs K ρ H ds vs) : DRs K ρ' H' ds vs := h.gw g.w
theorem SqT.gr {a : Addr} {xs : List V} (g : Gr ρ H ρ' H') (h : SqT K H a xs) : SqT K H' a xs := SqT.gw g.w h
theorem DRs.len : ∀ {ds : List Dv} {vs : List V}, DRs K ρ H ds vs → ds.length = vs.length
  | _, _, .nil => rfl
  | _, _, .cons _ b => by rw [List.length_cons, List.length_cons, DRs.len b]
theorem DRs.app : ∀ {ds es : List Dv} {vs ws : List V}, DRs K ρ H ds vs → DRs K ρ H es ws → DRs K ρ H (ds ++ es) (vs ++ ws)
  | _, _, _, _, .nil, q => q
  | _, _, _, _, .cons a b, q => .cons a (DRs.app b q)
theorem DRs.get : ∀ {ds : List Dv} {vs : List V} {i : Nat} {d : Dv}, DRs K ρ H ds vs → ds[i]? = some d → ∃ v, vs[i]? = some v ∧ DR K ρ H d v
  | _, _, i, _, .nil, e => by rw [List.getElem?_nil] at e; cases e
  | _, _, 0, _, .cons a b, e => by
    simp at e
    subst e
    exact ⟨_, rfl, a⟩
  | _, _, i + 1, _, .cons a b, e => by
    obtain ⟨v, h1, h2⟩ := DRs.get b (i := i) (by simpa using e)
    exact ⟨v, by simpa using h1, h2⟩
theorem DRs.set : ∀ {ds : List Dv} {vs : List V} (i : Nat) {d : Dv} {v : V}, DRs K ρ H ds vs → DR K ρ H d v → DRs K ρ H (ds.set i d) (vs.set i v)
  | _, _, _, _, _, .nil, _ => .nil
  | _, _, 0, _, _, .cons a b, q => .cons q b
  | _, _, i + 1, _, _, .cons a b, q => .cons a (DRs.set i b q)
theorem DRs.take : ∀ {ds : List Dv} {vs : List V} (n : Nat), DRs K ρ H ds vs → DRs K ρ H (ds.take n) (vs.take n)
  | _, _, 0, _ => .nil
  | _, _, _ + 1, .nil => .nil
  | _, _, n + 1, .cons a b => .cons a (DRs.take n b)
theorem DRs.drop : ∀ {ds : List Dv} {vs : List V} (n : Nat), DRs K ρ H ds vs → DRs K ρ H (ds.drop n) (vs.drop n)
  | _, _, 0, r => r
  | _, _, _ + 1, .nil => .nil
  | _, _, n + 1, .cons _ b => DRs.drop n b
theorem DRs.rev : ∀ {ds : List Dv} {vs : List V}, DRs K ρ H ds vs → DRs K ρ H ds.reverse vs.reverse
  | _, _, .nil => .nil
  | _, _, .cons a b => by
    simp only [List.reverse_cons]
    exact DRs.app (DRs.rev b) (.cons a .nil)
theorem DRs.rep {ds : List Dv} {vs : List V} (r : DRs K ρ H ds vs) : ∀ n : Nat, DRs K ρ H (List.replicate n ds).flatten (List.replicate n vs).flatten
  | 0 => .nil
  | n + 1 => by
    simp only [List.replicate_succ, List.flatten_cons]
    exact DRs.app r (DRs.rep r n)
theorem DRs.ints : ∀ {ns : List Int}, DRs K ρ H (ns.map Dv.int) (ns.map V.int)
  | [] => .nil
  | n :: r => .cons (.int n) DRs.ints
theorem DRs.isNil {ds : List Dv} {vs : List V} (r : DRs K ρ H ds vs) : ds = [] ↔ vs = [] := by
  cases r <;> simp
theorem DRs.emp {ds : List Dv} {vs : List V} (r : DRs K ρ H ds vs) : ds.isEmpty = vs.isEmpty := by
  cases r <;> rfl
end

/-! ### what the handles hold -/
inductive AR {α β : Type} (R : α → β → Prop) : List α → List β → Prop
  | nil : AR R [] []
  | cons {a : α} {as : List α} {b : β} {bs : List β} : R a b → AR R as bs → AR R (a :: as) (b :: bs)
theorem AR.imp {α β : Type} {R S : α → β → Prop} (h : ∀ a b, R a b → S a b) : ∀ {as : List α} {bs : List β}, AR R as bs → AR S as bs
  | _, _, .nil => .nil
  | _, _, .cons a b => .cons (h _ _ a) (AR.imp h b)
theorem AR.len {α β : Type} {R : α → β → Prop} : ∀ {as : List α} {bs : List β}, AR R as bs → as.length = bs.length
  | _, _, .nil => rfl
  | _, _, .cons _ b => by rw [List.length_cons, List.length_cons, AR.len b]
theorem AR.app {α β : Type} {R : α → β → Prop} : ∀ {as cs : List α} {bs ds : List β}, AR R as bs → AR R cs ds → AR R (as ++ cs) (bs ++ ds)
  | _, _, _, _, .nil, q => q
  | _, _, _, _, .cons a b, q => .cons a (AR.app b q)
/-- what the text fixes beside K: the classes' places by their numbers, the constants of the top with their data -/
structure Kx where
  ca : Nat → Addr
  cs : List (V × Dv)
def kK : Mi.Key → L2.Key
  | .inl i => .inl i
  | .inr x => .inr (Str.ofString x)
theorem ofString_inj {a b : String} (h : Str.ofString a = Str.ofString b) : a = b := by
  have h1 : (cpsOfBytes 0 0 a.toByteArray.data.toList).toArray = (cpsOfBytes 0 0 b.toByteArray.data.toList).toArray := congrArg Str.cps h
  have h2 : cpsOfBytes 0 0 a.toByteArray.data.toList = cpsOfBytes 0 0 b.toByteArray.data.toList := by simpa using h1
  rw [cpsOfBytes_string, cpsOfBytes_string] at h2
  have h3 : a.toList = b.toList := by
    have inj : ∀ {x y : List Char}, x.map Char.toNat = y.map Char.toNat → x = y := by
      intro x
      induction x with
      | nil => intro y e; cases y with
        | nil => rfl
        | cons _ _ => simp at e
      | cons c t ih => intro y e; cases y with
        | nil => simp at e
        | cons d u =>
          rw [List.map_cons, List.map_cons, List.cons.injEq] at e
          have e1 : c = d := Char.ext (UInt32.toNat_inj.mp e.1)
          rw [e1, ih e.2]
    exact inj h2
  exact String.toList_inj.mp h3
theorem kK_inj {a b : Mi.Key} (h : kK a = kK b) : a = b := by
  cases a with
  | inl i => cases b with
    | inl j =>
      have : i = j := Sum.inl.inj h
      rw [this]
    | inr y => exact nomatch h
  | inr x => cases b with
    | inl j => exact nomatch h
    | inr y =>
      have : Str.ofString x = Str.ofString y := Sum.inr.inj h
      rw [ofString_inj this]
abbrev KR (K : PySem.W.Frag) (ρ : Rh) (H : Hp) : List (Mi.Key × Dv) → List (L2.Key × V) → Prop := AR fun p q => q.1 = kK p.1 ∧ DR K ρ H p.2 q.2
abbrev FR (K : PySem.W.Frag) (ρ : Rh) (H : Hp) : List (String × Dv) → List (Str × V) → Prop := AR fun p q => q.1 = Str.ofString p.1 ∧ DR K ρ H p.2 q.2
inductive OR (K : PySem.W.Frag) (kx : Kx) (ρ : Rh) (H : Hp) (a : Addr) : MO → Prop
  | lst {xs : List V} {ds : List Dv} : H a = some (.lst xs) → DRs K ρ H ds xs → OR K kx ρ H a (.lst ds)
  | dct {ks : List (L2.Key × V)} {kvs : List (Mi.Key × Dv)} : H a = some (.dK ks) → KR K ρ H kvs ks → OR K kx ρ H a (.dct kvs)
  | ins {dx : Addr} {fs' : List (Str × V)} {c : Nat} {fs : List (String × Dv)} : H a = some (.ins (kx.ca c) dx fs') → FR K ρ H fs fs' → OR K kx ρ H a (.ins c fs)
theorem OR.gw {K : PySem.W.Frag} {kx : Kx} {ρ ρ' : Rh} {H H' : Hp} {a : Addr} {o : MO} (g : Gw ρ H ρ' H') (e : H' a = H a) (h : OR K kx ρ H a o) : OR K kx ρ' H' a o := by
  cases h with
  | lst h r => exact .lst (e.trans h) (r.gw g)
  | dct h r => exact .dct (e.trans h) (r.imp fun _ _ q => ⟨q.1, q.2.gw g⟩)
  | ins h r => exact .ins (e.trans h) (r.imp fun _ _ q => ⟨q.1, q.2.gw g⟩)
theorem OR.gr {K : PySem.W.Frag} {kx : Kx} {ρ ρ' : Rh} {H H' : Hp} {a : Addr} {o : MO} (g : Gr ρ H ρ' H') (e : H' a = H a) (h : OR K kx ρ H a o) : OR K kx ρ' H' a o := h.gw g.w e
/-- a handle's object may be written -/
theorem OR.kind {K : PySem.W.Frag} {kx : Kx} {ρ : Rh} {H : Hp} {a : Addr} {o : MO} (h : OR K kx ρ H a o) : (∃ u, H a = some u) ∧ (∀ xs, H a ≠ some (.tup xs)) ∧ ∀ p u, H a ≠ some (.frz p u) := by
  cases h with
  | lst h r => exact ⟨⟨_, h⟩, (fun xs z => by rw [h] at z; cases z), (fun p u z => by rw [h] at z; cases z)⟩
  | dct h r => exact ⟨⟨_, h⟩, (fun xs z => by rw [h] at z; cases z), (fun p u z => by rw [h] at z; cases z)⟩
  | ins h r => exact ⟨⟨_, h⟩, (fun xs z => by rw [h] at z; cases z), (fun p u z => by rw [h] at z; cases z)⟩
/-- the store lies in the heap -/
structure Rl (K : PySem.W.Frag) (kx : Kx) (ρ : Rh) (G : Sto) (H : Hp) : Prop where
  len : ρ.r.length = G.length
  nd : ρ.r.Nodup
  ob : ∀ (h : Nat) (o : MO), G[h]? = some o → ∃ a, ρ.r[h]? = some a ∧ OR K kx ρ H a o
  gl : ∀ p ∈ kx.cs, DR K ρ H p.2 p.1
  xt : ∀ a ∈ ρ.x, (∃ o, H a = some o) ∧ a ∉ ρ.r
section
variable {K : PySem.W.Frag} {kx : Kx} {ρ ρ' : Rh} {G : Sto} {H H' : Hp}
theorem Rl.at (r : Rl K kx ρ G H) {h : Nat} {a : Addr} {o : MO} (e : ρ.r[h]? = some a) (eo : G[h]? = some o) : OR K kx ρ H a o := by
  obtain ⟨b, hb, q⟩ := r.ob h o eo
  rw [e] at hb
  cases hb
  exact q
theorem Rl.mem (r : Rl K kx ρ G H) {a : Addr} (h : a ∈ ρ.r) : ∃ o, OR K kx ρ H a o := by
  obtain ⟨i, hi, e⟩ := List.getElem_of_mem h
  have hg : i < G.length := by rw [← r.len]; exact hi
  obtain ⟨b, hb, q⟩ := r.ob i G[i] (List.getElem?_eq_getElem hg)
  rw [List.getElem?_eq_getElem hi, e] at hb
  cases hb
  exact ⟨_, q⟩
theorem Rl.free (r : Rl K kx ρ G H) {a : Addr} (h : H a = none) : a ∉ ρ.r ∧ a ∉ ρ.x := by
  constructor <;> intro z
  · obtain ⟨o, q⟩ := r.mem z
    obtain ⟨⟨u, e⟩, _⟩ := q.kind
    rw [h] at e
    cases e
  · obtain ⟨⟨o, e⟩, _⟩ := r.xt a z
    rw [h] at e
    cases e
/-- the cells that are being filled stay apart -/
theorem Rl.xs (r : Rl K kx ρ G H) (g : Gr ρ H ρ' H') : ∀ a ∈ ρ'.x, (∃ o, H' a = some o) ∧ a ∉ ρ'.r := fun a ha => by
  rw [g.pre.2] at ha
  obtain ⟨⟨o, e⟩, n⟩ := r.xt a ha
  refine ⟨⟨o, g.kp a o e n⟩, fun z => ?_⟩
  rcases g.new a z with q | q
  · exact n q
  · rw [q] at e
    cases e
/-- the handles' cells are as they were -/
theorem Rl.keep (r : Rl K kx ρ G H) (g : Gr ρ H ρ H') (h : ∀ a ∈ ρ.r, H' a = H a) : Rl K kx ρ G H' :=
  ⟨r.len, r.nd, (fun i o e => by
    obtain ⟨a, h1, h2⟩ := r.ob i o e
    exact ⟨a, h1, h2.gr g (h a (List.mem_of_getElem? h1))⟩), fun p hp => (r.gl p hp).gr g, r.xs g⟩
/-- a new cell beside -/
theorem Rl.side (r : Rl K kx ρ G H) {p : Addr} (o : HO) (h : H p = none) : Gr ρ H ρ (upd H p o) ∧ Rl K kx ρ G (upd H p o) := by
  have g : Gr ρ H ρ (upd H p o) := ⟨⟨⟨[], by simp⟩, rfl⟩, fun _ z => .inl z, fun a u e _ => by rw [upd_ne (ne_of_none e h)]; exact e, fun a u e => by rw [upd_ne (ne_of_none e h)]; exact e, fun a u v e => by rw [upd_ne (ne_of_none e h)]; exact e⟩
  refine ⟨g, r.keep g fun a ha => upd_ne fun z => (r.free h).1 (z ▸ ha)⟩
/-- one more handle -/
abbrev Rh.snoc (ρ : Rh) (p : Addr) : Rh := ⟨ρ.r ++ [p], ρ.x⟩
/-- a new handle -/
theorem Rl.grow (r : Rl K kx ρ G H) {p : Addr} {o : HO} {m : MO} (h : H p = none) (q : ∀ g : Gr ρ H (ρ.snoc p) (upd H p o), OR K kx (ρ.snoc p) (upd H p o) p m) : Gr ρ H (ρ.snoc p) (upd H p o) ∧ Rl K kx (ρ.snoc p) (G ++ [m]) (upd H p o) := by
  have g : Gr ρ H (ρ.snoc p) (upd H p o) := ⟨⟨⟨[p], rfl⟩, rfl⟩, (fun a z => by
      rcases List.mem_append.mp z with z | z
      · exact .inl z
      · have e : a = p := by simpa using z
        rw [e]
        exact .inr h), (fun a u e _ => by rw [upd_ne (ne_of_none e h)]; exact e), (fun a u e => by rw [upd_ne (ne_of_none e h)]; exact e), (fun a u v e => by rw [upd_ne (ne_of_none e h)]; exact e)⟩
  refine ⟨g, by rw [List.length_append, List.length_append, r.len]; rfl, ?_, fun i u e => ?_, fun c hc => (r.gl c hc).gr g, r.xs g⟩
  · rw [List.nodup_append]
    exact ⟨r.nd, by simp, fun a ha b hb z => by
      have e : b = p := by simpa using hb
      exact (r.free h).1 (by rw [← e, ← z]; exact ha)⟩
  · by_cases hi : i < G.length
    · rw [List.getElem?_append_left hi] at e
      obtain ⟨a, h1, h2⟩ := r.ob i u e
      refine ⟨a, by rw [List.getElem?_append_left (by rw [r.len]; exact hi)]; exact h1, h2.gr g (upd_ne fun z => (r.free h).1 (z ▸ List.mem_of_getElem? h1))⟩
    · rw [List.getElem?_append_right (by omega)] at e
      have e0 : i - G.length = 0 := by
        by_cases z : i - G.length = 0
        · exact z
        · rw [List.getElem?_eq_none (by simp; omega)] at e
          cases e
      have e1 : i = G.length := by omega
      rw [e0] at e
      simp at e
      subst e
      refine ⟨p, ?_, q g⟩
      rw [e1, ← r.len, List.getElem?_append_right (Nat.le_refl _)]
      simp
/-- a handle's object is written -/
theorem Rl.wr (r : Rl K kx ρ G H) {h : Nat} {a : Addr} {o : HO} {m : MO} (e : ρ.r[h]? = some a) (q : ∀ g : Gr ρ H ρ (upd H a o), OR K kx ρ (upd H a o) a m) : Gr ρ H ρ (upd H a o) ∧ Rl K kx ρ (G.set h m) (upd H a o) := by
  have ha : a ∈ ρ.r := List.mem_of_getElem? e
  obtain ⟨_, k0⟩ := r.mem ha
  obtain ⟨_, k1, k2⟩ := k0.kind
  have g : Gr ρ H ρ (upd H a o) := ⟨⟨⟨[], by simp⟩, rfl⟩, fun _ z => .inl z, (fun b u z n => (upd_ne (b := b) (a := a) (fun w => n (by rw [w]; exact ha))).trans z), (fun b u z => (upd_ne (b := b) (a := a) (fun w => k1 u (by rw [← w]; exact z))).trans z), (fun b u v z => (upd_ne (b := b) (a := a) (fun w => k2 u v (by rw [← w]; exact z))).trans z)⟩
  refine ⟨g, by rw [List.length_set]; exact r.len, r.nd, fun i u ei => ?_, fun c hc => (r.gl c hc).gr g, r.xs g⟩
  by_cases hi : i = h
  · subst hi
    have hl : i < G.length := by rw [← r.len]; exact (List.getElem?_eq_some_iff.mp e).1
    rw [List.getElem?_set_self hl] at ei
    cases ei
    exact ⟨a, e, q g⟩
  · rw [List.getElem?_set_ne (Ne.symm hi)] at ei
    obtain ⟨b, h1, h2⟩ := r.ob i u ei
    refine ⟨b, h1, h2.gr g (upd_ne fun z => hi ?_)⟩
    subst z
    obtain ⟨l1, e1⟩ := List.getElem?_eq_some_iff.mp h1
    obtain ⟨l2, e2⟩ := List.getElem?_eq_some_iff.mp e
    exact (List.getElem_inj r.nd).mp (e1.trans e2.symm)
end
section
variable {K : PySem.W.Frag} {kx : Kx} {ρ : Rh} {G : Sto} {H : Hp}
/-- a new list that is being filled -/
theorem Rl.fill (r : Rl K kx ρ G H) {p : Addr} (xs : List V) (h : H p = none) : Gw ρ H ⟨ρ.r, p :: ρ.x⟩ (upd H p (.lst xs)) ∧ Rl K kx ⟨ρ.r, p :: ρ.x⟩ G (upd H p (.lst xs)) := by
  have g : Gw ρ H ⟨ρ.r, p :: ρ.x⟩ (upd H p (.lst xs)) := ⟨⟨[], by simp⟩, (fun a ys e n1 n2 => ⟨(by rw [upd_ne (ne_of_none e h)]; exact e), n1, fun z => (List.mem_cons.mp z).elim (ne_of_none e h) n2⟩), (fun a u e => by rw [upd_ne (ne_of_none e h)]; exact e), (fun a u v e => by rw [upd_ne (ne_of_none e h)]; exact e)⟩
  refine ⟨g, r.len, r.nd, fun i o e => ?_, fun c hc => (r.gl c hc).gw g, fun a ha => ?_⟩
  · obtain ⟨a, h1, h2⟩ := r.ob i o e
    exact ⟨a, h1, h2.gw g (upd_ne fun z => (r.free h).1 (z ▸ List.mem_of_getElem? h1))⟩
  · rcases List.mem_cons.mp ha with z | z
    · subst z
      exact ⟨⟨_, upd_same⟩, (r.free h).1⟩
    · obtain ⟨⟨o, e⟩, n⟩ := r.xt a z
      exact ⟨⟨o, by rw [upd_ne (ne_of_none e h)]; exact e⟩, n⟩
/-- it is filled on -/
theorem Rl.more (r : Rl K kx ρ G H) {p : Addr} {xs : List V} (ys : List V) (hp : p ∈ ρ.x) (h : H p = some (.lst xs)) : Gw ρ H ρ (upd H p (.lst ys)) ∧ Rl K kx ρ G (upd H p (.lst ys)) := by
  have g : Gw ρ H ρ (upd H p (.lst ys)) := ⟨⟨[], by simp⟩, (fun a us e n1 n2 => ⟨(upd_ne (b := a) (a := p) (fun z => n2 (by rw [z]; exact hp))).trans e, n1, n2⟩), (fun a u e => (upd_ne (b := a) (a := p) (fun z => by rw [z, h] at e; cases e)).trans e), (fun a u v e => (upd_ne (b := a) (a := p) (fun z => by rw [z, h] at e; cases e)).trans e)⟩
  refine ⟨g, r.len, r.nd, fun i o e => ?_, fun c hc => (r.gl c hc).gw g, fun a ha => ?_⟩
  · obtain ⟨a, h1, h2⟩ := r.ob i o e
    exact ⟨a, h1, h2.gw g (upd_ne fun z => (r.xt p hp).2 (z ▸ List.mem_of_getElem? h1))⟩
  · obtain ⟨⟨o, e⟩, n⟩ := r.xt a ha
    refine ⟨?_, n⟩
    by_cases z : a = p
    · subst z
      exact ⟨_, upd_same⟩
    · exact ⟨o, by rw [upd_ne z]; exact e⟩
/-- it is full, and stays -/
theorem Rl.full {r0 x0 : List Addr} {p : Addr} (r : Rl K kx ⟨r0, p :: x0⟩ G H) : Gw ⟨r0, p :: x0⟩ H ⟨r0, x0⟩ H ∧ Rl K kx ⟨r0, x0⟩ G H := by
  have g : Gw ⟨r0, p :: x0⟩ H ⟨r0, x0⟩ H := ⟨⟨[], by simp⟩, fun a us e n1 n2 => ⟨e, n1, fun z => n2 (List.mem_cons_of_mem _ z)⟩, fun a u e => e, fun a u v e => e⟩
  exact ⟨g, r.len, r.nd, (fun i o e => by
    obtain ⟨a, h1, h2⟩ := r.ob i o e
    exact ⟨a, h1, h2.gw g rfl⟩), fun c hc => (r.gl c hc).gw g, fun a ha => r.xt a (List.mem_cons_of_mem _ ha)⟩
/-- it is full, and gets a handle -/
theorem Rl.fullM {r0 x0 : List Addr} {p : Addr} {xs : List V} {ds : List Dv} (r : Rl K kx ⟨r0, p :: x0⟩ G H) (np : p ∉ x0) (h : H p = some (.lst xs)) (d : DRs K ⟨r0, p :: x0⟩ H ds xs) : Gw ⟨r0, p :: x0⟩ H ⟨r0 ++ [p], x0⟩ H ∧ Rl K kx ⟨r0 ++ [p], x0⟩ (G ++ [.lst ds]) H := by
  have hpr : p ∉ r0 := (r.xt p (List.mem_cons_self ..)).2
  have g : Gw ⟨r0, p :: x0⟩ H ⟨r0 ++ [p], x0⟩ H := ⟨⟨[p], rfl⟩, (fun a us e n1 n2 => ⟨e, (fun z => by
      rcases List.mem_append.mp z with z | z
      · exact n1 z
      · exact n2 (by have : a = p := by simpa using z
                     rw [this]; exact List.mem_cons_self ..)), fun z => n2 (List.mem_cons_of_mem _ z)⟩), fun a u e => e, fun a u v e => e⟩
  refine ⟨g, by simp [show r0.length = G.length from r.len], ?_, fun i o e => ?_, fun c hc => (r.gl c hc).gw g, fun a ha => ?_⟩
  · show (r0 ++ [p]).Nodup
    rw [List.nodup_append]
    exact ⟨r.nd, by simp, fun a ha b hb z => by
      have e : b = p := by simpa using hb
      exact hpr (by rw [← e, ← z]; exact ha)⟩
  · have hl : r0.length = G.length := r.len
    by_cases hi : i < G.length
    · rw [List.getElem?_append_left hi] at e
      obtain ⟨a, h1, h2⟩ := r.ob i o e
      exact ⟨a, by show (r0 ++ [p])[i]? = _; rw [List.getElem?_append_left (by omega)]; exact h1, h2.gw g rfl⟩
    · have e1 : i = G.length := by
        have := (List.getElem?_eq_some_iff.mp e).1
        simp at this
        omega
      subst e1
      rw [List.getElem?_append_right (Nat.le_refl _)] at e
      simp at e
      subst e
      exact ⟨p, by show (r0 ++ [p])[G.length]? = _; rw [← hl, List.getElem?_append_right (Nat.le_refl _)]; simp, .lst h (d.gw g)⟩
  · obtain ⟨e, n⟩ := r.xt a (List.mem_cons_of_mem _ ha)
    refine ⟨e, fun z => ?_⟩
    rcases List.mem_append.mp z with z | z
    · exact n z
    · have : a = p := by simpa using z
      exact np (this ▸ ha)
end
/-- the slots bear their data -/
structure Sr (K : PySem.W.Frag) (ρ : Rh) (H : Hp) (δ : Sl) (σ : St) : Prop where
  len : δ.length = σ.length
  at_ : ∀ (i : Nat) (d : Dv), δ[i]? = some (some d) → ∃ v, σ[i]? = some (some v) ∧ DR K ρ H d v
section
variable {K : PySem.W.Frag} {ρ ρ' : Rh} {H H' : Hp} {δ : Sl} {σ : St}
theorem Sr.gw (s : Sr K ρ H δ σ) (g : Gw ρ H ρ' H') : Sr K ρ' H' δ σ := ⟨s.len, fun i d e => let ⟨v, h1, h2⟩ := s.at_ i d e; ⟨v, h1, h2.gw g⟩⟩
theorem Sr.gr (s : Sr K ρ H δ σ) (g : Gr ρ H ρ' H') : Sr K ρ' H' δ σ := ⟨s.len, fun i d e => let ⟨v, h1, h2⟩ := s.at_ i d e; ⟨v, h1, h2.gr g⟩⟩
theorem Sr.set (s : Sr K ρ H δ σ) {d : Dv} {v : V} (i : Nat) (h : DR K ρ H d v) : Sr K ρ H (δ.set i (some d)) (σ.set i (some v)) := by
  refine ⟨by rw [List.length_set, List.length_set]; exact s.len, fun j e hj => ?_⟩
  by_cases hij : j = i
  · subst hij
    have hl : j < δ.length := by
      have := (List.getElem?_eq_some_iff.mp hj).1
      rw [List.length_set] at this
      exact this
    rw [List.getElem?_set_self hl] at hj
    cases hj
    exact ⟨v, List.getElem?_set_self (by rw [← s.len]; exact hl), h⟩
  · rw [List.getElem?_set_ne (Ne.symm hij)] at hj
    obtain ⟨w, h1, h2⟩ := s.at_ j e hj
    exact ⟨w, by rw [List.getElem?_set_ne (Ne.symm hij)]; exact h1, h2⟩
theorem Sr.wipe (s : Sr K ρ H δ σ) : ∀ vs : List Nat, Sr K ρ H (Mi.wipe δ vs) (L2.wipe σ vs)
  | [] => s
  | i :: vs => by
    have t := Sr.wipe s vs
    show Sr K ρ H ((Mi.wipe δ vs).set i none) ((L2.wipe σ vs).set i none)
    refine ⟨by rw [List.length_set, List.length_set]; exact t.len, fun j e hj => ?_⟩
    by_cases hij : j = i
    · subst hij
      have hl : j < (Mi.wipe δ vs).length := by
        have := (List.getElem?_eq_some_iff.mp hj).1
        rw [List.length_set] at this
        exact this
      rw [List.getElem?_set_self hl] at hj
      cases hj
    · rw [List.getElem?_set_ne (Ne.symm hij)] at hj
      obtain ⟨w, h1, h2⟩ := t.at_ j e hj
      exact ⟨w, by rw [List.getElem?_set_ne (Ne.symm hij)]; exact h1, h2⟩
theorem Sr.start {N : List Str} : ∀ {xs : List Dv} {vs : List V}, DRs K ρ H xs vs → Sr K ρ H (xs.map some ++ List.replicate (N.length - vs.length) none) (start N vs) := fun {xs vs} r => by
  have hl := r.len
  refine ⟨by unfold L2.start; simp [hl], fun i d e => ?_⟩
  have hi : i < xs.length := by
    by_cases hi : i < xs.length
    · exact hi
    · rw [List.getElem?_append_right (by simp; omega), List.getElem?_replicate] at e
      split at e <;> cases e
  rw [List.getElem?_append_left (by simpa using hi), List.getElem?_map] at e
  cases ex : xs[i]? with
  | none => rw [ex] at e; cases e
  | some d' =>
    rw [ex] at e
    cases e
    obtain ⟨v, h1, h2⟩ := r.get ex
    refine ⟨v, ?_, h2⟩
    unfold L2.start
    rw [List.getElem?_append_left (by rw [List.length_map]; omega), List.getElem?_map, h1]
    rfl
end
end Ms

/-! PyS2: readings from the mirror; expressions. -/
namespace Ms
open PySem L2
open Mi (Dv MO Sto Sl Rs bnd ME MT MA MS MF Fl MG MGs MI)

def tM (K : PySem.W.Frag) (kx : Kx) (m : ME) : TE := fun σ H Q => ∃ (ρ : Rh) (G : Sto) (δ : Sl) (d : Dv) (G' : Sto), Rl K kx ρ G H ∧ Sr K ρ H δ σ ∧ m δ G = some (d, G') ∧
  ∀ v ρ' H', Gr ρ H ρ' H' → Rl K kx ρ' G' H' → DR K ρ' H' d v → Q v H'
def tMT (K : PySem.W.Frag) (kx : Kx) (m : MT) : TT := fun σ H Q => ∃ (ρ : Rh) (G : Sto) (δ : Sl) (b : Bool) (G' : Sto), Rl K kx ρ G H ∧ Sr K ρ H δ σ ∧ m δ G = some (b, G') ∧
  ∀ ρ' H', Gr ρ H ρ' H' → Rl K kx ρ' G' H' → Q b H'
def tMA (K : PySem.W.Frag) (kx : Kx) (m : MA) : TA := fun σ H Q => ∃ (ρ : Rh) (G : Sto) (δ : Sl) (ds : List Dv) (G' : Sto), Rl K kx ρ G H ∧ Sr K ρ H δ σ ∧ m δ G = some (ds, G') ∧
  ∀ vs ρ' H', Gr ρ H ρ' H' → Rl K kx ρ' G' H' → DRs K ρ' H' ds vs → Q vs H'
theorem _root_.L2.PE.imp {X : Cx} {e : Expr} {t u : TE} (h : PE X e t) (i : ∀ σ H Q, u σ H Q → t σ H Q) : PE X e u := ⟨fun pins s σ H Q I q => h.run pins s σ H Q I (i σ H Q q)⟩
theorem _root_.L2.PT.imp {X : Cx} {e : Expr} {t u : TT} (h : PT X e t) (i : ∀ σ H Q, u σ H Q → t σ H Q) : PT X e u := ⟨fun pins s σ H Q I q => h.run pins s σ H Q I (i σ H Q q)⟩
theorem _root_.L2.PW.imp {X : Cx} {e : Expr} {t u : TT} (h : PW X e t) (i : ∀ σ H Q, u σ H Q → t σ H Q) : PW X e u := ⟨fun w pins s σ H Q I q => h.run w pins s σ H Q I (i σ H Q q)⟩
theorem _root_.L2.PA.imp {X : Cx} {e : List Expr} {t u : TA} (h : PA X e t) (i : ∀ σ H Q, u σ H Q → t σ H Q) : PA X e u := ⟨fun p pins s σ H Q I q => h.run p pins s σ H Q I (i σ H Q q)⟩
/-- one of two readings, chosen by what holds -/
theorem _root_.L2.PE.or {X : Cx} {e : Expr} {t u : TE} (h : PE X e t) (h' : PE X e u) : PE X e (fun σ H Q => t σ H Q ∨ u σ H Q) := ⟨fun pins s σ H Q I q => q.elim (h.run pins s σ H Q I) (h'.run pins s σ H Q I)⟩
theorem big_line : Mi.big = sizeLine := by
  rw [sizeLine_eq]
  rfl
section
variable {X : Cx} {kx : Kx} {e a b c : Expr} {ma mb mc me : ME} {pos : Pos}

/-! ### names, constants -/
theorem m_var (i : Nat) {x : Str} (hN : X.N[i]? = some x := by rfl) (hv : Vis X.env.scope x := by first | exact Or.inl rfl | exact Or.inr (Or.inl rfl) | exact Or.inr (Or.inr rfl)) (hd : (x == ("__debug__" : Str)) = false := by decide) (hcd : (x == ("__classdict__" : Str)) = false := by decide) :
    PE X (.Name x pos) (tM X.K kx (Mi.mVar i)) := (pe_var hN hv hd hcd).imp fun σ H Q ⟨ρ, G, δ, d, G', rl, sr, e, k⟩ => by
  unfold Mi.mVar at e
  split at e
  · rename_i d' ed
    cases e
    obtain ⟨v, h1, h2⟩ := sr.at_ i d ed
    exact ⟨v, h1, k v ρ H Gr.refl rl h2⟩
  · cases e
theorem m_const {d : Dv} {v : V} (h : PE X e (tC v)) (hd : ∀ ρ H G, Rl X.K kx ρ G H → DR X.K ρ H d v) : PE X e (tM X.K kx (Mi.mC d)) := h.imp fun σ H Q ⟨ρ, G, δ, d', G', rl, sr, e, k⟩ => by
  cases e
  exact k v ρ H Gr.refl rl (hd ρ H G rl)
theorem m_int {i : Int} {j} : PE X (.Constant (.int i) j pos) (tM X.K kx (Mi.mC (.int i))) := m_const pe_int fun _ _ _ _ => .int i
theorem m_bl {b : Bool} {j} : PE X (.Constant (.bool b) j pos) (tM X.K kx (Mi.mC (.bl b))) := m_const pe_bl fun _ _ _ _ => .bl b
theorem m_non {j} : PE X (.Constant .none j pos) (tM X.K kx (Mi.mC .non)) := m_const pe_non fun _ _ _ _ => .non
theorem m_str {x : String} {j} : PE X (.Constant (.str (Str.ofString x)) j pos) (tM X.K kx (Mi.mC (.str x))) := m_const pe_str fun _ _ _ _ => .str x
/-- a constant of the top -/
theorem m_glob {x : Str} {v : V} {d : Dv} {u : Value} (hm : X.mg x = some u) (r : RelV v u) (hc : (v, d) ∈ kx.cs) (hg : Gl X x := by rfl) (hd : (x == ("__debug__" : Str)) = false := by decide) : PE X (.Name x pos) (tM X.K kx (Mi.mC d)) :=
  m_const (pe_glob hg hm r hd) fun _ _ _ rl => rl.gl _ hc
theorem m_globI {x : Str} {i : Int} (hm : ∃ t, X.mg x = some (.int i t)) (hg : Gl X x := by rfl) (hd : (x == ("__debug__" : Str)) = false := by decide) : PE X (.Name x pos) (tM X.K kx (Mi.mC (.int i))) := by
  obtain ⟨t, h⟩ := hm
  exact m_const (pe_glob (v := .int i) hg h ⟨t, rfl⟩ hd) fun _ _ _ _ => .int i

/-! ### two places -/
/-- an operation of the mirror against a rule by values -/
def B2ok (X : Cx) (kx : Kx) (f : Mi.B2) (r : R2) : Prop := ∀ (x y : Dv) (G : Sto) (d : Dv) (G' : Sto) (ρ : Rh) (H : Hp) (v w : V) (Q : VK), f x y G = some (d, G') → Rl X.K kx ρ G H → DR X.K ρ H x v → DR X.K ρ H y w →
  (∀ z ρ' H', Gr ρ H ρ' H' → Rl X.K kx ρ' G' H' → DR X.K ρ' H' d z → Q z H') → r v w H Q
theorem bin2 {f : Mi.B2} {r : R2} (hf : B2ok X kx f r) {σ : St} {H : Hp} {Q : VK} (h : tM X.K kx (Mi.m2 f ma mb) σ H Q) : tOp r (tM X.K kx ma) (tM X.K kx mb) σ H Q := by
  obtain ⟨ρ, G, δ, d, G', rl, sr, e, k⟩ := h
  obtain ⟨x, G1, e1, e⟩ := Mi.bnd_eq e
  obtain ⟨y, G2, e2, e⟩ := Mi.bnd_eq e
  exact ⟨ρ, G, δ, x, G1, rl, sr, e1, fun v ρ1 H1 g1 r1 d1 => ⟨ρ1, G1, δ, y, G2, r1, sr.gr g1, e2, fun w ρ2 H2 g2 r2 d2 =>
    hf x y G2 d G' ρ2 H2 v w Q e r2 (d1.gr g2) d2 fun z ρ' H' g r q => k z ρ' H' ((g1.trans g2).trans g) r q⟩⟩
theorem m_op {op : Operator} {f : Mi.B2} {r : R2} (ho : OpR X (binaryOp op) r) (hf : B2ok X kx f r) (ha : PE X a (tM X.K kx ma)) (hb : PE X b (tM X.K kx mb)) : PE X (.BinOp a op b pos) (tM X.K kx (Mi.m2 f ma mb)) :=
  (pe_op ho ha hb).imp fun _ _ _ h => bin2 hf h
theorem m_cmp {op : CmpOp} {f : Mi.B2} {r : R2} (ho : OpR X (compareOp op) r) (hf : B2ok X kx f r) (ha : PE X a (tM X.K kx ma)) (hb : PE X b (tM X.K kx mb)) (hm : behindInMarks op b = false) : PE X (.Compare a [op] [b] pos) (tM X.K kx (Mi.m2 f ma mb)) :=
  (pe_cmpR ho ha hb hm).imp fun _ _ _ h => bin2 hf h
/-- a truth value as a test -/
theorem tTb {t : TE} {σ : St} {H : Hp} {Q : Bool → Hp → Prop} (ht : ∀ R : VK, tM X.K kx me σ H R → t σ H R) (h : tMT X.K kx (Mi.mTb me) σ H Q) : t σ H fun x H' => ∃ k, x = .bl k ∧ Q k H' := by
  obtain ⟨ρ, G, δ, bb, G', rl, sr, e, k⟩ := h
  obtain ⟨x, G1, e1, e⟩ := Mi.bnd_eq e
  refine ht _ ⟨ρ, G, δ, x, G1, rl, sr, e1, fun v ρ' H' g r q => ?_⟩
  split at e
  · cases e
    cases q
    exact ⟨bb, rfl, k ρ' H' g r⟩
  · cases e
theorem m_cmpT {op : CmpOp} {f : Mi.B2} {r : R2} (ho : OpR X (compareOp op) r) (hf : B2ok X kx f r) (ha : PE X a (tM X.K kx ma)) (hb : PE X b (tM X.K kx mb)) (hm : behindInMarks op b = false) : PT X (.Compare a [op] [b] pos) (tMT X.K kx (Mi.mTb (Mi.m2 f ma mb))) :=
  (pt_cmpR ho ha hb hm).imp fun _ _ _ h => tTb (fun _ h => bin2 hf h) h
/-- a new list, frozen or with a handle -/
theorem mkL_ok {K : PySem.W.Frag} {ρ : Rh} {G : Sto} {H : Hp} {m : Bool} {xs : List Dv} {vs : List V} {Q : VK} (rl : Rl K kx ρ G H) (r : DRs K ρ H xs vs)
    (k : ∀ z ρ' H', Gr ρ H ρ' H' → Rl K kx ρ' (Mi.mkL m xs G).2 H' → DR K ρ' H' (Mi.mkL m xs G).1 z → Q z H') : ∀ p, H p = none → Q (.ref p) (upd H p (.lst vs)) := fun p hp => by
  cases m with
  | true =>
    obtain ⟨g, r2⟩ := rl.grow (o := .lst vs) (m := .lst xs) hp fun g => .lst upd_same (r.gr g)
    exact k (.ref p) _ _ g r2 (.ref (by rw [show Mi.mkL true xs G = (Dv.ref G.length, G ++ [MO.lst xs]) from rfl] at *; rw [← rl.len, List.getElem?_append_right (Nat.le_refl _)]; simp))
  | false =>
    obtain ⟨g, r2⟩ := rl.side (.lst vs) hp
    exact k (.ref p) _ _ g r2 (.fls upd_same (rl.free hp) (r.gr g))
theorem tup_ok {K : PySem.W.Frag} {ρ : Rh} {G : Sto} {H : Hp} {xs : List Dv} {vs : List V} {Q : VK} (rl : Rl K kx ρ G H) (r : DRs K ρ H xs vs)
    (k : ∀ z ρ' H', Gr ρ H ρ' H' → Rl K kx ρ' G H' → DR K ρ' H' (.tup xs) z → Q z H') : ∀ p, H p = none → Q (.ref p) (upd H p (.tup vs)) := fun p hp => by
  obtain ⟨g, r2⟩ := rl.side (.tup vs) hp
  exact k (.ref p) _ _ g r2 (.tup (SqT.of upd_same) (r.gr g))
theorem lst_at {K : PySem.W.Frag} {ρ : Rh} {G : Sto} {H : Hp} {h : Nat} {a : Addr} {xs : List Dv} (rl : Rl K kx ρ G H) (e : G[h]? = some (.lst xs)) (ea : ρ.r[h]? = some a) : ∃ vs, H a = some (.lst vs) ∧ DRs K ρ H xs vs := by
  have o := rl.at ea e
  cases o with
  | lst h r => exact ⟨_, h, r⟩
theorem dct_at {K : PySem.W.Frag} {ρ : Rh} {G : Sto} {H : Hp} {h : Nat} {a : Addr} {kvs : List (Mi.Key × Dv)} (rl : Rl K kx ρ G H) (e : G[h]? = some (.dct kvs)) (ea : ρ.r[h]? = some a) : ∃ ks, H a = some (.dK ks) ∧ KR K ρ H kvs ks := by
  have o := rl.at ea e
  cases o with
  | dct h r => exact ⟨_, h, r⟩
theorem ins_at {K : PySem.W.Frag} {ρ : Rh} {G : Sto} {H : Hp} {h : Nat} {a : Addr} {c : Nat} {fs : List (String × Dv)} (rl : Rl K kx ρ G H) (e : G[h]? = some (.ins c fs)) (ea : ρ.r[h]? = some a) : ∃ dx fs', H a = some (.ins (kx.ca c) dx fs') ∧ FR K ρ H fs fs' := by
  have o := rl.at ea e
  cases o with
  | ins h r => exact ⟨_, _, h, r⟩

def rAdds (K : PySem.W.Frag) : R2 := fun x y H Q => rI0 (fun i j => .int (i + j)) x y H Q ∨ (rCatA K x y H Q ∨ rCat x y H Q)
theorem op_adds : OpR X (binaryOp .Add) (rAdds X.K) := OpR.or op_add (OpR.or op_catA op_cat)
theorem b_add (m : Bool) : B2ok X kx (Mi.bAdd m) (rAdds X.K) := by
  intro x y G d G' ρ H v w Q e rl dx dy k
  unfold Mi.bAdd at e
  split at e
  · cases e
    cases dx
    cases dy
    exact .inl ⟨_, _, rfl, rfl, k _ ρ H Gr.refl rl (.int _)⟩
  · split at e
    · rename_i hz
      cases e
      cases dx with
      | tup h1 r1 =>
        cases dy with
        | tup h2 r2 =>
          refine .inr (.inl ⟨_, _, _, _, rfl, rfl, h1, h2, ?_, fun z => ?_, fun z z2 => ?_, fun z z2 => ?_⟩)
          · rw [← r1.len, ← r2.len, ← big_line]
            exact hz
          · have z' := r1.isNil.mpr z
            subst z'
            exact k _ ρ H Gr.refl rl (.tup h2 (by simpa using r2))
          · have z' := r2.isNil.mpr z2
            subst z'
            exact k _ ρ H Gr.refl rl (.tup h1 (by simpa using r1))
          · exact tup_ok rl (r1.app r2) k
    · cases e
  · split at e
    · rename_i hz
      have e' := Option.some.inj e
      cases dx with
      | fls h1 n1 r1 =>
        cases dy with
        | fls h2 n2 r2 =>
          refine .inr (.inr ⟨_, _, _, _, rfl, rfl, h1, h2, ?_, ?_⟩)
          · rw [← r1.len, ← r2.len, ← big_line]
            exact hz
          · refine mkL_ok (m := m) rl (r1.app r2) ?_
            rw [e']
            exact k
    · cases e
  · split at e
    · rename_i a0 eh
      split at e
      · rename_i hz
        have e' := Option.some.inj e
        cases dx with
        | ref ea =>
          obtain ⟨vs, h1, r1⟩ := lst_at rl eh ea
          cases dy with
          | fls h2 n2 r2 =>
            refine .inr (.inr ⟨_, _, _, _, rfl, rfl, h1, h2, ?_, ?_⟩)
            · rw [← r1.len, ← r2.len, ← big_line]
              exact hz
            · refine mkL_ok (m := m) rl (r1.app r2) ?_
              rw [e']
              exact k
      · cases e
    · cases e
  · cases e
theorem b_sub : B2ok X kx Mi.bSub (rI0 fun i j => .int (i - j)) := by
  intro x y G d G' ρ H v w Q e rl dx dy k
  unfold Mi.bSub at e
  split at e
  · cases e
    cases dx
    cases dy
    exact ⟨_, _, rfl, rfl, k _ ρ H Gr.refl rl (.int _)⟩
  · cases e
def rMuls (K : PySem.W.Frag) : R2 := fun x y H Q => rI CMul (fun i j => .int (i * j)) x y H Q ∨ (rRepT K x y H Q ∨ rRep x y H Q)
theorem op_muls : OpR X (binaryOp .Mult) (rMuls X.K) := OpR.or op_mul (OpR.or op_repT op_rep)
theorem b_mul (m : Bool) : B2ok X kx (Mi.bMul m) (rMuls X.K) := by
  intro x y G d G' ρ H v w Q e rl dx dy k
  unfold Mi.bMul at e
  split at e
  · split at e
    · rename_i hz
      cases e
      cases dx
      cases dy
      refine .inl ⟨_, _, rfl, rfl, ?_, k _ ρ H Gr.refl rl (.int _)⟩
      unfold Mi.okMul at hz
      simp only [Bool.or_eq_true, Bool.and_eq_true, decide_eq_true_eq] at hz
      exact hz
    · cases e
  · split at e
    · rename_i hz
      obtain ⟨z1, z2, z3, z4⟩ := hz
      cases e
      cases dx with
      | tup h1 r1 =>
        cases dy
        refine .inr (.inl ⟨_, _, _, rfl, rfl, h1, fun z => z1 (r1.isNil.mpr z), z2, z3, by rw [← r1.len]; exact z4, ?_⟩)
        exact tup_ok rl (r1.rep _) k
    · cases e
  · split at e
    · rename_i hz
      obtain ⟨z1, z2, z3⟩ := hz
      have e' := Option.some.inj e
      cases dx with
      | fls h1 n1 r1 =>
        cases dy
        refine .inr (.inr ⟨_, _, _, rfl, rfl, h1, z1, z2, by rw [← r1.len, ← big_line]; exact z3, ?_⟩)
        refine mkL_ok (m := m) rl (r1.rep _) ?_
        rw [e']
        exact k
    · cases e
  · cases e
theorem b_div : B2ok X kx Mi.bDiv (rI CDiv fun i j => .int (i / j)) := by
  intro x y G d G' ρ H v w Q e rl dx dy k
  unfold Mi.bDiv at e
  split at e
  · split at e
    · rename_i hz
      cases e
      cases dx
      cases dy
      exact ⟨_, _, rfl, rfl, hz, k _ ρ H Gr.refl rl (.int _)⟩
    · cases e
  · cases e
theorem b_mod : B2ok X kx Mi.bMod (rI (fun _ j => 0 < j) fun i j => .int (i % j)) := by
  intro x y G d G' ρ H v w Q e rl dx dy k
  unfold Mi.bMod at e
  split at e
  · split at e
    · rename_i hz
      cases e
      cases dx
      cases dy
      exact ⟨_, _, rfl, rfl, hz, k _ ρ H Gr.refl rl (.int _)⟩
    · cases e
  · cases e
theorem b_pow : B2ok X kx Mi.bPow (rI CPow fun i j => .int (i ^ j.toNat)) := by
  intro x y G d G' ρ H v w Q e rl dx dy k
  unfold Mi.bPow at e
  split at e
  · split at e
    · rename_i hz
      cases e
      cases dx
      cases dy
      exact ⟨_, _, rfl, rfl, hz, k _ ρ H Gr.refl rl (.int _)⟩
    · cases e
  · cases e
theorem b_cmp {p : Int → Int → Bool} : B2ok X kx (Mi.bCmp p) (rI0 fun i j => .bl (p i j)) := by
  intro x y G d G' ρ H v w Q e rl dx dy k
  unfold Mi.bCmp at e
  split at e
  · cases e
    cases dx
    cases dy
    exact ⟨_, _, rfl, rfl, k _ ρ H Gr.refl rl (.bl _)⟩
  · cases e
theorem m_neg (ha : PE X a (tM X.K kx ma)) : PE X (.UnaryOp .USub a pos) (tM X.K kx (Mi.m1 Mi.uNeg ma)) := (pe_un un_neg ha).imp fun σ H Q ⟨ρ, G, δ, d, G', rl, sr, e, k⟩ => by
  obtain ⟨x, G1, e1, e⟩ := Mi.bnd_eq e
  refine ⟨ρ, G, δ, x, G1, rl, sr, e1, fun v ρ1 H1 g1 r1 d1 => ?_⟩
  unfold Mi.uNeg at e
  split at e
  · cases e
    cases d1
    exact ⟨_, rfl, k _ _ _ g1 r1 (.int _)⟩
  · cases e
/-! ### equality -/
theorem ints_of {K : PySem.W.Frag} {ρ : Rh} {H : Hp} : ∀ {ds : List Dv} {vs : List V} {ns : List Int}, Mi.intsOf ds = some ns → DRs K ρ H ds vs → vs = ns.map V.int
  | [], _, _, e, .nil => by
    cases e
    rfl
  | .int i :: r, _, ns, e, .cons a b => by
    unfold Mi.intsOf at e
    cases er : Mi.intsOf r with
    | none => rw [er] at e; cases e
    | some ms =>
      rw [er] at e
      cases e
      cases a
      rw [List.map_cons, ints_of er b]
  | .non :: _, _, _, e, _ => nomatch e
  | .bl _ :: _, _, _, e, _ => nomatch e
  | .str _ :: _, _, _, e, _ => nomatch e
  | .tup _ :: _, _, _, e, _ => nomatch e
  | .fls _ :: _, _, _, e, _ => nomatch e
  | .scr _ :: _, _, _, e, _ => nomatch e
  | .ref _ :: _, _, _, e, _ => nomatch e
theorem dpInts {K : PySem.W.Frag} {H : Hp} : ∀ ns : List Int, DpAll K H (ns.map V.int) (ns.map PyData.int)
  | [] => .nil
  | n :: r => .cons (.int n) (dpInts r)
theorem eqvAll_ints : ∀ ns ms : List Int, PyData.eqvAll (ns.map PyData.int) (ms.map PyData.int) = decide (ns = ms)
  | [], ms => by cases ms <;> simp [PyData.eqvAll]
  | n :: r, [] => by rw [List.map_nil, List.map_cons, PyData.eqvAll, decide_eq_false (List.cons_ne_nil n r)]
  | n :: r, m :: s => by
    rw [List.map_cons, List.map_cons, PyData.eqvAll, eqvAll_ints r s, PyData.eqv]
    by_cases h1 : n = m <;> by_cases h2 : r = s <;> simp [h1, h2]
theorem canLay_ints : ∀ ns : List Int, PyData.canLayAll0 (ns.map PyData.int) = true
  | [] => by rw [List.map_nil, PyData.canLayAll0]
  | n :: r => by simp [PyData.canLayAll0, PyData.canLay0, canLay_ints r]
theorem depth_ints : ∀ ns : List Int, PyData.depthAll (ns.map PyData.int) ≤ 1
  | [] => by rw [List.map_nil, PyData.depthAll]; exact Nat.zero_le 1
  | n :: r => by
    have := depth_ints r
    simp [PyData.depthAll, PyData.depth]
    omega
theorem shaped_list (ns : List Int) : SeqAt.shaped (.list (ns.map PyData.int)) = true := by
  have h := depth_ints ns
  refine Bool.and_eq_true_iff.mpr ⟨by simp [PyData.canLay0, canLay_ints], decide_eq_true ?_⟩
  have e : PyData.depth (.list (ns.map PyData.int)) ≤ PyData.depthAll (ns.map PyData.int) + 1 := by simp [PyData.depth]
  omega
theorem shaped_tuple (ns : List Int) : SeqAt.shaped (.tuple (ns.map PyData.int)) = true := by
  have h := depth_ints ns
  refine Bool.and_eq_true_iff.mpr ⟨by simp [PyData.canLay0, canLay_ints], decide_eq_true ?_⟩
  have e : PyData.depth (.tuple (ns.map PyData.int)) ≤ PyData.depthAll (ns.map PyData.int) + 1 := by simp [PyData.depth]
  omega
/-- a list's place and items -/
theorem lstOf_at {K : PySem.W.Frag} {ρ : Rh} {G : Sto} {H : Hp} {d : Dv} {v : V} {xs : List Dv} (rl : Rl K kx ρ G H) (e : Mi.lstOf G d = some xs) (r : DR K ρ H d v) : ∃ a vs, v = .ref a ∧ SqL K H a vs ∧ DRs K ρ H xs vs := by
  unfold Mi.lstOf at e
  split at e
  · cases e
    cases r with
    | fls h n r => exact ⟨_, _, rfl, SqL.of h, r⟩
  · cases e
    cases r with
    | scr h => exact ⟨_, _, rfl, h.sq, DRs.ints⟩
  · cases r with
    | ref ea =>
      split at e
      · rename_i eh
        cases e
        obtain ⟨vs, h1, r1⟩ := lst_at rl eh ea
        exact ⟨_, vs, rfl, SqL.of h1, r1⟩
      · cases e
  · cases e
def rEqs (K : PySem.W.Frag) : R2 := fun x y H Q => rEq x y H Q ∨ rEqD K x y H Q
def rNes (K : PySem.W.Frag) : R2 := fun x y H Q => rNe x y H Q ∨ rNeD K x y H Q
theorem op_eqs (hu : X.A.units + 64 < cLine) : OpR X (compareOp .Eq) (rEqs X.K) := OpR.or op_eq (op_eqD hu)
theorem op_nes (hu : X.A.units + 64 < cLine) : OpR X (compareOp .NotEq) (rNes X.K) := OpR.or op_ne (op_neD hu)
theorem sEq_ok {K : PySem.W.Frag} {ρ : Rh} {H : Hp} {x y : Dv} {v w : V} {r : Bool} (e : Mi.sEq x y = some r) (dx : DR K ρ H x v) (dy : DR K ρ H y w) : scal v w = true ∧ decide (v = w) = r := by
  unfold Mi.sEq at e
  split at e <;> first
    | (cases e; cases dx; cases dy; refine ⟨rfl, ?_⟩; simp; done)
    | (cases e; cases dx; cases dy; refine ⟨rfl, ?_⟩; rename_i a b; cases a <;> cases b <;> simp; done)
    | (cases e; cases dx; cases dy; refine ⟨rfl, ?_⟩; rename_i a b; by_cases h : a = b
       · simp [h]
       · have h2 : ¬ Str.ofString a = Str.ofString b := fun z => h (ofString_inj z)
         simp [h, h2])
    | cases e
theorem qEq_ok {K : PySem.W.Frag} {ρ : Rh} {G : Sto} {H : Hp} {x y : Dv} {v w : V} {r : Bool} (rl : Rl K kx ρ G H) (e : Mi.qEq G x y = some r) (dx : DR K ρ H x v) (dy : DR K ρ H y w) :
    ∃ d e, Dp K H v d ∧ Dp K H w e ∧ SeqAt.shaped d = true ∧ SeqAt.shaped e = true ∧ PyData.eqv d e = r := by
  unfold Mi.qEq at e
  split at e
  · split at e
    · rename_i p q ep eq
      cases e
      cases dx with
      | tup h1 r1 =>
        cases dy with
        | tup h2 r2 =>
          have v1 := ints_of ep r1
          have v2 := ints_of eq r2
          subst v1 v2
          exact ⟨_, _, .tup h1 (dpInts p), .tup h2 (dpInts q), shaped_tuple p, shaped_tuple q, by rw [PyData.eqv]; exact eqvAll_ints p q⟩
    · cases e
  · split at e
    · rename_i as bs ea eb
      split at e
      · rename_i p q ep eq
        cases e
        obtain ⟨a1, vs, rfl, h1, r1⟩ := lstOf_at rl ea dx
        obtain ⟨a2, ws, rfl, h2, r2⟩ := lstOf_at rl eb dy
        have v1 := ints_of ep r1
        have v2 := ints_of eq r2
        subst v1 v2
        exact ⟨_, _, .lst h1 (dpInts p), .lst h2 (dpInts q), shaped_list p, shaped_list q, by rw [PyData.eqv]; exact eqvAll_ints p q⟩
      · cases e
    · cases e
theorem b_eq : B2ok X kx (Mi.bEq false) (rEqs X.K) := by
  intro x y G d G' ρ H v w Q e rl dx dy k
  unfold Mi.bEq at e
  split at e
  · rename_i r er
    cases e
    obtain ⟨h1, h2⟩ := sEq_ok er dx dy
    refine .inl ⟨h1, ?_⟩
    rw [h2]
    have := k (.bl (r != false)) ρ H Gr.refl rl (.bl _)
    simpa using this
  · split at e
    · rename_i r er
      cases e
      obtain ⟨d1, e1, h1, h2, h3, h4, h5⟩ := qEq_ok rl er dx dy
      refine .inr ⟨d1, e1, h1, h2, h3, h4, ?_⟩
      rw [h5]
      have := k (.bl (r != false)) ρ H Gr.refl rl (.bl _)
      simpa using this
    · cases e
theorem b_ne : B2ok X kx (Mi.bEq true) (rNes X.K) := by
  intro x y G d G' ρ H v w Q e rl dx dy k
  unfold Mi.bEq at e
  split at e
  · rename_i r er
    cases e
    obtain ⟨h1, h2⟩ := sEq_ok er dx dy
    refine .inl ⟨h1, ?_⟩
    rw [h2]
    have := k (.bl (r != true)) ρ H Gr.refl rl (.bl _)
    simpa using this
  · split at e
    · rename_i r er
      cases e
      obtain ⟨d1, e1, h1, h2, h3, h4, h5⟩ := qEq_ok rl er dx dy
      refine .inr ⟨d1, e1, h1, h2, h3, h4, ?_⟩
      rw [h5]
      have := k (.bl (r != true)) ρ H Gr.refl rl (.bl _)
      simpa using this
    · cases e
end
end Ms

/-! PyS3: chains, tests, displays, built-ins, subscripts, slices, fields, calls. -/
namespace Ms
open PySem L2
open Mi (Dv MO Sto Sl Rs bnd ME MT MA MS MF Fl MG MGs MI)
section
variable {X : Cx} {kx : Kx} {e a b c o : Expr} {ma mb mc me mo : ME} {mt mt' : MT} {pos : Pos} {rest : List Expr}

/-! ### chains, and, or, not -/
theorem chain2 {f g : Mi.B2} {r r' : R2} (hf : B2ok X kx f r) (hg : B2ok X kx g r') {σ : St} {H : Hp} {Q : VK} (h : tM X.K kx (Mi.mChain f g ma mb mc) σ H Q) : tChain r r' (tM X.K kx ma) (tM X.K kx mb) (tM X.K kx mc) σ H Q := by
  obtain ⟨ρ, G, δ, d, G', rl, sr, e, k⟩ := h
  obtain ⟨x, G1, e1, e⟩ := Mi.bnd_eq e
  obtain ⟨y, G2, e2, e⟩ := Mi.bnd_eq e
  obtain ⟨z, G3, e3, e⟩ := Mi.bnd_eq e
  refine ⟨ρ, G, δ, x, G1, rl, sr, e1, fun v ρ1 H1 g1 r1 d1 => ⟨ρ1, G1, δ, y, G2, r1, sr.gr g1, e2, fun w ρ2 H2 g2 r2 d2 => ?_⟩⟩
  refine hf x y G2 z G3 ρ2 H2 v w _ e3 r2 (d1.gr g2) d2 fun u ρ3 H3 g3 r3 d3 => ?_
  split at e
  · obtain ⟨w', G4, e4, e⟩ := Mi.bnd_eq e
    cases d3
    refine ⟨true, rfl, ?_⟩
    rw [if_pos rfl]
    exact ⟨ρ3, G3, δ, w', G4, r3, sr.gr ((g1.trans g2).trans g3), e4, fun q ρ4 H4 g4 r4 d4 => hg y w' G4 d G' ρ4 H4 w q Q e r4 (d2.gr (g3.trans g4)) d4 fun z ρ' H' g r q => k z ρ' H' (((((g1.trans g2).trans g3).trans g4)).trans g) r q⟩
  · cases e
    cases d3
    refine ⟨false, rfl, ?_⟩
    rw [if_neg (fun z => Bool.false_ne_true z)]
    exact k _ ρ3 H3 ((g1.trans g2).trans g3) r3 (.bl false)
  · cases e
theorem m_chain {op op' : CmpOp} {f g : Mi.B2} {r r' : R2} (ho : OpR X (compareOp op) r) (ho' : OpR X (compareOp op') r') (hf : B2ok X kx f r) (hg : B2ok X kx g r') (ha : PE X a (tM X.K kx ma)) (hb : PE X b (tM X.K kx mb)) (hc : PE X c (tM X.K kx mc))
    (hm : lastMarks [op, op'] [b, c] = false := by with_unfolding_all rfl) : PE X (.Compare a [op, op'] [b, c] pos) (tM X.K kx (Mi.mChain f g ma mb mc)) := (pe_chain ho ho' ha hb hc hm).imp fun _ _ _ h => chain2 hf hg h
theorem m_chainT {op op' : CmpOp} {f g : Mi.B2} {r r' : R2} (ho : OpR X (compareOp op) r) (ho' : OpR X (compareOp op') r') (hf : B2ok X kx f r) (hg : B2ok X kx g r') (ha : PE X a (tM X.K kx ma)) (hb : PE X b (tM X.K kx mb)) (hc : PE X c (tM X.K kx mc))
    (hm : lastMarks [op, op'] [b, c] = false := by with_unfolding_all rfl) : PT X (.Compare a [op, op'] [b, c] pos) (tMT X.K kx (Mi.mTb (Mi.mChain f g ma mb mc))) := (pt_chain ho ho' ha hb hc hm).imp fun _ _ _ h => tTb (fun _ h => chain2 hf hg h) h
theorem m_one {op} (h : PE X a (tM X.K kx ma)) : PE X (.BoolOp op [a] pos) (tM X.K kx ma) := pe_one h
theorem m_and (ha : PE X a (tM X.K kx ma)) (hb : PE X (.BoolOp .And (b :: rest) pos) (tM X.K kx mb)) : PE X (.BoolOp .And (a :: b :: rest) pos) (tM X.K kx (Mi.mAnd ma mb)) := (pe_and ha hb).imp fun σ H Q ⟨ρ, G, δ, d, G', rl, sr, e, k⟩ => by
  obtain ⟨x, G1, e1, e⟩ := Mi.bnd_eq e
  refine ⟨ρ, G, δ, x, G1, rl, sr, e1, fun v ρ1 H1 g1 r1 d1 => ?_⟩
  split at e
  · cases d1
    refine ⟨true, rfl, ?_⟩
    rw [if_pos rfl]
    exact ⟨ρ1, G1, δ, d, G', r1, sr.gr g1, e, fun z ρ' H' g r q => k z ρ' H' (g1.trans g) r q⟩
  · cases e
    cases d1
    refine ⟨false, rfl, ?_⟩
    rw [if_neg (fun z => Bool.false_ne_true z)]
    exact k _ ρ1 H1 g1 r1 (.bl false)
  · cases e
theorem m_or (ha : PE X a (tM X.K kx ma)) (hb : PE X (.BoolOp .Or (b :: rest) pos) (tM X.K kx mb)) : PE X (.BoolOp .Or (a :: b :: rest) pos) (tM X.K kx (Mi.mOr ma mb)) := (pe_or ha hb).imp fun σ H Q ⟨ρ, G, δ, d, G', rl, sr, e, k⟩ => by
  obtain ⟨x, G1, e1, e⟩ := Mi.bnd_eq e
  refine ⟨ρ, G, δ, x, G1, rl, sr, e1, fun v ρ1 H1 g1 r1 d1 => ?_⟩
  split at e
  · cases e
    cases d1
    refine ⟨true, rfl, ?_⟩
    rw [if_pos rfl]
    exact k _ ρ1 H1 g1 r1 (.bl true)
  · cases d1
    refine ⟨false, rfl, ?_⟩
    rw [if_neg (fun z => Bool.false_ne_true z)]
    exact ⟨ρ1, G1, δ, d, G', r1, sr.gr g1, e, fun z ρ' H' g r q => k z ρ' H' (g1.trans g) r q⟩
  · cases e
theorem m_not (ha : PE X a (tM X.K kx ma)) : PE X (.UnaryOp .Not a pos) (tM X.K kx (Mi.mNot ma)) := (pe_not ha).imp fun σ H Q ⟨ρ, G, δ, d, G', rl, sr, e, k⟩ => by
  obtain ⟨x, G1, e1, e⟩ := Mi.bnd_eq e
  refine ⟨ρ, G, δ, x, G1, rl, sr, e1, fun v ρ1 H1 g1 r1 d1 => ?_⟩
  dsimp only at e
  split at e
  · cases e
    cases d1
    exact ⟨_, rfl, k _ ρ1 H1 g1 r1 (.bl _)⟩
  · cases e
theorem m_isN {neg : Bool} {op : CmpOp} (ho : op = if neg then .IsNot else .Is) (ha : PE X a (tM X.K kx ma)) {j p2} : PE X (.Compare a [op] [.Constant .none j p2] pos) (tM X.K kx (Mi.mIsN neg ma)) := by
  have fin : ∀ {σ H Q}, tM X.K kx (Mi.mIsN neg ma) σ H Q → tM X.K kx ma σ H fun x H1 => Q (.bl (decide (x = .non) != neg)) H1 := fun {σ H Q} ⟨ρ, G, δ, d, G', rl, sr, e, k⟩ => by
    obtain ⟨x, G1, e1, e⟩ := Mi.bnd_eq e
    refine ⟨ρ, G, δ, x, G1, rl, sr, e1, fun v ρ1 H1 g1 r1 d1 => ?_⟩
    cases e
    have z : Mi.isNon x = decide (v = .non) := by
      cases d1 <;> simp [Mi.isNon]
    rw [← z]
    exact k _ ρ1 H1 g1 r1 (.bl _)
  cases neg with
  | true =>
    cases ho
    refine (pe_cmpR op_notN ha pe_non (nomark _)).imp fun σ H Q h => ?_
    obtain ⟨ρ, G, δ, d, G', rl, sr, e, k⟩ := fin h
    exact ⟨ρ, G, δ, d, G', rl, sr, e, fun v ρ' H' g r q => ⟨rfl, by have := k v ρ' H' g r q; simpa using this⟩⟩
  | false =>
    cases ho
    refine (pe_cmpR op_isN ha pe_non (nomark _)).imp fun σ H Q h => ?_
    obtain ⟨ρ, G, δ, d, G', rl, sr, e, k⟩ := fin h
    exact ⟨ρ, G, δ, d, G', rl, sr, e, fun v ρ' H' g r q => ⟨rfl, by have := k v ρ' H' g r q; simpa using this⟩⟩

/-! ### tests -/
theorem m_val (ha : PE X a (tM X.K kx ma)) (he : ∀ whole, isTrue a X.env whole = (do let v ← whole; standAt a.pos; holding [v] (truthy v)) := by intro _; rfl) : PT X a (tMT X.K kx (Mi.mTb ma)) := (pt_val ha he).imp fun _ _ _ h => tTb (fun _ h => h) h
theorem m_isNT {neg : Bool} {op : CmpOp} (ho : op = if neg then .IsNot else .Is) (ha : PE X a (tM X.K kx ma)) {j p2} : PT X (.Compare a [op] [.Constant .none j p2] pos) (tMT X.K kx (Mi.mTb (Mi.mIsN neg ma))) := by
  have fin : ∀ {σ H Q}, tM X.K kx (Mi.mIsN neg ma) σ H Q → tM X.K kx ma σ H fun x H1 => Q (.bl (decide (x = .non) != neg)) H1 := fun {σ H Q} ⟨ρ, G, δ, d, G', rl, sr, e, k⟩ => by
    obtain ⟨x, G1, e1, e⟩ := Mi.bnd_eq e
    refine ⟨ρ, G, δ, x, G1, rl, sr, e1, fun v ρ1 H1 g1 r1 d1 => ?_⟩
    cases e
    have z : Mi.isNon x = decide (v = .non) := by
      cases d1 <;> simp [Mi.isNon]
    rw [← z]
    exact k _ ρ1 H1 g1 r1 (.bl _)
  cases neg with
  | true =>
    cases ho
    refine (pt_cmpR op_notN ha pe_non (nomark _)).imp fun σ H Q h => tTb (fun R h => ?_) h
    obtain ⟨ρ, G, δ, d, G', rl, sr, e, k⟩ := fin h
    exact ⟨ρ, G, δ, d, G', rl, sr, e, fun v ρ' H' g r q => ⟨rfl, by have := k v ρ' H' g r q; simpa using this⟩⟩
  | false =>
    cases ho
    refine (pt_cmpR op_isN ha pe_non (nomark _)).imp fun σ H Q h => tTb (fun R h => ?_) h
    obtain ⟨ρ, G, δ, d, G', rl, sr, e, k⟩ := fin h
    exact ⟨ρ, G, δ, d, G', rl, sr, e, fun v ρ' H' g r q => ⟨rfl, by have := k v ρ' H' g r q; simpa using this⟩⟩
theorem m_truth (ha : PE X a (tM X.K kx ma)) (he : ∀ whole, isTrue a X.env whole = (do let v ← whole; standAt a.pos; holding [v] (truthy v)) := by intro _; rfl) : PT X a (tMT X.K kx (Mi.mTru ma)) := (pt_truth ha he).imp fun σ H Q ⟨ρ, G, δ, d, G', rl, sr, e, k⟩ => by
  obtain ⟨x, G1, e1, e⟩ := Mi.bnd_eq e
  refine ⟨ρ, G, δ, x, G1, rl, sr, e1, fun v ρ1 H1 g1 r1 d1 => ?_⟩
  cases et : Mi.tru G1 x with
  | none => rw [et] at e; cases e
  | some bb =>
    rw [et] at e
    cases e
    refine ⟨d, ?_, k ρ1 H1 g1 r1⟩
    unfold Mi.tru at et
    split at et
    · cases et; cases d1; rfl
    · cases et; cases d1; rfl
    · cases et; cases d1; rfl
    · cases et
      cases d1 with
      | tup h r => exact .inr (.inl ⟨_, h, by rw [r.emp]⟩)
    · cases et
      cases d1 with
      | fls h n r => exact .inl ⟨_, SqL.of h, by rw [r.emp]⟩
    · cases d1 with
      | ref ea =>
        split at et
        · rename_i eh
          cases et
          obtain ⟨vs, h, r⟩ := lst_at r1 eh ea
          exact .inl ⟨_, SqL.of h, by rw [r.emp]⟩
        · rename_i eh
          cases et
          obtain ⟨vs, h, r⟩ := dct_at r1 eh ea
          refine .inr (.inr ⟨_, h, ?_⟩)
          cases r <;> rfl
        · cases et
    · cases et
theorem m_tand1 (ha : PT X a (tMT X.K kx mt)) : PW X (.BoolOp .And [a] pos) (tMT X.K kx mt) := pw_and1 ha
theorem m_tor1 (ha : PT X a (tMT X.K kx mt)) : PW X (.BoolOp .Or [a] pos) (tMT X.K kx mt) := pw_or1 ha
theorem m_tand (ha : PT X a (tMT X.K kx mt)) (hb : PW X (.BoolOp .And (b :: rest) pos) (tMT X.K kx mt')) : PW X (.BoolOp .And (a :: b :: rest) pos) (tMT X.K kx (Mi.mTand mt mt')) := (pw_and ha hb).imp fun σ H Q ⟨ρ, G, δ, d, G', rl, sr, e, k⟩ => by
  obtain ⟨x, G1, e1, e⟩ := Mi.bnd_eq e
  refine ⟨ρ, G, δ, x, G1, rl, sr, e1, fun ρ1 H1 g1 r1 => ?_⟩
  cases x with
  | true =>
    rw [if_pos rfl]
    exact ⟨ρ1, G1, δ, d, G', r1, sr.gr g1, by simpa using e, fun ρ' H' g r => k ρ' H' (g1.trans g) r⟩
  | false =>
    rw [if_neg (fun z => Bool.false_ne_true z)]
    have e' : (some (false, G1) : Rs Bool) = some (d, G') := by simpa using e
    cases e'
    exact k ρ1 H1 g1 r1
theorem m_tor (ha : PT X a (tMT X.K kx mt)) (hb : PW X (.BoolOp .Or (b :: rest) pos) (tMT X.K kx mt')) : PW X (.BoolOp .Or (a :: b :: rest) pos) (tMT X.K kx (Mi.mTor mt mt')) := (pw_or ha hb).imp fun σ H Q ⟨ρ, G, δ, d, G', rl, sr, e, k⟩ => by
  obtain ⟨x, G1, e1, e⟩ := Mi.bnd_eq e
  refine ⟨ρ, G, δ, x, G1, rl, sr, e1, fun ρ1 H1 g1 r1 => ?_⟩
  cases x with
  | true =>
    rw [if_pos rfl]
    have e' : (some (true, G1) : Rs Bool) = some (d, G') := by simpa using e
    cases e'
    exact k ρ1 H1 g1 r1
  | false =>
    rw [if_neg (fun z => Bool.false_ne_true z)]
    exact ⟨ρ1, G1, δ, d, G', r1, sr.gr g1, by simpa using e, fun ρ' H' g r => k ρ' H' (g1.trans g) r⟩
theorem m_tnot (ha : PT X a (tMT X.K kx mt)) : PT X (.UnaryOp .Not a pos) (tMT X.K kx (Mi.mTnot mt)) := (pt_not ha).imp fun σ H Q ⟨ρ, G, δ, d, G', rl, sr, e, k⟩ => by
  obtain ⟨x, G1, e1, e⟩ := Mi.bnd_eq e
  cases e
  exact ⟨ρ, G, δ, x, _, rl, sr, e1, fun ρ1 H1 g1 r1 => k ρ1 H1 g1 r1⟩
theorem m_if (hc : PT X c (tMT X.K kx mt)) (ha : PE X a (tM X.K kx ma)) (hb : PE X b (tM X.K kx mb)) : PE X (.IfExp c a b pos) (tM X.K kx (Mi.mIf mt ma mb)) := (pe_ifExp hc ha hb).imp fun σ H Q ⟨ρ, G, δ, d, G', rl, sr, e, k⟩ => by
  obtain ⟨x, G1, e1, e⟩ := Mi.bnd_eq e
  refine ⟨ρ, G, δ, x, G1, rl, sr, e1, fun ρ1 H1 g1 r1 => ?_⟩
  cases x with
  | true =>
    rw [if_pos rfl]
    exact ⟨ρ1, G1, δ, d, G', r1, sr.gr g1, by simpa using e, fun v ρ' H' g r q => k v ρ' H' (g1.trans g) r q⟩
  | false =>
    rw [if_neg (fun z => Bool.false_ne_true z)]
    exact ⟨ρ1, G1, δ, d, G', r1, sr.gr g1, by simpa using e, fun v ρ' H' g r q => k v ρ' H' (g1.trans g) r q⟩

/-! ### arguments, displays -/
variable {es : List Expr} {mas : MA}
theorem m_nil : PA X [] (tMA X.K kx Mi.mNil) := pa_nil.imp fun σ H Q ⟨ρ, G, δ, d, G', rl, sr, e, k⟩ => by
  cases e
  exact k [] ρ H Gr.refl rl .nil
theorem m_cons (ha : PE X e (tM X.K kx ma)) (hr : PA X es (tMA X.K kx mas)) (hs : starEach (e :: es) X.env = (false, eval e X.env) :: starEach es X.env := by rfl) : PA X (e :: es) (tMA X.K kx (Mi.mCons ma mas)) := (pa_cons ha hr hs).imp fun σ H Q ⟨ρ, G, δ, d, G', rl, sr, e, k⟩ => by
  obtain ⟨x, G1, e1, e⟩ := Mi.bnd_eq e
  obtain ⟨xs, G2, e2, e⟩ := Mi.bnd_eq e
  cases e
  exact ⟨ρ, G, δ, x, G1, rl, sr, e1, fun v ρ1 H1 g1 r1 d1 => ⟨ρ1, G1, δ, xs, _, r1, sr.gr g1, e2, fun vs ρ2 H2 g2 r2 d2 => k (v :: vs) ρ2 H2 (g1.trans g2) r2 (.cons (d1.gr g2) d2)⟩⟩
theorem m_tup {x1} (h : PA X es (tMA X.K kx mas)) : PE X (.Tuple es x1 pos) (tM X.K kx (Mi.mTup mas)) := (pe_tup h).imp fun σ H Q ⟨ρ, G, δ, d, G', rl, sr, e, k⟩ => by
  obtain ⟨xs, G1, e1, e⟩ := Mi.bnd_eq e
  refine ⟨ρ, G, δ, xs, G1, rl, sr, e1, fun vs ρ1 H1 g1 r1 d1 => ?_⟩
  split at e
  · rename_i hz
    cases e
    exact ⟨by rw [← d1.len, ← big_line]; exact hz, tup_ok r1 d1 fun z ρ' H' g r q => k z ρ' H' (g1.trans g) r q⟩
  · cases e
theorem m_lst (m : Bool) (h : PA X es (tMA X.K kx mas)) : PE X (.List es pos) (tM X.K kx (Mi.mLst m mas)) := (pe_lst h).imp fun σ H Q ⟨ρ, G, δ, d, G', rl, sr, e, k⟩ => by
  obtain ⟨xs, G1, e1, e⟩ := Mi.bnd_eq e
  refine ⟨ρ, G, δ, xs, G1, rl, sr, e1, fun vs ρ1 H1 g1 r1 d1 => ?_⟩
  split at e
  · rename_i hz
    have e' := Option.some.inj e
    refine ⟨by rw [← d1.len, ← big_line]; exact hz, mkL_ok (m := m) r1 d1 ?_⟩
    rw [e']
    exact fun z ρ' H' g r q => k z ρ' H' (g1.trans g) r q
  · cases e

/-! ### built-ins, by values -/
/-- a built-in of the mirror against a rule by values -/
def Bok (X : Cx) (kx : Kx) (f : List Dv → Sto → Rs Dv) (r : List V → Hp → VK → Prop) : Prop := ∀ (xs : List Dv) (G : Sto) (d : Dv) (G' : Sto) (ρ : Rh) (H : Hp) (vs : List V) (Q : VK), f xs G = some (d, G') → Rl X.K kx ρ G H → DRs X.K ρ H xs vs →
  (∀ z ρ' H', Gr ρ H ρ' H' → Rl X.K kx ρ' G' H' → DR X.K ρ' H' d z → Q z H') → r vs H Q
theorem cb {f : List Dv → Sto → Rs Dv} {r : List V → Hp → VK → Prop} (hf : Bok X kx f r) {σ : St} {H : Hp} {Q : VK} (h : tM X.K kx (Mi.mB f mas) σ H Q) : tCB r (tMA X.K kx mas) σ H Q := by
  obtain ⟨ρ, G, δ, d, G', rl, sr, e, k⟩ := h
  obtain ⟨xs, G1, e1, e⟩ := Mi.bnd_eq e
  exact ⟨ρ, G, δ, xs, G1, rl, sr, e1, fun vs ρ1 H1 g1 r1 d1 => hf xs G1 d G' ρ1 H1 vs Q e r1 d1 fun z ρ' H' g r q => k z ρ' H' (g1.trans g) r q⟩
theorem m_callB {x : Str} {p : Pos} {id : String} {f : List Dv → Sto → Rs Dv} {r : List V → Hp → VK → Prop} (hc : CallR X (.builtin id) r) (hf : Bok X kx f r) (hm : X.mg x = none) (hv : bootBuiltins x = some (.builtin id)) (ha : PA X (e :: es) (tMA X.K kx mas)) (hg : Gl X x := by rfl) (hn : x ≠ "__name__" := by decide) (hdb : (x == ("__debug__" : Str)) = false := by decide)
    (he : starEach (e :: es) X.env = (false, eval e X.env) :: starEach es X.env := by rfl) (hpl : (backTo pos (starEach es X.env)).any (·.1) = false := by rfl) : PE X (.Call (.Name x p) (e :: es) [] pos) (tM X.K kx (Mi.mB f mas)) :=
  (pe_callB hc hg hm hv ha hn hdb he hpl).imp fun _ _ _ h => cb hf h
theorem m_callT {x : Str} {p : Pos} {T : String} {f : List Dv → Sto → Rs Dv} {r : List V → Hp → VK → Prop} (hc : CallR X (.type T) r) (hf : Bok X kx f r) (hm : X.mg x = none) (hv : bootBuiltins x = some (.type T)) (ha : PA X (e :: es) (tMA X.K kx mas)) (hg : Gl X x := by rfl) (hn : x ≠ "__name__" := by decide) (hdb : (x == ("__debug__" : Str)) = false := by decide)
    (he : starEach (e :: es) X.env = (false, eval e X.env) :: starEach es X.env := by rfl) (hpl : (backTo pos (starEach es X.env)).any (·.1) = false := by rfl) : PE X (.Call (.Name x p) (e :: es) [] pos) (tM X.K kx (Mi.mB f mas)) :=
  (pe_callTy hc hg hm hv ha hn hdb he hpl).imp fun _ _ _ h => cb hf h
theorem f_len : Bok X kx Mi.fLen (fun xs H Q => ∃ p ys, xs = [.ref p] ∧ (SqL X.K H p ys ∨ SqT X.K H p ys) ∧ Q (.int ys.length) H) := by
  intro xs G d G' ρ H vs Q e rl ds k
  unfold Mi.fLen at e
  split at e
  · cases e
    cases ds with
    | cons a b =>
      cases b
      cases a with
      | tup h r =>
        refine ⟨_, _, rfl, .inr h, ?_⟩
        rw [← r.len]
        exact k _ ρ H Gr.refl rl (.int _)
  · split at e
    · rename_i ys el
      cases e
      cases ds with
      | cons a b =>
        cases b
        obtain ⟨p, ws, rfl, h, r⟩ := lstOf_at rl el a
        refine ⟨_, _, rfl, .inl h, ?_⟩
        rw [← r.len]
        exact k _ ρ H Gr.refl rl (.int _)
    · cases e
  · cases e
theorem f_int : Bok X kx Mi.fInt (fun xs H Q => (∃ i, xs = [.int i] ∧ Q (.int i) H) ∨ ∃ k, xs = [.bl k] ∧ Q (.int (if k then 1 else 0)) H) := by
  intro xs G d G' ρ H vs Q e rl ds k
  unfold Mi.fInt at e
  split at e
  · cases e
    cases ds with
    | cons a b =>
      cases b
      cases a
      exact .inl ⟨_, rfl, k _ ρ H Gr.refl rl (.int _)⟩
  · cases e
theorem f_max : Bok X kx Mi.fMax (fun xs H Q => ∃ i j, xs = [.int i, .int j] ∧ Q (.int (if j > i then j else i)) H) := by
  intro xs G d G' ρ H vs Q e rl ds k
  unfold Mi.fMax at e
  split at e
  · cases e
    cases ds with
    | cons a b =>
      cases b with
      | cons c t =>
        cases t
        cases a
        cases c
        exact ⟨_, _, rfl, k _ ρ H Gr.refl rl (.int _)⟩
  · cases e
theorem f_min : Bok X kx Mi.fMin (fun xs H Q => ∃ i j, xs = [.int i, .int j] ∧ Q (.int (if j < i then j else i)) H) := by
  intro xs G d G' ρ H vs Q e rl ds k
  unfold Mi.fMin at e
  split at e
  · cases e
    cases ds with
    | cons a b =>
      cases b with
      | cons c t =>
        cases t
        cases a
        cases c
        exact ⟨_, _, rfl, k _ ρ H Gr.refl rl (.int _)⟩
  · cases e
theorem f_tuple : Bok X kx Mi.fTuple (fun xs H Q => ∃ p ys, xs = [.ref p] ∧ ((SqL X.K H p ys ∧ ∀ l, H l = none → Q (.ref l) (upd H l (.tup ys))) ∨ (SqT X.K H p ys ∧ Q (.ref p) H))) := by
  intro xs G d G' ρ H vs Q e rl ds k
  unfold Mi.fTuple at e
  split at e
  · cases e
    cases ds with
    | cons a b =>
      cases b
      cases a with
      | tup h r => exact ⟨_, _, rfl, .inr ⟨h, k _ ρ H Gr.refl rl (.tup h r)⟩⟩
  · rename_i x _
    cases el : Mi.lstOf G x with
    | none => rw [el] at e; cases e
    | some ys =>
      rw [el] at e
      cases e
      cases ds with
      | cons a b =>
        cases b
        obtain ⟨p, ws, rfl, h, r⟩ := lstOf_at rl el a
        exact ⟨_, _, rfl, .inl ⟨h, tup_ok rl r k⟩⟩
  · cases e
theorem seqOf_at {K : PySem.W.Frag} {ρ : Rh} {G : Sto} {H : Hp} {d : Dv} {v : V} {xs : List Dv} (rl : Rl K kx ρ G H) (e : Mi.seqOf G d = some xs) (r : DR K ρ H d v) : ∃ a vs, v = .ref a ∧ (SqL K H a vs ∨ SqT K H a vs) ∧ DRs K ρ H xs vs := by
  unfold Mi.seqOf at e
  split at e
  · cases e
    cases r with
    | tup h r => exact ⟨_, _, rfl, .inr h, r⟩
  · obtain ⟨a, vs, h1, h2, h3⟩ := lstOf_at rl e r
    exact ⟨a, vs, h1, .inl h2, h3⟩
theorem f_list (m : Bool) : Bok X kx (Mi.fList m) (fun xs H Q => ∃ p ys, xs = [.ref p] ∧ (SqL X.K H p ys ∨ SqT X.K H p ys) ∧ ∀ l, H l = none → Q (.ref l) (upd H l (.lst ys))) := by
  intro xs G d G' ρ H vs Q e rl ds k
  unfold Mi.fList at e
  split at e
  · rename_i x
    cases el : Mi.seqOf G x with
    | none => rw [el] at e; cases e
    | some ys =>
      rw [el] at e
      have e' := Option.some.inj e
      cases ds with
      | cons a b =>
        cases b
        obtain ⟨p, ws, rfl, h, r⟩ := seqOf_at rl el a
        refine ⟨_, _, rfl, h, mkL_ok (m := m) rl r ?_⟩
        dsimp only at e'
        rw [e']
        exact k
  · cases e
/-! ### isinstance -/
/-- the class that a written type means -/
def tyS : Mi.Ty → String
  | .int => "int" | .bool => "bool" | .tuple => "tuple" | .str => "str" | .list => "list" | .cls _ => ""
theorem m_isI {t : Mi.Ty} {y : Str} {p p2 : Pos} (ht : ∀ c, t ≠ .cls c) (hm : X.mg "isinstance" = none) (hmT : X.mg y = none) (hb : bootBuiltins y = some (.type (tyS t))) (ha : PE X a (tM X.K kx ma))
    (hg : Gl X "isinstance" := by rfl) (hgT : Gl X y := by rfl) (hny : y ≠ "__name__" := by decide) (hdy : (y == ("__debug__" : Str)) = false := by decide)
    (he : starEach [a, .Name y p2] X.env = (false, eval a X.env) :: starEach [.Name y p2] X.env := by rfl) (hpl : (backTo pos (starEach [.Name y p2] X.env)).any (·.1) = false := by rfl) (hs : starEach [.Name y p2] X.env = (false, eval (.Name y p2) X.env) :: starEach [] X.env := by rfl) :
    PE X (.Call (.Name "isinstance" p) [a, .Name y p2] [] pos) (tM X.K kx (Mi.mIsI t ma)) := by
  refine (pe_callB call_isi hg hm (by decide +kernel) (pa_cons ha (pa_cons (pe_bltn (v := .ty (tyS t)) hgT hmT hb rfl hny hdy) pa_nil hs) he) (by decide) (by decide) he hpl).imp fun σ H Q ⟨ρ, G, δ, d, G', rl, sr, e, k⟩ => ?_
  obtain ⟨x, G1, e1, e⟩ := Mi.bnd_eq e
  refine ⟨ρ, G, δ, x, G1, rl, sr, e1, fun v ρ1 H1 g1 r1 d1 => ?_⟩
  dsimp only at e
  cases ei : Mi.isI t G1 x with
  | none => rw [ei] at e; cases e
  | some bb =>
    rw [ei] at e
    cases e
    have fin := k (.bl bb) ρ1 H1 g1 r1 (.bl bb)
    have go : ∀ {s : String}, TyX X.K H1 v (.type s) → kitB s (tyS t) = some bb → rIsi X.K [v, .ty (tyS t)] H1 Q := fun ty hk => ⟨v, .ty (tyS t), _, .type (tyS t), bb, rfl, .ty _, ty, kit_ty hk, fin⟩
    show rIsi X.K [v, .ty (tyS t)] H1 Q
    unfold Mi.isI at ei
    split at ei
    · cases ei
      cases d1
      exact go (.base .non) (by cases t <;> first | decide +kernel | exact absurd rfl (ht _))
    · cases ei
      cases d1
      exact go (.base (.bl _)) (by cases t <;> first | decide +kernel | exact absurd rfl (ht _))
    · cases ei
      cases d1
      exact go (.base (.int _)) (by cases t <;> first | decide +kernel | exact absurd rfl (ht _))
    · cases ei
      cases d1
      exact go (.base (.str _)) (by cases t <;> first | decide +kernel | exact absurd rfl (ht _))
    · cases ei
      cases d1 with
      | tup h r =>
        have hk : kitB "tuple" (tyS t) = some (t == .tuple) := by cases t <;> first | decide +kernel | exact absurd rfl (ht _)
        rcases h with (h | ⟨o, h⟩) | ⟨o, its, n, h1, h2, _⟩
        · exact go (.base (.tup h)) hk
        · exact go (.fTuple h) hk
        · exact go (.kTuple h1 h2) hk
    · cases ei
      cases d1 with
      | fls h n r => exact go (.base (.lst h)) (by cases t <;> first | decide +kernel | exact absurd rfl (ht _))
    · cases ei
    · cases d1 with
      | ref ea =>
        split at ei
        · rename_i eh
          cases ei
          obtain ⟨vs, h, r⟩ := lst_at r1 eh ea
          exact go (.base (.lst h)) (by cases t <;> first | decide +kernel | exact absurd rfl (ht _))
        · split at ei
          · exact absurd rfl (ht _)
          · cases ei
        · cases ei
end
end Ms

/-! PyS3b: all, any, methods of lists and dicts, subscripts, slices, fields, dict displays. -/
namespace Ms
open PySem L2
open Mi (Dv MO Sto Sl Rs bnd ME MT MA MS MF Fl MG MGs MI)
theorem bools_of {K : PySem.W.Frag} {ρ : Rh} {H : Hp} : ∀ {ds : List Dv} {vs : List V} {bs : List Bool}, Mi.bools ds = some bs → DRs K ρ H ds vs → vs = bs.map V.bl
  | [], _, _, e, .nil => by
    cases e
    rfl
  | .bl i :: r, _, ns, e, .cons a b => by
    unfold Mi.bools at e
    cases er : Mi.bools r with
    | none => rw [er] at e; cases e
    | some ms =>
      rw [er] at e
      cases e
      cases a
      rw [List.map_cons, bools_of er b]
  | .non :: _, _, _, e, _ => nomatch e
  | .int _ :: _, _, _, e, _ => nomatch e
  | .str _ :: _, _, _, e, _ => nomatch e
  | .tup _ :: _, _, _, e, _ => nomatch e
  | .fls _ :: _, _, _, e, _ => nomatch e
  | .scr _ :: _, _, _, e, _ => nomatch e
  | .ref _ :: _, _, _, e, _ => nomatch e
section
variable {X : Cx} {kx : Kx} {e a b c o : Expr} {ma mb mc me mo : ME} {mt mt' : MT} {pos : Pos} {rest es : List Expr} {mas : MA}
theorem f_all : Bok X kx Mi.fAll (rAll X.K) := by
  intro xs G d G' ρ H vs Q e rl ds k
  unfold Mi.fAll at e
  split at e
  · split at e
    · rename_i ys el
      cases eb : Mi.bools ys with
      | none => rw [eb] at e; cases e
      | some bs =>
        rw [eb] at e
        cases e
        cases ds with
        | cons a b =>
          cases b
          obtain ⟨p, ws, rfl, h, r⟩ := lstOf_at rl el a
          have ew := bools_of eb r
          subst ew
          exact ⟨p, bs, rfl, h, k _ ρ H Gr.refl rl (.bl _)⟩
    · cases e
  · cases e
theorem f_any : Bok X kx Mi.fAny (rAny X.K) := by
  intro xs G d G' ρ H vs Q e rl ds k
  unfold Mi.fAny at e
  split at e
  · split at e
    · rename_i ys el
      cases eb : Mi.bools ys with
      | none => rw [eb] at e; cases e
      | some bs =>
        rw [eb] at e
        cases e
        cases ds with
        | cons a b =>
          cases b
          obtain ⟨p, ws, rfl, h, r⟩ := lstOf_at rl el a
          have ew := bools_of eb r
          subst ew
          exact ⟨p, bs, rfl, h, k _ ρ H Gr.refl rl (.bl _)⟩
    · cases e
  · cases e
/-! ### list methods -/
theorem m_append {apos : Pos} (ho : PE X o (tM X.K kx mo)) (ha : PE X a (tM X.K kx ma)) (hbase : attributeBase o "append" X.env (eval o X.env) = eval o X.env := by rfl)
    (hfew : ((backTo pos (starEach [a] X.env)).all (fun x => !x.1) && (backToKw pos (keywordEach [] X.env)).all (fun x => x.1.isSome) && decide (([a] : List Expr).length + ([] : List Keyword).length + (if ([] : List Keyword).isEmpty then 0 else 1) < 30)) = true := by rfl)
    (hline : (apos.endLine == pos.line) = true := by rfl) (hs : starEach [a] X.env = (false, eval a X.env) :: starEach [] X.env := by rfl) (hplain : (backTo pos (starEach [] X.env)).any (·.1) = false := by rfl) :
    PE X (.Call (.Attribute o "append" apos) [a] [] pos) (tM X.K kx (Mi.mAppend mo ma)) :=
  (pe_bm PySem.F.plainAttrs_list PySem.F.slot_list_append PySem.F.type_list_append mt_append ho (pa_cons ha pa_nil hs) hbase hfew hline hs hplain).imp fun σ H Q ⟨ρ, G, δ, d, G', rl, sr, e, k⟩ => by
  obtain ⟨x, G1, e1, e⟩ := Mi.bnd_eq e
  obtain ⟨y, G2, e2, e⟩ := Mi.bnd_eq e
  refine ⟨ρ, G, δ, x, G1, rl, sr, e1, fun v ρ1 H1 g1 r1 d1 => ?_⟩
  cases x with
  | ref h =>
    dsimp only at e
    split at e
    · rename_i z xs eh1 eh2
      split at e
      · rename_i hz
        cases e
        cases d1 with
        | @ref _ ad ea =>
          obtain ⟨vs1, h1, _⟩ := lst_at r1 eh1 ea
          refine ⟨.inl ⟨rfl, _, SqL.of h1⟩, ρ1, G1, δ, y, G2, r1, sr.gr g1, e2, fun w ρ2 H2 g2 r2 d2 => ?_⟩
          have ea2 : ρ2.r[h]? = some ad := by
            have q := (DR.ref (K := X.K) (H := H1) ea).gr g2
            cases q with
            | ref q => exact q
          obtain ⟨vs, h2, rv⟩ := lst_at r2 eh2 ea2
          refine ⟨ad, vs, w, rfl, rfl, h2, by rw [← rv.len, ← big_line]; exact hz, ?_⟩
          obtain ⟨g3, r3⟩ := r2.wr (o := .lst (vs ++ [w])) (m := .lst (xs ++ [y])) ea2 fun g => .lst upd_same ((rv.app (.cons d2 .nil)).gr g)
          exact k .non _ _ ((g1.trans g2).trans g3) r3 .non
      · cases e
    · cases e
  | _ => cases e
theorem m_pop {apos : Pos} (ho : PE X o (tM X.K kx mo)) (hbase : attributeBase o "pop" X.env (eval o X.env) = eval o X.env := by rfl) (hline : (apos.endLine == pos.line) = true := by rfl) :
    PE X (.Call (.Attribute o "pop" apos) [] [] pos) (tM X.K kx (Mi.mPop mo)) :=
  (pe_bm0 PySem.F.plainAttrs_list PySem.F.slot_list_pop PySem.F.type_list_pop mt_pop ho hbase hline).imp fun σ H Q ⟨ρ, G, δ, d, G', rl, sr, e, k⟩ => by
  obtain ⟨x, G1, e1, e⟩ := Mi.bnd_eq e
  refine ⟨ρ, G, δ, x, G1, rl, sr, e1, fun v ρ1 H1 g1 r1 d1 => ?_⟩
  cases x with
  | ref h =>
    dsimp only at e
    split at e
    · rename_i xs eh
      split at e
      · rename_i y ey
        cases e
        cases d1 with
        | @ref _ ad ea =>
          obtain ⟨vs, h1, rv⟩ := lst_at r1 eh ea
          have ey' : xs[xs.length - 1]? = some d := by rw [← List.getLast?_eq_getElem?]; exact ey
          obtain ⟨w, hw, dw⟩ := rv.get ey'
          refine ⟨.inl ⟨rfl, _, SqL.of h1⟩, ad, vs, w, rfl, rfl, h1, by rw [← rv.len]; exact hw, ?_⟩
          have rd : DRs X.K ρ1 H1 xs.dropLast vs.dropLast := by
            rw [List.dropLast_eq_take, List.dropLast_eq_take, rv.len]
            exact rv.take _
          obtain ⟨g3, r3⟩ := r1.wr (o := .lst vs.dropLast) (m := .lst xs.dropLast) ea fun g => .lst upd_same (rd.gr g)
          exact k w _ _ (g1.trans g3) r3 (dw.gr g3)
      · cases e
    · cases e
  | _ => cases e
/-! ### dicts -/
theorem kOf_v {K : PySem.W.Frag} {ρ : Rh} {H : Hp} {d : Dv} {v : V} {k : Mi.Key} (e : Mi.kOf d = some k) (r : DR K ρ H d v) : v = kV (kK k) := by
  unfold Mi.kOf at e
  split at e
  · cases e
    cases r
    rfl
  · cases e
    cases r
    rfl
  · cases e
theorem look_ok {K : PySem.W.Frag} {ρ : Rh} {H : Hp} {k : Mi.Key} : ∀ {kvs : List (Mi.Key × Dv)} {ks : List (L2.Key × V)}, KR K ρ H kvs ks →
    (∀ d, Mi.look kvs k = some d → ∃ v, valV ks (kK k) = some v ∧ DR K ρ H d v) ∧ (Mi.look kvs k = none → valV ks (kK k) = none)
  | _, _, .nil => ⟨(fun d e => nomatch e), fun _ => rfl⟩
  | (j, x) :: r, (j', v) :: r', .cons ⟨h1, h2⟩ t => by
    obtain ⟨i1, i2⟩ := look_ok (k := k) t
    have h1' : j' = kK j := h1
    subst h1'
    by_cases hj : j = k
    · subst hj
      have e1 : Mi.look ((j, x) :: r) j = some x := by simp [Mi.look, List.find?_cons]
      have e2 : valV ((kK j, v) :: r') (kK j) = some v := valV_pos rfl
      refine ⟨fun d e => ?_, fun e => ?_⟩
      · rw [e1] at e
        cases e
        exact ⟨v, e2, h2⟩
      · rw [e1] at e
        cases e
    · have hj' : ¬ kK j = kK k := fun z => hj (kK_inj z)
      have e1 : Mi.look ((j, x) :: r) k = Mi.look r k := by simp [Mi.look, List.find?_cons, hj]
      have e2 : valV ((kK j, v) :: r') (kK k) = valV r' (kK k) := valV_neg hj'
      rw [e1, e2]
      exact ⟨i1, i2⟩
theorem any_ok {K : PySem.W.Frag} {ρ : Rh} {H : Hp} {k : Mi.Key} : ∀ {kvs : List (Mi.Key × Dv)} {ks : List (L2.Key × V)}, KR K ρ H kvs ks →
    (kvs.any fun kv => decide (kv.1 = k)) = (ks.any fun kv => decide (kv.1 = kK k))
  | _, _, .nil => rfl
  | (j, x) :: r, (j', v) :: r', .cons ⟨h1, h2⟩ t => by
    have h1' : j' = kK j := h1
    subst h1'
    rw [List.any_cons, List.any_cons, any_ok t]
    have z : decide (j = k) = decide (kK j = kK k) := by
      by_cases hj : j = k
      · subst hj
        simp
      · have hj' : ¬ kK j = kK k := fun z => hj (kK_inj z)
        simp [hj, hj']
    show (decide (j = k) || _) = (decide (kK j = kK k) || _)
    rw [z]
theorem put_ok {K : PySem.W.Frag} {ρ : Rh} {H : Hp} {k : Mi.Key} {d : Dv} {v : V} {kvs : List (Mi.Key × Dv)} {ks : List (L2.Key × V)} (r : KR K ρ H kvs ks) (q : DR K ρ H d v) : KR K ρ H (Mi.put kvs k d) (putK ks (kK k) v) := by
  have e1 : putK ks (kK k) v = if (ks.any fun kv => decide (kv.1 = kK k)) = true then ks.map fun kv => if kv.1 = kK k then (kv.1, v) else kv else ks ++ [(kK k, v)] := rfl
  rw [e1]
  unfold Mi.put
  rw [any_ok r]
  split
  · have m : ∀ {kvs : List (Mi.Key × Dv)} {ks : List (L2.Key × V)}, KR K ρ H kvs ks → KR K ρ H (kvs.map fun kv => if kv.1 = k then (kv.1, d) else kv) (ks.map fun kv => if kv.1 = kK k then (kv.1, v) else kv) := by
      intro kvs ks r
      induction r with
      | nil => exact .nil
      | @cons a as b bs h t ih =>
        obtain ⟨h1, h2⟩ := h
        refine .cons ?_ ih
        dsimp only
        by_cases hj : a.1 = k
        · rw [if_pos hj, if_pos (by rw [h1, hj])]
          exact ⟨h1, q⟩
        · rw [if_neg hj, if_neg (fun z => hj (kK_inj (h1 ▸ z)))]
          exact ⟨h1, h2⟩
    exact m r
  · exact AR.app r (.cons ⟨rfl, q⟩ .nil)
theorem kr_isD {K : PySem.W.Frag} {ρ : Rh} {G : Sto} {H : Hp} {h : Nat} {a : Addr} {kvs : List (Mi.Key × Dv)} (rl : Rl K kx ρ G H) (e : G[h]? = some (.dct kvs)) (ea : ρ.r[h]? = some a) : IsD H a := by
  obtain ⟨ks, h1, _⟩ := dct_at rl e ea
  exact .inl ⟨ks, .inl h1⟩
theorem ref_gr {K : PySem.W.Frag} {ρ ρ' : Rh} {H H' : Hp} {h : Nat} {a : Addr} (g : Gr ρ H ρ' H') (e : ρ.r[h]? = some a) : ρ'.r[h]? = some a := by
  obtain ⟨t, z⟩ := g.pre.1
  rw [z, List.getElem?_append_left (List.getElem?_eq_some_iff.mp e).1]
  exact e
theorem m_get2 {k x : Expr} {mk mx : ME} {apos : Pos} (hu : X.A.units + 1 < cLine) (ho : PE X o (tM X.K kx mo)) (hk : PE X k (tM X.K kx mk)) (hx : PE X x (tM X.K kx mx)) (m : M2 X o "get" apos k x pos := by exact ⟨rfl, rfl, rfl, rfl⟩) :
    PE X (.Call (.Attribute o "get" apos) [k, x] [] pos) (tM X.K kx (Mi.mGet2 mo mk mx)) := (pe_dget2 hu ho hk hx m).imp fun σ H Q ⟨ρ, G, δ, d, G', rl, sr, e, q⟩ => by
  obtain ⟨xo, G1, e1, e⟩ := Mi.bnd_eq e
  obtain ⟨y, G2, e2, e⟩ := Mi.bnd_eq e
  obtain ⟨z, G3, e3, e⟩ := Mi.bnd_eq e
  refine ⟨ρ, G, δ, xo, G1, rl, sr, e1, fun v ρ1 H1 g1 r1 d1 => ?_⟩
  cases xo with
  | ref h =>
    dsimp only at e
    split at e
    · rename_i kv1 kvs ky eh1 eh3 ek
      cases e
      cases d1 with
      | @ref _ ad ea =>
        refine ⟨ad, rfl, kr_isD r1 eh1 ea, ρ1, G1, δ, y, G2, r1, sr.gr g1, e2, fun w ρ2 H2 g2 r2 d2 => ⟨ρ2, G2, δ, z, _, r2, sr.gr (g1.trans g2), e3, fun u ρ3 H3 g3 r3 d3 => ?_⟩⟩
        have ew := kOf_v ek d2
        subst ew
        obtain ⟨ks, h3, kr⟩ := dct_at r3 eh3 (ref_gr (K := X.K) (g2.trans g3) ea)
        obtain ⟨i1, i2⟩ := look_ok (k := ky) kr
        refine ⟨_, DGet.k h3, ?_⟩
        cases el : Mi.look kvs ky with
        | none =>
          rw [i2 el]
          rw [el] at q
          exact q u ρ3 H3 ((g1.trans g2).trans g3) r3 d3
        | some dd =>
          obtain ⟨vv, hv, rv⟩ := i1 dd el
          rw [hv]
          rw [el] at q
          exact q vv ρ3 H3 ((g1.trans g2).trans g3) r3 rv
    · cases e
  | _ => cases e
theorem m_get1 {k : Expr} {mk : ME} {apos : Pos} (hu : X.A.units + 1 < cLine) (ho : PE X o (tM X.K kx mo)) (hk : PE X k (tM X.K kx mk)) (m : M1 X o "get" apos k pos := by exact ⟨rfl, rfl, rfl, rfl⟩) :
    PE X (.Call (.Attribute o "get" apos) [k] [] pos) (tM X.K kx (Mi.mGet1 mo mk)) := (pe_dget1 hu ho hk m).imp fun σ H Q ⟨ρ, G, δ, d, G', rl, sr, e, q⟩ => by
  obtain ⟨xo, G1, e1, e⟩ := Mi.bnd_eq e
  obtain ⟨y, G2, e2, e⟩ := Mi.bnd_eq e
  refine ⟨ρ, G, δ, xo, G1, rl, sr, e1, fun v ρ1 H1 g1 r1 d1 => ?_⟩
  cases xo with
  | ref h =>
    dsimp only at e
    split at e
    · rename_i kv1 kvs ky eh1 eh3 ek
      cases e
      cases d1 with
      | @ref _ ad ea =>
        refine ⟨ad, rfl, kr_isD r1 eh1 ea, ρ1, G1, δ, y, _, r1, sr.gr g1, e2, fun w ρ2 H2 g2 r2 d2 => ?_⟩
        have ew := kOf_v ek d2
        subst ew
        obtain ⟨ks, h3, kr⟩ := dct_at r2 eh3 (ref_gr (K := X.K) g2 ea)
        obtain ⟨i1, i2⟩ := look_ok (k := ky) kr
        refine ⟨_, DGet.k h3, ?_⟩
        cases el : Mi.look kvs ky with
        | none =>
          rw [i2 el]
          rw [el] at q
          exact q .non ρ2 H2 (g1.trans g2) r2 .non
        | some dd =>
          obtain ⟨vv, hv, rv⟩ := i1 dd el
          rw [hv]
          rw [el] at q
          exact q vv ρ2 H2 (g1.trans g2) r2 rv
    · cases e
  | _ => cases e
/-! ### subscripts -/
theorem ixN_eq : Mi.ixN = L2.ixN := rfl
theorem atI_ok {K : PySem.W.Frag} {ρ : Rh} {H : Hp} {xs : List Dv} {vs : List V} {i : Int} {d : Dv} (r : DRs K ρ H xs vs) (e : Mi.atI xs i = some d) : ∃ v, L2.atI vs i = some v ∧ DR K ρ H d v := by
  unfold Mi.atI at e
  unfold L2.atI
  rw [ixN_eq, r.len] at e
  cases ei : L2.ixN vs.length i with
  | none => rw [ei] at e; cases e
  | some j =>
    rw [ei] at e
    exact r.get e
theorem m_sub (hu : X.A.units + 1 < cLine) (ha : PE X a (tM X.K kx ma)) (hb : PE X b (tM X.K kx mb)) (hs : PlainIx b := by exact fun _ _ => rfl) : PE X (.Subscript a b pos) (tM X.K kx (Mi.m2 Mi.bSubs ma mb)) :=
  (PE.or (pe_ix (IxR.or ix_list ix_tup) ha hb hs) (pe_dget hu ha hb hs)).imp fun σ H Q ⟨ρ, G, δ, d, G', rl, sr, e, k⟩ => by
  obtain ⟨x, G1, e1, e⟩ := Mi.bnd_eq e
  obtain ⟨y, G2, e2, e⟩ := Mi.bnd_eq e
  unfold Mi.bSubs at e
  split at e
  · rename_i rr eg
    cases e
    refine .inr ⟨ρ, G, δ, x, G1, rl, sr, e1, fun v ρ1 H1 g1 r1 d1 => ⟨ρ1, G1, δ, y, G2, r1, sr.gr g1, e2, fun w ρ2 H2 g2 r2 d2 => ?_⟩⟩
    have d1' := d1.gr g2
    unfold Mi.bGet at eg
    split at eg
    · split at eg
      · rename_i kvs eh
        split at eg
        · rename_i ky ek
          cases d1' with
          | ref ea =>
            have ew := kOf_v ek d2
            subst ew
            obtain ⟨ks, h3, kr⟩ := dct_at r2 eh ea
            cases el : Mi.look kvs ky with
            | none => rw [el] at eg; cases eg
            | some dd =>
              rw [el] at eg
              cases eg
              obtain ⟨vv, hv, rv⟩ := (look_ok (k := ky) kr).1 _ el
              have dg := DGet.k (k := kK ky) h3
              rw [hv] at dg
              exact ⟨_, vv, rfl, dg, k vv ρ2 H2 (g1.trans g2) r2 rv⟩
        · cases eg
      · cases eg
    · cases eg
  · refine .inl ⟨ρ, G, δ, x, G1, rl, sr, e1, fun v ρ1 H1 g1 r1 d1 => ⟨ρ1, G1, δ, y, G2, r1, sr.gr g1, e2, fun w ρ2 H2 g2 r2 d2 => ?_⟩⟩
    have d1' := d1.gr g2
    unfold Mi.bIx at e
    cases es : Mi.seqOf G2 x with
    | none => rw [es] at e; cases e
    | some xs =>
      rw [es] at e
      cases y with
      | int i =>
        dsimp only at e
        cases ei : Mi.atI xs i with
        | none => rw [ei] at e; cases e
        | some dd =>
          rw [ei] at e
          cases e
          obtain ⟨p, ws, rfl, h, r⟩ := seqOf_at r2 es d1'
          obtain ⟨vv, h2, rv⟩ := atI_ok r ei
          cases d2
          rcases h with h | h
          · exact .inl ⟨_, _, _, vv, rfl, rfl, h, h2, k vv ρ2 H2 (g1.trans g2) r2 rv⟩
          · exact .inr ⟨_, _, _, vv, rfl, rfl, h, h2, k vv ρ2 H2 (g1.trans g2) r2 rv⟩
      | _ => cases e
/-! ### slices -/
def tMO (K : PySem.W.Frag) (kx : Kx) (m : Option ME) : TO := fun σ H Q => ∃ (ρ : Rh) (G : Sto) (δ : Sl) (d : Option Int) (G' : Sto), Rl K kx ρ G H ∧ Sr K ρ H δ σ ∧ Mi.mO m δ G = some (d, G') ∧
  ∀ ρ' H', Gr ρ H ρ' H' → Rl K kx ρ' G' H' → Q d H'
theorem _root_.L2.PO.imp {X : Cx} {e : Option Expr} {t u : TO} (h : PO X e t) (i : ∀ σ H Q, u σ H Q → t σ H Q) : PO X e u := ⟨fun pins s σ H Q I q => h.run pins s σ H Q I (i σ H Q q)⟩
theorem mo_none : PO X none (tMO X.K kx none) := po_none.imp fun σ H Q ⟨ρ, G, δ, d, G', rl, sr, e, k⟩ => by
  cases e
  exact k ρ H Gr.refl rl
theorem mo_some (ha : PE X a (tM X.K kx ma)) : PO X (some a) (tMO X.K kx (some ma)) := (po_some ha).imp fun σ H Q ⟨ρ, G, δ, d, G', rl, sr, e, k⟩ => by
  obtain ⟨x, G1, e1, e⟩ := Mi.bnd_eq e
  refine ⟨ρ, G, δ, x, G1, rl, sr, e1, fun v ρ1 H1 g1 r1 d1 => ?_⟩
  split at e
  · cases e
    cases d1
    exact ⟨_, rfl, k ρ1 H1 g1 r1⟩
  · cases e
theorem sIx_eq (n d : Nat) (o : Option Int) : Mi.sIx n d o = HT.sIx n d o := by cases o <;> rfl
theorem cut_ok {K : PySem.W.Frag} {ρ : Rh} {H : Hp} {xs : List Dv} {vs : List V} {lo hi : Option Int} (r : DRs K ρ H xs vs) : DRs K ρ H (Mi.cut xs lo hi) (cutV vs lo hi) := by
  unfold Mi.cut cutV
  rw [sIx_eq, sIx_eq, r.len]
  exact (r.drop _).take _
theorem cut_whole {xs : List Dv} {lo hi : Option Int} (h1 : Mi.sIx xs.length 0 lo = 0) (h2 : Mi.sIx xs.length xs.length hi = xs.length) : Mi.cut xs lo hi = xs := by
  unfold Mi.cut
  rw [h1, h2]
  simp
theorem m_slice (m : Bool) {lo hi : Option Expr} {ml mh : Option ME} {p2 : Pos} (ha : PE X a (tM X.K kx ma)) (hl : PO X lo (tMO X.K kx ml)) (hh : PO X hi (tMO X.K kx mh)) :
    PE X (.Subscript a (.Slice lo hi none p2) pos) (tM X.K kx (Mi.mSlice m ma ml mh)) := (pe_slice (SlR.or sl_list sl_tupA) ha hl hh).imp fun σ H Q ⟨ρ, G, δ, d, G', rl, sr, e, k⟩ => by
  obtain ⟨x, G1, e1, e⟩ := Mi.bnd_eq e
  obtain ⟨l, G2, e2, e⟩ := Mi.bnd_eq e
  obtain ⟨u, G3, e3, e⟩ := Mi.bnd_eq e
  refine ⟨ρ, G, δ, x, G1, rl, sr, e1, fun v ρ1 H1 g1 r1 d1 => ⟨ρ1, G1, δ, l, G2, r1, sr.gr g1, e2, fun ρ2 H2 g2 r2 => ⟨ρ2, G2, δ, u, G3, r2, sr.gr (g1.trans g2), e3, fun ρ3 H3 g3 r3 => ?_⟩⟩⟩
  have d3 := d1.gr (g2.trans g3)
  have k' : ∀ v ρ' H', Gr ρ3 H3 ρ' H' → Rl X.K kx ρ' G' H' → DR X.K ρ' H' d v → Q v H' := fun v ρ' H' g r q => k v ρ' H' (((g1.trans g2).trans g3).trans g) r q
  split at e
  · cases e
    cases d3 with
    | tup h r =>
      refine .inr ⟨_, _, rfl, h, fun ⟨z1, z2⟩ => ?_, fun _ => tup_ok r3 (cut_ok r) k'⟩
      refine k' _ ρ3 H3 Gr.refl r3 ?_
      rw [cut_whole (by rw [sIx_eq, r.len]; exact z1) (by rw [sIx_eq, r.len]; exact z2)]
      exact .tup h r
  · split at e
    · rename_i xs el
      have e' := Option.some.inj e
      obtain ⟨p, ws, rfl, h, r⟩ := lstOf_at r3 el d3
      refine .inl ⟨_, _, rfl, h, mkL_ok (m := m) r3 (cut_ok r) ?_⟩
      rw [e']
      exact k'
    · cases e
theorem m_rev (m : Bool) {j : Nat} {p1 p2 p3 : Pos} (ha : PE X a (tM X.K kx ma)) : PE X (.Subscript a (.Slice none none (some (.UnaryOp .USub (.Constant (.int 1) j p1) p2)) p3) pos) (tM X.K kx (Mi.mRev m ma)) := (pe_revL ha).imp fun σ H Q ⟨ρ, G, δ, d, G', rl, sr, e, k⟩ => by
  obtain ⟨x, G1, e1, e⟩ := Mi.bnd_eq e
  refine ⟨ρ, G, δ, x, G1, rl, sr, e1, fun v ρ1 H1 g1 r1 d1 => ?_⟩
  dsimp only at e
  split at e
  · rename_i xs el
    have e' := Option.some.inj e
    obtain ⟨p, ws, rfl, h, r⟩ := lstOf_at r1 el d1
    refine ⟨_, _, rfl, h, mkL_ok (m := m) r1 r.rev ?_⟩
    rw [e']
    exact fun z ρ' H' g r q => k z ρ' H' (g1.trans g) r q
  · cases e
/-! ### fields -/
theorem flook_ok {K : PySem.W.Frag} {ρ : Rh} {H : Hp} {f : String} : ∀ {fs : List (String × Dv)} {fs' : List (Str × V)}, FR K ρ H fs fs' →
    (∀ d, fs.lookup f = some d → ∃ v, fs'.lookup (Str.ofString f) = some v ∧ DR K ρ H d v) ∧ (fs.lookup f = none → fs'.lookup (Str.ofString f) = none)
  | _, _, .nil => ⟨(fun d e => nomatch e), fun _ => rfl⟩
  | (j, x) :: r, (j', v) :: r', .cons ⟨h1, h2⟩ t => by
    obtain ⟨i1, i2⟩ := flook_ok (f := f) t
    have h1' : j' = Str.ofString j := h1
    subst h1'
    by_cases hj : f = j
    · subst hj
      have e1 : List.lookup f ((f, x) :: r) = some x := by simp [List.lookup]
      have e2 : List.lookup (Str.ofString f) ((Str.ofString f, v) :: r') = some v := by simp [List.lookup]
      refine ⟨fun d e => ?_, fun e => ?_⟩
      · rw [e1] at e
        cases e
        exact ⟨v, e2, h2⟩
      · rw [e1] at e
        cases e
    · have hj' : ¬ Str.ofString f = Str.ofString j := fun z => hj (ofString_inj z)
      have b1 : (f == j) = false := beq_eq_false_iff_ne.mpr hj
      have b2 : (Str.ofString f == Str.ofString j) = false := beq_eq_false_iff_ne.mpr hj'
      have e1 : List.lookup f ((j, x) :: r) = List.lookup f r := by simp only [List.lookup, b1]
      have e2 : List.lookup (Str.ofString f) ((Str.ofString j, v) :: r') = List.lookup (Str.ofString f) r' := by simp only [List.lookup, b2]
      rw [e1, e2]
      exact ⟨i1, i2⟩
theorem fput_ok {K : PySem.W.Frag} {ρ : Rh} {H : Hp} {f : String} {d : Dv} {v : V} (q : DR K ρ H d v) : ∀ {fs : List (String × Dv)} {fs' : List (Str × V)}, FR K ρ H fs fs' → FR K ρ H (Mi.putF f d fs) (L2.putF (Str.ofString f) v fs')
  | _, _, .nil => .cons ⟨rfl, q⟩ .nil
  | (j, x) :: r, (j', w) :: r', .cons ⟨h1, h2⟩ t => by
    have h1' : j' = Str.ofString j := h1
    subst h1'
    show FR K ρ H (if j = f then (j, d) :: r else (j, x) :: Mi.putF f d r) (if Str.ofString j = Str.ofString f then (Str.ofString j, v) :: r' else (Str.ofString j, w) :: L2.putF (Str.ofString f) v r')
    by_cases hj : j = f
    · rw [if_pos hj, if_pos (by rw [hj])]
      exact .cons ⟨rfl, q⟩ t
    · rw [if_neg hj, if_neg (fun z => hj (ofString_inj z))]
      exact .cons ⟨rfl, h2⟩ (fput_ok q t)
/-- the classes cs have no attribute f of their own -/
def Fok (K : PySem.W.Frag) (kx : Kx) (cs : List Nat) (f : String) : Prop := ∀ c ∈ cs, Cls K (kx.ca c) ∧ NoAttr K (kx.ca c) (Str.ofString f)
theorem m_fld {cs : List Nat} {f : String} (hf : Fok X.K kx cs f) (ha : PE X a (tM X.K kx ma)) (hb : attributeBase a (Str.ofString f) X.env (eval a X.env) = eval a X.env := by rfl) : PE X (.Attribute a (Str.ofString f) pos) (tM X.K kx (Mi.mFld cs ma f)) := (pe_fld ha hb).imp fun σ H Q ⟨ρ, G, δ, d, G', rl, sr, e, k⟩ => by
  obtain ⟨x, G1, e1, e⟩ := Mi.bnd_eq e
  refine ⟨ρ, G, δ, x, G1, rl, sr, e1, fun v ρ1 H1 g1 r1 d1 => ?_⟩
  dsimp only at e
  split at e
  · split at e
    · rename_i c fs eh
      split at e
      · rename_i hc
        cases d1 with
        | ref ea =>
          obtain ⟨dx, fs', h1, fr⟩ := ins_at r1 eh ea
          cases el : fs.lookup f with
          | none => rw [el] at e; cases e
          | some dd =>
            rw [el] at e
            cases e
            obtain ⟨w, hw, rw'⟩ := (flook_ok (f := f) fr).1 _ el
            exact ⟨_, _, _, _, w, rfl, h1, (hf c hc).1, (hf c hc).2, hw, k w ρ1 H1 g1 r1 rw'⟩
      · cases e
    · cases e
  · cases e
/-! ### list(range(..)) -/
theorem rng_ok {K : PySem.W.Frag} {ρ : Rh} {H : Hp} {a b : Int} : DRs K ρ H (Mi.rng a b) (rgV a b) := by
  unfold Mi.rng rgV
  generalize List.range (b - a).toNat = l
  induction l with
  | nil => exact .nil
  | cons i r ih => exact .cons (.int _) ih
theorem m_listR2 (m : Bool) {p p2 pos2 : Pos} (hc : X.calm = true) (hm : X.mg "list" = none) (hm2 : X.mg "range" = none) (ha : PE X a (tM X.K kx ma)) (hb : PE X b (tM X.K kx mb)) (hg : Gl X "list" := by rfl) (hg2 : Gl X "range" := by rfl)
    (na : starEach [a, b] X.env = (false, eval a X.env) :: starEach [b] X.env := by rfl) (nb : starEach [b] X.env = (false, eval b X.env) :: starEach [] X.env := by rfl) (hp : (backTo pos2 (starEach [b] X.env)).any (·.1) = false := by rfl) (nr : starEach [Expr.Call (.Name "range" p2) [a, b] [] pos2] X.env = (false, eval (Expr.Call (.Name "range" p2) [a, b] [] pos2) X.env) :: starEach [] X.env := by rfl) :
    PE X (.Call (.Name "list" p) [.Call (.Name "range" p2) [a, b] [] pos2] [] pos) (tM X.K kx (Mi.m2 (Mi.bListR m) ma mb)) :=
  (pe_listRg hc hg hm (prg_2 hg2 hm2 ha hb na nb hp) nr).imp fun σ H Q ⟨ρ, G, δ, d, G', rl, sr, e, k⟩ => by
  obtain ⟨x, G1, e1, e⟩ := Mi.bnd_eq e
  obtain ⟨y, G2, e2, e⟩ := Mi.bnd_eq e
  refine ⟨ρ, G, δ, x, G1, rl, sr, e1, fun v ρ1 H1 g1 r1 d1 => ⟨ρ1, G1, δ, y, G2, r1, sr.gr g1, e2, fun w ρ2 H2 g2 r2 d2 => ?_⟩⟩
  unfold Mi.bListR at e
  split at e
  · split at e
    · rename_i hz
      obtain ⟨z1, z2, z3, z4, z5⟩ := hz
      have e' := Option.some.inj e
      cases d1
      cases d2
      refine ⟨_, _, rfl, rfl, ⟨z1, z2, z3, z4, z5⟩, mkL_ok (m := m) r2 rng_ok ?_⟩
      rw [e']
      exact fun z ρ' H' g r q => k z ρ' H' ((g1.trans g2).trans g) r q
    · cases e
  · cases e
end
end Ms

/-! PyS3c: calls of defs, of methods, of classes; dict displays; repr of equal data. -/
namespace Ms
open PySem L2
open Mi (Dv MO Sto Sl Rs bnd ME MT MA MS MF Fl MG MGs MI)
/-- the def at f does what the mirror's function mf does, where no repr is under way -/
structure FnM (P : Program) (w : World) (K : PySem.W.Frag) (kx : Kx) (mg : Str → Option Value) (base : Heap) (k : Nat) (f : Addr) (fd : FuncData) (ps : List Str) (mf : MF) : Prop where
  ar : ∀ ds G r, mf ds G = some r → ds.length = ps.length
  run : ∀ (A : Around) (outer : List Env) (s : Shared) (H : Hp) (args : Args) (us : List Value) (vs : List V) (Q : VK) (ρ : Rh) (G : Sto) (ds : List Dv) (d : Dv) (G' : Sto), A.guards = some [] → Room k A → Env0 P w K mg base A outer s H →
    BindsTo s fd args (ps.zip us) → Vals vs us → Rl K kx ρ G H → DRs K ρ H ds vs → mf ds G = some (d, G') → (∀ v ρ' H', Gr ρ H ρ' H' → Rl K kx ρ' G' H' → DR K ρ' H' d v → Q v H') →
    codeAny (model P w) A (.call (.ref f) args) (CR CX0 outer P w H s Q E0) s
theorem FnM.mono {P : Program} {w : World} {K : PySem.W.Frag} {kx : Kx} {mg : Str → Option Value} {base : Heap} {j k : Nat} {f : Addr} {fd : FuncData} {ps : List Str} {mf : MF} (F : FnM P w K kx mg base j f fd ps mf) (h : j ≤ k) : FnM P w K kx mg base k f fd ps mf :=
  ⟨F.ar, fun A outer s H args us vs Q ρ G ds d G' hG hr => F.run A outer s H args us vs Q ρ G ds d G' hG (hr.mono h)⟩
section
variable {X : Cx} {kx : Kx} {e a b c o : Expr} {ma mb mc me mo : ME} {pos p apos : Pos} {rest es : List Expr} {mas mks : MA} {k : Nat} {f : Addr} {fd : FuncData} {ps : List Str} {mf : MF} {x : Str}
/-- behind a callee -/
theorem after_run {pins : List (Addr × Obj)} {σ : St} {H : Hp} {s s' : Shared} {Q : VK} {r : Result} (I : Inv X pins σ H s) (h : CR CX0 X.stack X.prog X.w H s Q E0 r s') : ∃ u, r = .ok (.ret u) ∧ EP X pins σ Q u s' := by
  match r, h with
  | .ok (.ret u), back => exact ⟨u, rfl, I.after back⟩
theorem run_m {pins : List (Addr × Obj)} {σ : St} {H : Hp} {s : Shared} {Q : VK} {us : List Value} {vs : List V} {kw : List (Str × Value)} {ws : List Value} {ρ : Rh} {G : Sto} {ds : List Dv} {d : Dv} {G' : Sto} (F : FnM X.prog X.w X.K kx X.mg X.base k f fd ps mf) (hG : X.A.guards = some []) (hr : Room k X.A)
    (I : Inv X pins σ H s) (hb : BindsTo s fd ⟨us, kw⟩ (ps.zip ws)) (r : Vals vs ws) (rl : Rl X.K kx ρ G H) (dr : DRs X.K ρ H ds vs) (e : mf ds G = some (d, G')) (q : ∀ v ρ' H', Gr ρ H ρ' H' → Rl X.K kx ρ' G' H' → DR X.K ρ' H' d v → Q v H') :
    wpAny (model X.prog X.w) X.A (call (.ref f) us kw) (EP X pins σ Q) X.xe s := by
  refine wpAny_call (codeAny_mono (F.run X.A X.stack s H ⟨us, kw⟩ ws vs Q ρ G ds d G' hG hr I.env0 hb r rl dr e q) fun res s' h => ?_)
  obtain ⟨u, e1, e2⟩ := after_run I h
  subst e1
  exact e2
theorem lenOf {ps : List Str} {ds : List Dv} {vs : List V} {us : List Value} {K : PySem.W.Frag} {ρ : Rh} {H : Hp} (h : ds.length = ps.length) (r : DRs K ρ H ds vs) (q : Vals vs us) : (us ++ []).length = ps.length := by
  rw [List.append_nil, ← q.length, ← r.len]
  exact h
/-- f(e, ..) -/
theorem m_call (F : FnM X.prog X.w X.K kx X.mg X.base k f fd ps mf) (hG : X.A.guards = some []) (hr : Room k X.A) (hm : X.mg x = some (.ref f)) (hk : PySem.W.keepIn X.K (.ref f) = true) (hb : Binds X.K fd ps []) (ha : PA X (e :: es) (tMA X.K kx mas)) (hg : Gl X x := by rfl)
    (hdb : (x == ("__debug__" : Str)) = false := by decide) (he : Es X e es := by rfl) (hpl : Np X pos es := by rfl) : PE X (.Call (.Name x p) (e :: es) [] pos) (tM X.K kx (Mi.mCall mf mas)) := ⟨fun pins s σ H Q I h => by
  obtain ⟨ρ, G, δ, d, G', rl, sr, e0, q⟩ := h
  obtain ⟨ds, G1, e1, e2⟩ := Mi.bnd_eq e0
  refine called_by I hg hm hdb ?_
  refine PySem.W.callWith_K (h₀ := X.base) I.ok.mod.kin hk (thn (ha.run pos pins s σ H (fun vs H1 => ∃ ρ1, Gr ρ H ρ1 H1 ∧ Rl X.K kx ρ1 G1 H1 ∧ DRs X.K ρ1 H1 ds vs) I ⟨ρ, G, δ, ds, G1, rl, sr, e1, fun vs ρ1 H1 g r d => ⟨ρ1, g, r, d⟩⟩) fun us s1 ⟨vs, H1, I1, r, ρ1, g1, r1, d1⟩ => ⟨I1.kIn, ?_⟩) he hpl
  have hl := lenOf (F.ar _ _ _ e2) d1 r
  have hb' := hb s1 us I1.kIn hl
  rw [List.append_nil] at hb'
  exact run_m F hG hr I1 hb' r r1 d1 e2 fun v ρ' H' g r q' => q v ρ' H' (g1.trans g) r q'⟩
theorem m_call0 (F : FnM X.prog X.w X.K kx X.mg X.base k f fd ps mf) (hG : X.A.guards = some []) (hr : Room k X.A) (hm : X.mg x = some (.ref f)) (hk : PySem.W.keepIn X.K (.ref f) = true) (hb : Binds X.K fd ps []) (hg : Gl X x := by rfl) (hdb : (x == ("__debug__" : Str)) = false := by decide) :
    PE X (.Call (.Name x p) [] [] pos) (tM X.K kx (Mi.mCall mf Mi.mNil)) := ⟨fun pins s σ H Q I h => by
  obtain ⟨ρ, G, δ, d, G', rl, sr, e0, q⟩ := h
  refine called_by I hg hm hdb ?_
  have e2 : mf [] G = some (d, G') := e0
  have hb' := hb s [] I.kIn (lenOf (K := X.K) (ρ := ρ) (H := H) (vs := []) (F.ar _ _ _ e2) .nil .nil)
  exact PySem.W.callWith_K0 I.kIn hk (run_m (us := []) (ws := []) F hG hr I hb' .nil rl .nil e2 q)⟩
/-- o.m(e, ..), o.m() -/
theorem m_meth {cn : Nat} {m : String} {pl : Sem Bool} (ho : PE X o (tM X.K kx mo)) (hc : Cls X.K (kx.ca cn)) (hm : Meth X.K (kx.ca cn) (Str.ofString m) f) (F : FnM X.prog X.w X.K kx X.mg X.base k f fd ps mf) (hG : X.A.guards = some []) (hr : Room k X.A) (hb : Binds X.K fd ps []) (ha : PA X (e :: es) (tMA X.K kx mas))
    (hst : Es X e es := by rfl) (hpl : Np X pos es := by rfl)
    (ht : eval (.Call (.Attribute o (Str.ofString m) apos) (e :: es) [] pos) X.env = (do let ov ← eval o X.env; standAt apos.atName; let (f, first) ← holding [ov] (getMethod ov (Str.ofString m) pl); callWith pos f first (backTo pos (starEach (e :: es) X.env)) (backToKw pos (keywordEach [] X.env))) := by rfl) :
    PE X (.Call (.Attribute o (Str.ofString m) apos) (e :: es) [] pos) (tM X.K kx (Mi.mMeth cn m mf mo mas)) := ⟨fun pins s σ H Q I h => by
  obtain ⟨ρ, G, δ, d, G', rl, sr, e0, q⟩ := h
  obtain ⟨y, G1, e1, e2⟩ := Mi.bnd_eq e0
  refine PySem.W.methodCall_KW (pl := pl) (thn (ho.run pins s σ H (fun v H1 => ∃ ρ1, Gr ρ H ρ1 H1 ∧ Rl X.K kx ρ1 G1 H1 ∧ DR X.K ρ1 H1 y v) I ⟨ρ, G, δ, y, G1, rl, sr, e1, fun v ρ1 H1 g r d => ⟨ρ1, g, r, d⟩⟩) fun u s1 ⟨v, H1, I1, rx, ρ1, g1, r1, d1⟩ => ?_) ht
  cases y with
  | ref h =>
    dsimp only at e2
    split at e2
    · rename_i c' fs eh
      split at e2
      · rename_i hz
        obtain ⟨hz1, hz2⟩ := hz
        subst hz1
        obtain ⟨ds, G2, e3, e4⟩ := Mi.bnd_eq e2
        cases d1 with
        | @ref _ ad ea =>
          obtain ⟨dx, fs', h1, fr⟩ := ins_at r1 eh ea
          obtain rfl : u = Value.ref ad := rx
          refine getmeth_ok I1 h1 hc hm ((flook_ok fr).2 hz2) ?_
          refine PySem.W.callWith_K (first := [.ref ad]) (h₀ := X.base) I.ok.mod.kin hm.kp (thn (ha.run pos pins s1 σ H1 (fun vs H2 => ∃ ρ2, Gr ρ1 H1 ρ2 H2 ∧ Rl X.K kx ρ2 G2 H2 ∧ DRs X.K ρ2 H2 ds vs) I1 ⟨ρ1, G1, δ, ds, G2, r1, sr.gr g1, e3, fun vs ρ2 H2 g r d => ⟨ρ2, g, r, d⟩⟩) fun us s2 ⟨vs, H2, I2, r, ρ2, g2, r2, d2⟩ => ⟨I2.kIn, ?_⟩) hst hpl
          have dd : DRs X.K ρ2 H2 (.ref h :: ds) (.ref ad :: vs) := .cons ((DR.ref ea).gr g2) d2
          have rr : Vals (V.ref ad :: vs) (Value.ref ad :: us) := .cons rfl r
          have hb' := hb s2 (Value.ref ad :: us) I2.kIn (lenOf (F.ar _ _ _ e4) dd rr)
          rw [List.append_nil] at hb'
          exact run_m F hG hr I2 hb' rr r2 dd e4 fun v ρ' H' g r q' => q v ρ' H' ((g1.trans g2).trans g) r q'
      · cases e2
    · cases e2
  | _ => cases e2⟩
theorem m_meth0 {cn : Nat} {m : String} {pl : Sem Bool} (ho : PE X o (tM X.K kx mo)) (hc : Cls X.K (kx.ca cn)) (hm : Meth X.K (kx.ca cn) (Str.ofString m) f) (F : FnM X.prog X.w X.K kx X.mg X.base k f fd ps mf) (hG : X.A.guards = some []) (hr : Room k X.A) (hb : Binds X.K fd ps [])
    (ht : eval (.Call (.Attribute o (Str.ofString m) apos) [] [] pos) X.env = (do let ov ← eval o X.env; standAt apos.atName; let (f, first) ← holding [ov] (getMethod ov (Str.ofString m) pl); callWith pos f first (backTo pos (starEach [] X.env)) (backToKw pos (keywordEach [] X.env))) := by rfl) :
    PE X (.Call (.Attribute o (Str.ofString m) apos) [] [] pos) (tM X.K kx (Mi.mMeth cn m mf mo Mi.mNil)) := ⟨fun pins s σ H Q I h => by
  obtain ⟨ρ, G, δ, d, G', rl, sr, e0, q⟩ := h
  obtain ⟨y, G1, e1, e2⟩ := Mi.bnd_eq e0
  refine PySem.W.methodCall_KW (pl := pl) (thn (ho.run pins s σ H (fun v H1 => ∃ ρ1, Gr ρ H ρ1 H1 ∧ Rl X.K kx ρ1 G1 H1 ∧ DR X.K ρ1 H1 y v) I ⟨ρ, G, δ, y, G1, rl, sr, e1, fun v ρ1 H1 g r d => ⟨ρ1, g, r, d⟩⟩) fun u s1 ⟨v, H1, I1, rx, ρ1, g1, r1, d1⟩ => ?_) ht
  cases y with
  | ref h =>
    dsimp only at e2
    split at e2
    · rename_i c' fs eh
      split at e2
      · rename_i hz
        obtain ⟨hz1, hz2⟩ := hz
        subst hz1
        have e4 : mf [.ref h] G1 = some (d, G') := e2
        cases d1 with
        | @ref _ ad ea =>
          obtain ⟨dx, fs', h1, fr⟩ := ins_at r1 eh ea
          obtain rfl : u = Value.ref ad := rx
          refine getmeth_ok I1 h1 hc hm ((flook_ok fr).2 hz2) ?_
          have dd : DRs X.K ρ1 H1 [.ref h] [.ref ad] := .cons (.ref ea) .nil
          have rr : Vals [V.ref ad] [Value.ref ad] := .cons rfl .nil
          have hb' := hb s1 [Value.ref ad] I1.kIn (lenOf (F.ar _ _ _ e4) dd rr)
          exact PySem.W.callWith_K0 (first := [.ref ad]) I1.kIn hm.kp (run_m (us := [.ref ad]) F hG hr I1 hb' rr r1 dd e4 fun v ρ' H' g r q' => q v ρ' H' (g1.trans g) r q')
      · cases e2
    · cases e2
  | _ => cases e2⟩
theorem guards_make {A : Around} {C : Addr} {us : List Value} {kw : List (Str × Value)} (h : A.guards = some []) : (A.under (.builtin "type.__call__" ⟨.ref C :: us, kw⟩)).guards = some [] := by
  have e : (Code.builtin "type.__call__" ⟨.ref C :: us, kw⟩).guards = [] := by
    have g : (Code.builtin "type.__call__" ⟨.ref C :: us, kw⟩).isGuard = false := by
      show guardIds.contains "type.__call__" = false
      decide +kernel
    unfold Code.guards
    rw [g] <;> rfl
  show pushGuards (Code.builtin "type.__call__" ⟨.ref C :: us, kw⟩).guards A.guards = some []
  rw [e]
  exact h
/-- C(e, ..) -/
theorem m_make {cn : Nat} (M : Mk X.K (kx.ca cn) f) (F : FnM X.prog X.w X.K kx X.mg X.base k f fd ps mf) (hG : X.A.guards = some []) (hr : Room (k + 1) X.A) (hm : X.mg x = some (.ref (kx.ca cn))) (hb : Binds X.K fd ps []) (ha : PA X (e :: es) (tMA X.K kx mas)) (hg : Gl X x := by rfl)
    (hdb : (x == ("__debug__" : Str)) = false := by decide) (he : Es X e es := by rfl) (hpl : Np X pos es := by rfl) : PE X (.Call (.Name x p) (e :: es) [] pos) (tM X.K kx (Mi.mMake cn mf mas)) := ⟨fun pins s σ H Q I h => by
  obtain ⟨ρ, G, δ, d, G', rl, sr, e0, q⟩ := h
  obtain ⟨ds, G1, e1, e2⟩ := Mi.bnd_eq e0
  obtain ⟨rv, G2, e3, e4⟩ := Mi.bnd_eq e2
  refine called_by I hg hm hdb ?_
  refine PySem.W.callWith_K (h₀ := X.base) I.ok.mod.kin M.kp (thn (ha.run pos pins s σ H (fun vs H1 => ∃ ρ1, Gr ρ H ρ1 H1 ∧ Rl X.K kx ρ1 G1 H1 ∧ DRs X.K ρ1 H1 ds vs) I ⟨ρ, G, δ, ds, G1, rl, sr, e1, fun vs ρ1 H1 g r d => ⟨ρ1, g, r, d⟩⟩) fun us s1 ⟨vs, H1, I1, r, ρ1, g1, r1, d1⟩ => ⟨I1.kIn, ?_⟩) he hpl
  have f1 : H1 s1.heap.objs.size = none := I1.hok.fresh (Nat.le_refl _)
  have f2 : H1 (s1.heap.objs.size + 1) = none := I1.hok.fresh (Nat.le_succ _)
  have ne : s1.heap.objs.size + 1 ≠ s1.heap.objs.size := Nat.succ_ne_self _
  obtain ⟨ga, ra⟩ := r1.side (.own (s1.heap.objs.size + 1)) f1
  obtain ⟨gb, rb⟩ := ra.grow (p := s1.heap.objs.size + 1) (o := .ins (kx.ca cn) s1.heap.objs.size []) (m := .ins cn []) (by rw [upd_ne ne]; exact f2) fun g => .ins upd_same .nil
  have I2 := Inv.made (C := kx.ca cn) I1
  have dd : DRs X.K (ρ1.snoc (s1.heap.objs.size + 1)) _ (.ref G1.length :: ds) (V.ref (s1.heap.objs.size + 1) :: vs) := .cons (.ref (by rw [← r1.len, List.getElem?_append_right (Nat.le_refl _)]; simp)) (d1.gr (ga.trans gb))
  have rr : Vals (V.ref (s1.heap.objs.size + 1) :: vs) (Value.ref (s1.heap.objs.size + 1) :: us) := .cons rfl r
  have hb' := hb _ (Value.ref (s1.heap.objs.size + 1) :: us) I2.kIn (lenOf (F.ar _ _ _ e3) dd rr)
  rw [List.append_nil] at hb'
  refine wpAny_call (make_map (f := f) I1.kIn M.makes M.init (beq_iff_eq.mp M.fn) (codeAny_mono (F.run _ X.stack _ _ ⟨Value.ref (s1.heap.objs.size + 1) :: us, []⟩ (Value.ref (s1.heap.objs.size + 1) :: us) _ (fun v H2 => v = .non ∧ Q (.ref (s1.heap.objs.size + 1)) H2) _ _ _ _ _ (guards_make hG) (hr.make (kx.ca cn) us []) (I2.env0.make (kx.ca cn) us []) hb' rr rb dd e3 fun v ρ' H' g r qd => ?_) fun res s' hq => ?_))
  · split at e4
    · cases e4
      cases qd
      refine ⟨rfl, q _ ρ' H' (((g1.trans ga).trans gb).trans g) r ?_⟩
      exact .ref (ref_gr (K := X.K) g (show (ρ1.snoc (s1.heap.objs.size + 1)).r[G1.length]? = some (s1.heap.objs.size + 1) by rw [← r1.len, List.getElem?_append_right (Nat.le_refl _)]; simp))
    · cases e4
  · obtain ⟨u, h1, h2⟩ := after_run I2 hq
    subst h1
    obtain ⟨v, H', I3, rv', ev, q3⟩ := h2
    subst ev
    exact ⟨rv', ⟨V.ref (s1.heap.objs.size + 1), H', I3, rfl, q3⟩⟩⟩
/-! ### keywords -/
theorem _root_.L2.PK.imp {X : Cx} {kws : List Keyword} {t u : TA} (h : PK X kws t) (i : ∀ σ H Q, u σ H Q → t σ H Q) : PK X kws u := ⟨fun p pins s σ H Q I q => h.run p pins s σ H Q I (i σ H Q q)⟩
theorem mk_nil : PK X [] (tMA X.K kx Mi.mNil) := pk_nil.imp fun σ H Q ⟨ρ, G, δ, d, G', rl, sr, e, k⟩ => by
  cases e
  exact k [] ρ H Gr.refl rl .nil
theorem mk_cons {nm : Option Str} {kpos : Pos} {kws : List Keyword} (ha : PE X e (tM X.K kx ma)) (hr : PK X kws (tMA X.K kx mas)) : PK X (⟨nm, e, kpos⟩ :: kws) (tMA X.K kx (Mi.mCons ma mas)) := (pk_cons ha hr).imp fun σ H Q ⟨ρ, G, δ, d, G', rl, sr, e, k⟩ => by
  obtain ⟨x, G1, e1, e⟩ := Mi.bnd_eq e
  obtain ⟨xs, G2, e2, e⟩ := Mi.bnd_eq e
  cases e
  exact ⟨ρ, G, δ, x, G1, rl, sr, e1, fun v ρ1 H1 g1 r1 d1 => ⟨ρ1, G1, δ, xs, _, r1, sr.gr g1, e2, fun vs ρ2 H2 g2 r2 d2 => k (v :: vs) ρ2 H2 (g1.trans g2) r2 (.cons (d1.gr g2) d2)⟩⟩
/-- the values in the parameters' order -/
def pickV (ix : List Nat) (vs : List V) : List V := ix.map fun i => vs.getD i .non
def pickU (ix : List Nat) (us : List Value) : List Value := ix.map fun i => us.getD i .none
theorem pick_dr {K : PySem.W.Frag} {ρ : Rh} {H : Hp} {ds : List Dv} {vs : List V} (r : DRs K ρ H ds vs) : ∀ ix : List Nat, DRs K ρ H (ix.map fun i => ds.getD i .non) (pickV ix vs)
  | [] => .nil
  | i :: t => by
    refine .cons ?_ (pick_dr r t)
    cases e : ds[i]? with
    | none =>
      have e2 : vs[i]? = none := by
        rw [List.getElem?_eq_none_iff] at e ⊢
        rw [← r.len]
        exact e
      simp only [List.getD_eq_getElem?_getD, e, e2]
      exact .non
    | some d =>
      obtain ⟨v, h1, h2⟩ := r.get e
      simp only [List.getD_eq_getElem?_getD, e, h1]
      exact h2
theorem pick_vals {vs : List V} {us : List Value} (r : Vals vs us) : ∀ ix : List Nat, Vals (pickV ix vs) (pickU ix us)
  | [] => .nil
  | i :: t => by
    refine .cons ?_ (pick_vals r t)
    cases e : vs[i]? with
    | none =>
      have e2 : us[i]? = none := r.none_of e
      simp only [List.getD_eq_getElem?_getD, e, e2]
      exact rfl
    | some d =>
      obtain ⟨v, h1, h2⟩ := r.get e
      simp only [List.getD_eq_getElem?_getD, e, h1]
      exact h2
/-- how the call's n values by position and the keywords ks bind -/
def KBm (fd : FuncData) (ps ks : List Str) (n : Nat) (ix : List Nat) : Prop := ∀ (s : Shared) (us ws : List Value), us.length = n → ws.length = ks.length → BindsTo s fd ⟨us, ks.zip ws⟩ (ps.zip (pickU ix (us ++ ws)))
/-- the lengths of what arguments give -/
def Len (m : MA) (n : Nat) : Prop := ∀ δ G ds G', m δ G = some (ds, G') → ds.length = n
theorem len_nil : Len Mi.mNil 0 := fun δ G ds G' e => by cases e; rfl
theorem len_cons {n : Nat} (h : Len mas n) : Len (Mi.mCons ma mas) (n + 1) := fun δ G ds G' e => by
  obtain ⟨x, G1, e1, e⟩ := Mi.bnd_eq e
  obtain ⟨xs, G2, e2, e⟩ := Mi.bnd_eq e
  cases e
  rw [List.length_cons, h _ _ _ _ e2]
variable {kws : List Keyword} {ks : List Str} {n : Nat} {ix : List Nat}
/-- f(k = v, ..) -/
theorem m_callK0 (F : FnM X.prog X.w X.K kx X.mg X.base k f fd ps mf) (hG : X.A.guards = some []) (hr : Room k X.A) (hm : X.mg x = some (.ref f)) (hk : PySem.W.keepIn X.K (.ref f) = true) (hb : KBm fd ps ks 0 ix) (hl : Len mks ks.length) (hkw : PK X kws (tMA X.K kx mks)) (hg : Gl X x := by rfl)
    (hall : Ka X pos kws := by rfl) (hks : Ks X pos kws ks := by rfl) (hdb : (x == ("__debug__" : Str)) = false := by decide)
    (hpl : ((backTo pos (starEach [] X.env)).any (·.1) || (backToKw pos (keywordEach kws X.env)).any (·.1.isNone)) = false := by rfl) : PE X (.Call (.Name x p) [] kws pos) (tM X.K kx (Mi.mCallK mf ix Mi.mNil mks)) := ⟨fun pins s σ H Q I h => by
  obtain ⟨ρ, G, δ, d, G', rl, sr, e0, q⟩ := h
  obtain ⟨d0, G0, e00, e0⟩ := Mi.bnd_eq e0
  cases e00
  obtain ⟨ds, G1, e1, e2⟩ := Mi.bnd_eq e0
  refine called_by I hg hm hdb ?_
  refine PySem.W.callWith_KW0 (h₀ := X.base) I.ok.mod.kin hk hall (thn (hkw.run pos pins s σ H (fun vs H1 => ∃ ρ1, Gr ρ H ρ1 H1 ∧ Rl X.K kx ρ1 G1 H1 ∧ DRs X.K ρ1 H1 ds vs) I ⟨ρ, _, δ, ds, G1, rl, sr, e1, fun vs ρ1 H1 g r d => ⟨ρ1, g, r, d⟩⟩) fun us s1 ⟨vs, H1, I1, r, ρ1, g1, r1, d1⟩ => ⟨I1.kIn, ?_⟩) hpl
  rw [hks]
  have hlen : us.length = ks.length := by rw [← r.length, ← d1.len]; exact hl _ _ _ _ e1
  have hb' := hb s1 [] us rfl hlen
  exact run_m (us := []) F hG hr I1 hb' (pick_vals r ix) r1 (pick_dr d1 ix) e2 fun v ρ' H' g r q' => q v ρ' H' (g1.trans g) r q'⟩
/-- f(e, .., k = v, ..) -/
theorem m_callK (F : FnM X.prog X.w X.K kx X.mg X.base k f fd ps mf) (hG : X.A.guards = some []) (hr : Room k X.A) (hm : X.mg x = some (.ref f)) (hk : PySem.W.keepIn X.K (.ref f) = true) (hb : KBm fd ps ks n ix) (hl1 : Len mas n) (hl : Len mks ks.length) (ha : PA X (e :: es) (tMA X.K kx mas)) (hkw : PK X kws (tMA X.K kx mks)) (hg : Gl X x := by rfl)
    (hall : Ka X pos kws := by rfl) (hks : Ks X pos kws ks := by rfl) (hdb : (x == ("__debug__" : Str)) = false := by decide) (he : Es X e es := by rfl)
    (hpl : ((backTo pos (starEach (e :: es) X.env)).any (·.1) || (backToKw pos (keywordEach kws X.env)).any (·.1.isNone)) = false := by rfl) : PE X (.Call (.Name x p) (e :: es) kws pos) (tM X.K kx (Mi.mCallK mf ix mas mks)) := ⟨fun pins s σ H Q I h => by
  obtain ⟨ρ, G, δ, d, G', rl, sr, e0, q⟩ := h
  obtain ⟨ds, G1, e1, e2⟩ := Mi.bnd_eq e0
  obtain ⟨es', G2, e3, e4⟩ := Mi.bnd_eq e2
  refine called_by I hg hm hdb ?_
  refine PySem.W.callWith_KW (h₀ := X.base) I.ok.mod.kin hk hall (thn (ha.run pos pins s σ H (fun vs H1 => ∃ ρ1, Gr ρ H ρ1 H1 ∧ Rl X.K kx ρ1 G1 H1 ∧ DRs X.K ρ1 H1 ds vs) I ⟨ρ, G, δ, ds, G1, rl, sr, e1, fun vs ρ1 H1 g r d => ⟨ρ1, g, r, d⟩⟩) fun us s1 ⟨vs, H1, I1, r, ρ1, g1, r1, d1⟩ => ?_) hpl he
  refine thn (hkw.run pos pins s1 σ H1 (fun vs H2 => ∃ ρ2, Gr ρ1 H1 ρ2 H2 ∧ Rl X.K kx ρ2 G2 H2 ∧ DRs X.K ρ2 H2 es' vs) I1 ⟨ρ1, G1, δ, es', G2, r1, sr.gr g1, e3, fun vs ρ1 H1 g r d => ⟨ρ1, g, r, d⟩⟩) fun ws s2 ⟨zs, H2, I2, rz, ρ2, g2, r2, d2⟩ => ⟨I2.kIn, ?_⟩
  rw [hks]
  have hlen : ws.length = ks.length := by rw [← rz.length, ← d2.len]; exact hl _ _ _ _ e3
  have hlen1 : us.length = n := by rw [← r.length, ← d1.len]; exact hl1 _ _ _ _ e1
  have hb' := hb s2 us ws hlen1 hlen
  exact run_m (us := us) F hG hr I2 hb' (pick_vals (r.append rz) ix) r2 (pick_dr ((d1.gr g2).app d2) ix) e4 fun v ρ' H' g r q' => q v ρ' H' ((g1.trans g2).trans g) r q'⟩
/-- o.m(k = v, ..) -/
theorem m_methK0 {cn : Nat} {m : String} {pl : Sem Bool} (ho : PE X o (tM X.K kx mo)) (hc : Cls X.K (kx.ca cn)) (hm : Meth X.K (kx.ca cn) (Str.ofString m) f) (F : FnM X.prog X.w X.K kx X.mg X.base k f fd ps mf) (hG : X.A.guards = some []) (hr : Room k X.A) (hb : KBm fd ps ks 1 ix) (hl : Len mks ks.length) (hkw : PK X kws (tMA X.K kx mks))
    (hall : Ka X pos kws := by rfl) (hks : Ks X pos kws ks := by rfl)
    (hpl : ((backTo pos (starEach [] X.env)).any (·.1) || (backToKw pos (keywordEach kws X.env)).any (·.1.isNone)) = false := by rfl)
    (ht : eval (.Call (.Attribute o (Str.ofString m) apos) [] kws pos) X.env = (do let ov ← eval o X.env; standAt apos.atName; let (f, first) ← holding [ov] (getMethod ov (Str.ofString m) pl); callWith pos f first (backTo pos (starEach [] X.env)) (backToKw pos (keywordEach kws X.env))) := by rfl) :
    PE X (.Call (.Attribute o (Str.ofString m) apos) [] kws pos) (tM X.K kx (Mi.mMethK cn m mf ix mo Mi.mNil mks)) := ⟨fun pins s σ H Q I h => by
  obtain ⟨ρ, G, δ, d, G', rl, sr, e0, q⟩ := h
  obtain ⟨y, G1, e1, e2⟩ := Mi.bnd_eq e0
  refine PySem.W.methodCall_KW (pl := pl) (thn (ho.run pins s σ H (fun v H1 => ∃ ρ1, Gr ρ H ρ1 H1 ∧ Rl X.K kx ρ1 G1 H1 ∧ DR X.K ρ1 H1 y v) I ⟨ρ, G, δ, y, G1, rl, sr, e1, fun v ρ1 H1 g r d => ⟨ρ1, g, r, d⟩⟩) fun u s1 ⟨v, H1, I1, rx, ρ1, g1, r1, d1⟩ => ?_) ht
  cases y with
  | ref h =>
    dsimp only at e2
    split at e2
    · rename_i c' fs eh
      split at e2
      · rename_i hz
        obtain ⟨hz1, hz2⟩ := hz
        subst hz1
        obtain ⟨d0, G0, e00, e2⟩ := Mi.bnd_eq e2
        cases e00
        obtain ⟨ds, G2, e3, e4⟩ := Mi.bnd_eq e2
        cases d1 with
        | @ref _ ad ea =>
          obtain ⟨dx, fs', h1, fr⟩ := ins_at r1 eh ea
          obtain rfl : u = Value.ref ad := rx
          refine getmeth_ok I1 h1 hc hm ((flook_ok fr).2 hz2) ?_
          refine PySem.W.callWith_KW0 (first := [.ref ad]) (h₀ := X.base) I.ok.mod.kin hm.kp hall (thn (hkw.run pos pins s1 σ H1 (fun vs H2 => ∃ ρ2, Gr ρ1 H1 ρ2 H2 ∧ Rl X.K kx ρ2 G2 H2 ∧ DRs X.K ρ2 H2 ds vs) I1 ⟨ρ1, _, δ, ds, G2, r1, sr.gr g1, e3, fun vs ρ2 H2 g r d => ⟨ρ2, g, r, d⟩⟩) fun us s2 ⟨vs, H2, I2, r, ρ2, g2, r2, d2⟩ => ⟨I2.kIn, ?_⟩) hpl
          rw [hks]
          have hlen : us.length = ks.length := by rw [← r.length, ← d2.len]; exact hl _ _ _ _ e3
          have dd : DRs X.K ρ2 H2 (.ref h :: ds) (.ref ad :: vs) := .cons ((DR.ref ea).gr g2) d2
          have rr : Vals (V.ref ad :: vs) (Value.ref ad :: us) := .cons rfl r
          have hb' := hb s2 [Value.ref ad] us rfl hlen
          exact run_m (us := [.ref ad]) F hG hr I2 hb' (pick_vals rr ix) r2 (pick_dr dd ix) e4 fun v ρ' H' g r q' => q v ρ' H' ((g1.trans g2).trans g) r q'
      · cases e2
    · cases e2
  | _ => cases e2⟩
end
end Ms

/-! PyS3d: repr of equal data; dict displays. -/
namespace Ms
open PySem L2
open Mi (Dv MO Sto Sl Rs bnd ME MT MA MS MF Fl MG MGs MI)
/-! ### the written text's size -/
theorem len_listText (ts : List Str) : (listText ts).length ≤ piled ts + 2 := by
  cases ts with
  | nil => exact Nat.le_refl 2
  | cons t r =>
    have e1 : listText (t :: r) = textFrom 1 (("[" : Str) ++ ("" : Str) ++ t) r ++ ("]" : Str) := rfl
    rw [e1, strLen_append, textFrom_length_pos r 1 _ (by omega), strLen_append, strLen_append, piled_cons]
    have a1 : (("[" : String) : Str).length = 1 := rfl
    have a2 : (("" : String) : Str).length = 0 := rfl
    have a3 : (("]" : String) : Str).length = 1 := rfl
    omega
theorem len_tupleText (ts : List Str) : (tupleText ts).length ≤ piled ts + 3 := by
  have e1 : tupleText ts = ("(" : Str) ++ Str.join ", " ts ++ (if ts.length == 1 then ",)" else ")" : String) := rfl
  rw [e1, strLen_append, strLen_append]
  have a1 : (("(" : String) : Str).length = 1 := rfl
  have a2 : ((if ts.length == 1 then ",)" else ")" : String) : Str).length ≤ 2 := by
    split
    · exact Nat.le_refl 2
    · exact (by decide : 1 ≤ 2)
  by_cases h : ts = []
  · subst h
    have a3 : (Str.join ", " ([] : List Str)).length = 0 := rfl
    rw [a3, piled_nil]
    omega
  · have piled_up := join_length_add ts h
    omega
theorem len_int {i : Int} (h : i.natAbs < 10 ^ 18) : ((toString i : String) : Str).length ≤ 20 := by
  by_cases h0 : 0 ≤ i
  · exact Nat.le_trans (PyProof.Rows.toString_length_le h0 (k := 18) (by decide) (by omega)) (by decide)
  · have e := PyProof.Rows.len_text_negI (n := i) (by omega)
    have q := PyProof.Rows.toString_length_le (v := 0 - i) (by omega) (k := 18) (by decide) (by omega)
    have q2 : ((Str.ofString (toString i)).length : Int) ≤ 20 := by omega
    have q3 : (Str.ofString (toString i)).length ≤ 20 := by omega
    exact q3
mutual
theorem wt_ok : ∀ (d : PyData) (n : Nat), Mi.wt d = some n → d.shown.length ≤ n ∧ d.showable = true ∧ d.hasDict = false ∧ d.depth ≤ Mi.dep d
  | .none, n, e => by
    cases e
    exact ⟨by show (4 : Nat) ≤ 5; decide, by simp [PyData.showable], by simp [PyData.hasDict], by simp [PyData.depth]⟩
  | .bool b, n, e => by
    cases e
    refine ⟨?_, by simp [PyData.showable], by simp [PyData.hasDict], by simp [PyData.depth]⟩
    cases b
    · show (5 : Nat) ≤ 5; decide
    · show (4 : Nat) ≤ 5; decide
  | .int i, n, e => by
    unfold Mi.wt at e
    split at e
    · rename_i h
      cases e
      refine ⟨?_, ?_, by simp [PyData.hasDict], by simp [PyData.depth]⟩
      · have := len_int h
        simpa [PyData.shown] using this
      · simp only [PyData.showable, decide_eq_true_eq]
        by_cases h0 : i.natAbs = 0
        · rw [h0]; decide
        · have : i.natAbs.log2 < 60 := (Nat.log2_lt h0).mpr (by omega)
          omega
    · cases e
  | .str s, n, e => by
    unfold Mi.wt at e
    split at e
    · rename_i h
      cases e
      refine ⟨?_, by simp [PyData.showable], by simp [PyData.hasDict], by simp [PyData.depth]⟩
      have := PySem.StrLaws.reprText_len s (fun c hc => by
        have z := List.all_eq_true.mp h c hc
        have z' : c < 4294967296 := of_decide_eq_true z
        exact z')
      simpa [PyData.shown, Str.length] using this
    · cases e
  | .list xs, n, e => by
    unfold Mi.wt at e
    cases ew : Mi.wts xs with
    | none => rw [ew] at e; cases e
    | some k =>
      rw [ew] at e
      cases e
      obtain ⟨h1, h2, h3, h4⟩ := wts_ok xs k ew
      have := len_listText (PyData.shownAll xs)
      refine ⟨by simp only [PyData.shown]; omega, by simp [PyData.showable, h2], by simp [PyData.hasDict, h3], by simp only [PyData.depth, Mi.dep]; omega⟩
  | .tuple xs, n, e => by
    unfold Mi.wt at e
    cases ew : Mi.wts xs with
    | none => rw [ew] at e; cases e
    | some k =>
      rw [ew] at e
      cases e
      obtain ⟨h1, h2, h3, h4⟩ := wts_ok xs k ew
      have := len_tupleText (PyData.shownAll xs)
      refine ⟨by simp only [PyData.shown]; omega, by simp [PyData.showable, h2], by simp [PyData.hasDict, h3], by simp only [PyData.depth, Mi.dep]; omega⟩
  | .dict _, n, e => nomatch e
theorem wts_ok : ∀ (ds : List PyData) (n : Nat), Mi.wts ds = some n → piled (PyData.shownAll ds) ≤ n ∧ PyData.showableAll ds = true ∧ PyData.hasDictAll ds = false ∧ PyData.depthAll ds ≤ Mi.deps ds
  | [], n, e => by
    cases e
    exact ⟨by simp [PyData.shownAll, piled_nil], by simp [PyData.showableAll], by simp [PyData.hasDictAll], by simp [PyData.depthAll]⟩
  | d :: r, n, e => by
    unfold Mi.wts at e
    split at e
    · rename_i a b ea eb
      cases e
      obtain ⟨h1, h2, h3, h4⟩ := wt_ok d a ea
      obtain ⟨i1, i2, i3, i4⟩ := wts_ok r b eb
      refine ⟨by simp only [PyData.shownAll]; rw [piled_cons]; omega, by simp [PyData.showableAll, h2, i2], by simp [PyData.hasDictAll, h3, i3], by simp only [PyData.depthAll, Mi.deps]; omega⟩
    · cases e
end
/-! ### the data -/
section
variable {K : PySem.W.Frag} {kx : Kx} {ρ : Rh} {G : Sto} {H : Hp}
mutual
theorem py_dp : ∀ (x : Dv) (v : V) (d : PyData), Mi.py G x = some d → DR K ρ H x v → Dp K H v d
  | .non, _, _, e, .non => by cases e; exact .non
  | .bl b, _, _, e, .bl _ => by cases e; exact .bl b
  | .int i, _, _, e, .int _ => by cases e; exact .int i
  | .str s, _, _, e, .str _ => by cases e; exact .str _
  | .tup xs, _, d, e, .tup h r => by
    unfold Mi.py at e
    cases ep : Mi.pys G xs with
    | none => rw [ep] at e; cases e
    | some ds =>
      rw [ep] at e
      cases e
      exact .tup h (pys_dp xs _ ds ep r)
  | .fls xs, _, d, e, .fls h n r => by
    unfold Mi.py at e
    cases ep : Mi.pys G xs with
    | none => rw [ep] at e; cases e
    | some ds =>
      rw [ep] at e
      cases e
      exact .lst (SqL.of h) (pys_dp xs _ ds ep r)
  | .scr ns, _, d, e, .scr h => by
    cases e
    exact .lst h.sq (dpInts ns)
  | .ref _, _, _, e, _ => nomatch e
theorem pys_dp : ∀ (xs : List Dv) (vs : List V) (ds : List PyData), Mi.pys G xs = some ds → DRs K ρ H xs vs → DpAll K H vs ds
  | [], _, _, e, .nil => by cases e; exact .nil
  | x :: xs, _, ds, e, .cons a b => by
    unfold Mi.pys at e
    split at e
    · rename_i d ds' e1 e2
      cases e
      exact .cons (py_dp x _ d e1 a) (pys_dp xs _ ds' e2 b)
    · cases e
end
theorem pyT_dp {x : Dv} {v : V} {d : PyData} (rl : Rl K kx ρ G H) (e : Mi.pyT G x = some d) (r : DR K ρ H x v) : Dp K H v d := by
  unfold Mi.pyT at e
  split at e
  · split at e
    · rename_i xs eh
      cases ep : Mi.pys G xs with
      | none => rw [ep] at e; cases e
      | some ds =>
        rw [ep] at e
        cases e
        cases r with
        | ref ea =>
          obtain ⟨vs, h1, r1⟩ := lst_at rl eh ea
          exact .lst (SqL.of h1) (pys_dp xs vs ds ep r1)
    · cases e
  · exact py_dp _ _ _ e r
end
def rRepr (K : PySem.W.Frag) : List V → Hp → VK → Prop := fun xs H Q => ∃ x d, xs = [x] ∧ Dp K H x d ∧ Mi.okR d ∧ Q (.str d.shown) H
theorem call_reprD {X : Cx} (hG : X.A.guards = some []) (hu : X.A.units + 64 < cLine) : CallR X (.builtin "repr") (rRepr X.K) := by
  rintro pins s σ H _ us Q I r ⟨x, d, rfl, dp, ⟨n, hn, hn2, hn3⟩, q⟩
  obtain ⟨u, eu, rx⟩ := vals1 r
  subst eu
  obtain ⟨h1, h2, h3, h4⟩ := wt_ok d n hn
  have hz : d.shown.length ≤ sizeLine := by rw [sizeLine_eq]; omega
  cases dp with
  | non =>
    cases rx
    exact PySem.P.repr_of_none ⟨.str _, H, I.tok _, ⟨_, rfl⟩, q⟩
  | bl b =>
    cases rx
    exact PySem.P.repr_of_bool ⟨.str _, H, I.tok _, ⟨_, rfl⟩, by cases b <;> exact q⟩
  | int i =>
    obtain ⟨t, rfl⟩ := rx
    exact PySem.P.repr_of_int (by simpa [PyData.showable] using h2) ⟨.str _, H, I.tok _, ⟨_, rfl⟩, q⟩
  | str z =>
    obtain ⟨t, rfl⟩ := rx
    exact PySem.P.repr_of_str ⟨.str _, H, I.tok _, ⟨_, rfl⟩, q⟩ hz
  | lst a b =>
    obtain ⟨as, rd⟩ := Dp.reads I _ _ u (.lst a b) rx
    cases rx
    exact repr_of_reads' rd h2 (PyData.noDict_hsm h3) hG (by omega) (fun _ _ e => e) (fun h' u tk k => ⟨.str _, H, I.kept (t' := tk) k, ⟨_, rfl⟩, q⟩) hz
  | tup a b =>
    obtain ⟨as, rd⟩ := Dp.reads I _ _ u (.tup a b) rx
    cases rx
    exact repr_of_reads' rd h2 (PyData.noDict_hsm h3) hG (by omega) (fun _ _ e => e) (fun h' u tk k => ⟨.str _, H, I.kept (t' := tk) k, ⟨_, rfl⟩, q⟩) hz
section
variable {X : Cx} {kx : Kx} {e a b c o : Expr} {ma mb mc me mo : ME} {pos p apos : Pos} {rest es : List Expr} {mas mks : MA}
theorem repr2 {neg : Bool} {r : R2} (hr : ∀ (z : Str) H (Q : VK), Q (.bl (!neg)) H → r (.str z) (.str z) H Q) {σ : St} {H : Hp} {Q : VK} (h : tM X.K kx (Mi.mReprEq neg ma mb) σ H Q) : tOp r (tCB (rRepr X.K) (tCons (tM X.K kx ma) tNil)) (tCB (rRepr X.K) (tCons (tM X.K kx mb) tNil)) σ H Q := by
  obtain ⟨ρ, G, δ, d, G', rl, sr, e, k⟩ := h
  obtain ⟨x, G1, e1, e⟩ := Mi.bnd_eq e
  obtain ⟨y, G2, e2, e⟩ := Mi.bnd_eq e
  split at e
  · rename_i hz
    obtain ⟨pd, p1, p2, p3⟩ := hz
    cases e
    refine ⟨ρ, G, δ, x, G1, rl, sr, e1, fun v ρ1 H1 g1 r1 d1 => ⟨v, pd, rfl, pyT_dp r1 p1 d1, p3, ρ1, G1, δ, y, _, r1, sr.gr g1, e2, fun w ρ2 H2 g2 r2 d2 => ⟨w, pd, rfl, pyT_dp r2 p2 d2, p3, ?_⟩⟩⟩
    exact hr _ _ _ (k _ ρ2 H2 (g1.trans g2) r2 (.bl _))
  · cases e
theorem r_eq (z : Str) (H : Hp) (Q : VK) (q : Q (.bl (!false)) H) : rEq (.str z) (.str z) H Q := ⟨rfl, by simpa using q⟩
theorem r_ne (z : Str) (H : Hp) (Q : VK) (q : Q (.bl (!true)) H) : rNe (.str z) (.str z) H Q := ⟨rfl, by simpa using q⟩
theorem pe_repr {p : Pos} (hG : X.A.guards = some []) (hu : X.A.units + 64 < cLine) (hm : X.mg "repr" = none) (ha : PE X a (tM X.K kx ma)) (hg : Gl X "repr" := by rfl) (he : starEach [a] X.env = (false, eval a X.env) :: starEach [] X.env := by rfl) (hpl : (backTo pos (starEach [] X.env)).any (·.1) = false := by rfl) :
    PE X (.Call (.Name "repr" p) [a] [] pos) (tCB (rRepr X.K) (tCons (tM X.K kx ma) tNil)) := pe_callB (call_reprD hG hu) hg hm (by decide +kernel) (pa_cons ha pa_nil he) (by decide) (by decide) he hpl
theorem m_reprEq {p1 p2 q1 q2 : Pos} (hG : X.A.guards = some []) (hu : X.A.units + 64 < cLine) (hm : X.mg "repr" = none) (ha : PE X a (tM X.K kx ma)) (hb : PE X b (tM X.K kx mb)) (hg : Gl X "repr" := by rfl) (he : starEach [a] X.env = (false, eval a X.env) :: starEach [] X.env := by rfl) (he2 : starEach [b] X.env = (false, eval b X.env) :: starEach [] X.env := by rfl) (hp1 : (backTo q1 (starEach [] X.env)).any (·.1) = false := by rfl) (hp2 : (backTo q2 (starEach [] X.env)).any (·.1) = false := by rfl) :
    PE X (.Compare (.Call (.Name "repr" p1) [a] [] q1) [.Eq] [.Call (.Name "repr" p2) [b] [] q2] pos) (tM X.K kx (Mi.mReprEq false ma mb)) := (pe_cmpR op_eq (pe_repr hG hu hm ha hg he hp1) (pe_repr hG hu hm hb hg he2 hp2) (nomark _)).imp fun _ _ _ h => repr2 r_eq h
theorem m_reprNe {p1 p2 q1 q2 : Pos} (hG : X.A.guards = some []) (hu : X.A.units + 64 < cLine) (hm : X.mg "repr" = none) (ha : PE X a (tM X.K kx ma)) (hb : PE X b (tM X.K kx mb)) (hg : Gl X "repr" := by rfl) (he : starEach [a] X.env = (false, eval a X.env) :: starEach [] X.env := by rfl) (he2 : starEach [b] X.env = (false, eval b X.env) :: starEach [] X.env := by rfl) (hp1 : (backTo q1 (starEach [] X.env)).any (·.1) = false := by rfl) (hp2 : (backTo q2 (starEach [] X.env)).any (·.1) = false := by rfl) :
    PE X (.Compare (.Call (.Name "repr" p1) [a] [] q1) [.NotEq] [.Call (.Name "repr" p2) [b] [] q2] pos) (tM X.K kx (Mi.mReprEq true ma mb)) := (pe_cmpR op_ne (pe_repr hG hu hm ha hg he hp1) (pe_repr hG hu hm hb hg he2 hp2) (nomark _)).imp fun _ _ _ h => repr2 r_ne h
theorem m_reprEqT {p1 p2 q1 q2 : Pos} (hG : X.A.guards = some []) (hu : X.A.units + 64 < cLine) (hm : X.mg "repr" = none) (ha : PE X a (tM X.K kx ma)) (hb : PE X b (tM X.K kx mb)) (hg : Gl X "repr" := by rfl) (he : starEach [a] X.env = (false, eval a X.env) :: starEach [] X.env := by rfl) (he2 : starEach [b] X.env = (false, eval b X.env) :: starEach [] X.env := by rfl) (hp1 : (backTo q1 (starEach [] X.env)).any (·.1) = false := by rfl) (hp2 : (backTo q2 (starEach [] X.env)).any (·.1) = false := by rfl) :
    PT X (.Compare (.Call (.Name "repr" p1) [a] [] q1) [.Eq] [.Call (.Name "repr" p2) [b] [] q2] pos) (tMT X.K kx (Mi.mTb (Mi.mReprEq false ma mb))) := (pt_cmpR op_eq (pe_repr hG hu hm ha hg he hp1) (pe_repr hG hu hm hb hg he2 hp2) (nomark _)).imp fun _ _ _ h => tTb (fun _ h => repr2 r_eq h) h
theorem m_reprNeT {p1 p2 q1 q2 : Pos} (hG : X.A.guards = some []) (hu : X.A.units + 64 < cLine) (hm : X.mg "repr" = none) (ha : PE X a (tM X.K kx ma)) (hb : PE X b (tM X.K kx mb)) (hg : Gl X "repr" := by rfl) (he : starEach [a] X.env = (false, eval a X.env) :: starEach [] X.env := by rfl) (he2 : starEach [b] X.env = (false, eval b X.env) :: starEach [] X.env := by rfl) (hp1 : (backTo q1 (starEach [] X.env)).any (·.1) = false := by rfl) (hp2 : (backTo q2 (starEach [] X.env)).any (·.1) = false := by rfl) :
    PT X (.Compare (.Call (.Name "repr" p1) [a] [] q1) [.NotEq] [.Call (.Name "repr" p2) [b] [] q2] pos) (tMT X.K kx (Mi.mTb (Mi.mReprEq true ma mb))) := (pt_cmpR op_ne (pe_repr hG hu hm ha hg he hp1) (pe_repr hG hu hm hb hg he2 hp2) (nomark _)).imp fun _ _ _ h => tTb (fun _ h => repr2 r_ne h) h
/-! ### dict displays -/
/-- the pairs' readings -/
def trs (K : PySem.W.Frag) (kx : Kx) (ps : List (ME × ME)) : List (TE × TE) := ps.map fun p => (tM K kx p.1, tM K kx p.2)
theorem pairs_go {K : PySem.W.Frag} {δ : Sl} : ∀ {ps : List (ME × ME)} {ρ : Rh} {G : Sto} {kvs : List (Mi.Key × Dv)} {G' : Sto} {σ : St} {H : Hp} {R : List (V × V) → Hp → Prop}, Rl K kx ρ G H → Sr K ρ H δ σ → Mi.mPairs ps δ G = some (kvs, G') →
    (∀ (ks : List (L2.Key × V)) ρ' H', Gr ρ H ρ' H' → Rl K kx ρ' G' H' → KR K ρ' H' kvs ks → R (ks.map fun kv => (kV kv.1, kv.2)) H') → tPairs (trs K kx ps) σ H R
  | [], ρ, G, kvs, G', σ, H, R, rl, sr, e, k => by
    cases e
    exact k [] ρ H Gr.refl rl .nil
  | (mk, mv) :: r, ρ, G, kvs, G', σ, H, R, rl, sr, e, k => by
    obtain ⟨y, G1, e1, e⟩ := Mi.bnd_eq e
    obtain ⟨x, G2, e2, e⟩ := Mi.bnd_eq e
    obtain ⟨ps', G3, e3, e⟩ := Mi.bnd_eq e
    split at e
    · rename_i ky ek
      cases e
      refine ⟨ρ, G, δ, y, G1, rl, sr, e1, fun v ρ1 H1 g1 r1 d1 => ⟨ρ1, G1, δ, x, G2, r1, sr.gr g1, e2, fun w ρ2 H2 g2 r2 d2 => pairs_go r2 (sr.gr (g1.trans g2)) e3 fun ks ρ3 H3 g3 r3 kr => ?_⟩⟩
      have ev := kOf_v ek d1
      subst ev
      exact k ((kK ky, w) :: ks) ρ3 H3 ((g1.trans g2).trans g3) r3 (.cons ⟨rfl, d2.gr g3⟩ kr)
    · cases e
theorem merge_ok {K : PySem.W.Frag} {ρ : Rh} {H : Hp} : ∀ {kvs : List (Mi.Key × Dv)} {ks : List (L2.Key × V)} {acc : List (Mi.Key × Dv)} {acc' : List (L2.Key × V)}, KR K ρ H kvs ks → KR K ρ H acc acc' → KR K ρ H (kvs.foldl (fun acc kv => Mi.put acc kv.1 kv.2) acc) (mergeK acc' ks)
  | _, _, _, _, .nil, q => q
  | (k, d) :: r, (k', v) :: r', acc, acc', .cons ⟨h1, h2⟩ t, q => by
    have h1' : k' = kK k := h1
    subst h1'
    exact merge_ok (kvs := r) (ks := r') (acc := Mi.put acc k d) (acc' := putK acc' (kK k) v) t (put_ok q h2)
theorem m_disp {keys : List (Option Expr)} {values : List Expr} {ps : List (ME × ME)} (h : PPs X pos keys values (trs X.K kx ps)) (hall : keys.all (·.isSome) = true := by rfl) (hl : keys.length = values.length := by rfl) (h0 : keys ≠ [] := by exact fun z => by cases z) (h15 : keys.length ≤ 15 := by decide) :
    PE X (.Dict keys values pos) (tM X.K kx (Mi.mDisp ps)) := (pe_disp h hall hl h0 h15).imp fun σ H Q ⟨ρ, G, δ, d, G', rl, sr, e, k⟩ => by
  intro p hp
  obtain ⟨kvs, G1, e1, e⟩ := Mi.bnd_eq e
  obtain ⟨g0, r0⟩ := rl.grow (p := p) (o := .dK []) (m := .dct []) hp fun g => .dct upd_same .nil
  refine pairs_go r0 (sr.gr g0) e1 fun ks ρ1 H1 g1 r1 kr => ?_
  split at e
  · rename_i eh
    split at e
    · rename_i hz
      cases e
      have ea : ρ1.r[G.length]? = some p := ref_gr (K := X.K) g1 (by rw [← rl.len, List.getElem?_append_right (Nat.le_refl _)]; simp)
      obtain ⟨ks0, h1, kr0⟩ := dct_at r1 eh ea
      cases kr0
      refine ⟨h1, ks, rfl, by rw [← kr.len]; exact hz, ?_⟩
      obtain ⟨g2, r2⟩ := r1.wr (o := .dK (mergeK [] ks)) (m := .dct (kvs.foldl (fun acc kv => Mi.put acc kv.1 kv.2) [])) ea fun g => .dct upd_same ((merge_ok kr .nil).imp fun _ _ q => ⟨q.1, q.2.gr g⟩)
      exact k (.ref p) _ _ ((g0.trans g1).trans g2) r2 (.ref (ref_gr (K := X.K) g2 ea))
    · cases e
  · cases e
theorem m_pnil : PPs X pos [] [] (trs X.K kx []) := pps_nil
theorem m_pcons {k v : Expr} {mk mv : ME} {ks : List (Option Expr)} {vs : List Expr} {ps : List (ME × ME)} (hk : PE X k (tM X.K kx mk)) (hv : PE X v (tM X.K kx mv)) (hr : PPs X pos ks vs (trs X.K kx ps)) : PPs X pos (some k :: ks) (v :: vs) (trs X.K kx ((mk, mv) :: ps)) := pps_cons hk hv hr
end
end Ms

/-! PyS4: statements, targets, loops, comprehensions. -/
namespace Ms
open PySem L2
open Mi (Dv MO Sto Sl Rs bnd ME MT MA MS MF Fl MG MGs MI)
/-- what follows a statement's end -/
def Ko (K : PySem.W.Frag) (kx : Kx) (ρ : Rh) (H : Hp) (f : Fl) (δ' : Sl) (G' : Sto) (D : Ends) : Prop := ∀ ρ' σ' H', Gr ρ H ρ' H' → Rl K kx ρ' G' H' → Sr K ρ' H' δ' σ' → match f with
  | .nx => D.nx σ' H'
  | .rt d => ∀ v, DR K ρ' H' d v → D.rt v H'
  | .bk => D.bk σ' H'
  | .ct => D.ct σ' H'
theorem Ko.gr {K : PySem.W.Frag} {kx : Kx} {ρ ρ1 : Rh} {H H1 : Hp} {f : Fl} {δ' : Sl} {G' : Sto} {D : Ends} (g : Gr ρ H ρ1 H1) (k : Ko K kx ρ H f δ' G' D) : Ko K kx ρ1 H1 f δ' G' D := fun ρ' σ' H' g' r s => k ρ' σ' H' (g.trans g') r s
def sM (K : PySem.W.Frag) (kx : Kx) (m : MS) : TS := fun D σ H => ∃ (ρ : Rh) (G : Sto) (δ : Sl) (f : Fl) (δ' : Sl) (G' : Sto), Rl K kx ρ G H ∧ Sr K ρ H δ σ ∧ m δ G = some (f, δ', G') ∧ Ko K kx ρ H f δ' G' D
theorem _root_.L2.PS.imp {X : Cx} {e : Stmt} {t u : TS} (h : PS X e t) (i : ∀ D σ H, u D σ H → t D σ H) : PS X e u := ⟨fun pins s σ H D I q => h.run pins s σ H D I (i D σ H q)⟩
theorem _root_.L2.PSs.imp {X : Cx} {e : List Stmt} {t u : TS} (h : PSs X e t) (i : ∀ D σ H, u D σ H → t D σ H) : PSs X e u := ⟨fun pins s σ H D I q => h.run pins s σ H D I (i D σ H q)⟩
theorem _root_.L2.PI.imp {X : Cx} {tg e : Expr} {t u : TI} (h : PI X tg e t) (i : ∀ σ H R, u σ H R → t σ H R) : PI X tg e u := ⟨fun pins s σ H R I q => h.run pins s σ H R I (i σ H R q)⟩
theorem _root_.L2.PI.or {X : Cx} {tg e : Expr} {t u : TI} (h : PI X tg e t) (h' : PI X tg e u) : PI X tg e (fun σ H R => t σ H R ∨ u σ H R) := ⟨fun pins s σ H R I q => q.elim (h.run pins s σ H R I) (h'.run pins s σ H R I)⟩
theorem _root_.L2.PG.imp {X : Cx} {e : Expr} {t u : TG} (h : PG X e t) (i : ∀ v σ H Q, u v σ H Q → t v σ H Q) : PG X e u := ⟨fun pins s σ H v w Q I r q => h.run pins s σ H v w Q I r (i v σ H Q q)⟩
theorem _root_.L2.PGs.imp {X : Cx} {e : List Expr} {t u : TGs} (h : PGs X e t) (i : ∀ v σ H Q, u v σ H Q → t v σ H Q) : PGs X e u := ⟨fun pins s σ H v w Q I r q => h.run pins s σ H v w Q I r (i v σ H Q q)⟩
/-- a target's reading; ws: the slots that it stores -/
def tG (K : PySem.W.Frag) (kx : Kx) (ws : List Nat) (g : MG) : TG := fun v σ H Q => ∃ (ρ : Rh) (G : Sto) (δ : Sl) (d : Dv) (δ' : Sl) (G' : Sto), Rl K kx ρ G H ∧ Sr K ρ H δ σ ∧ DR K ρ H d v ∧ g d δ G = some (δ', G') ∧
  ∀ ρ' σ' H', Gr ρ H ρ' H' → Rl K kx ρ' G' H' → Sr K ρ' H' δ' σ' → σ'.length = σ.length → (∀ i, i ∉ ws → σ'[i]? = σ[i]?) → Q σ' H'
def tGs (K : PySem.W.Frag) (kx : Kx) (ws : List Nat) (g : MGs) : TGs := fun vs σ H Q => ∃ (ρ : Rh) (G : Sto) (δ : Sl) (ds : List Dv) (δ' : Sl) (G' : Sto), Rl K kx ρ G H ∧ Sr K ρ H δ σ ∧ DRs K ρ H ds vs ∧ g ds δ G = some (δ', G') ∧
  ∀ ρ' σ' H', Gr ρ H ρ' H' → Rl K kx ρ' G' H' → Sr K ρ' H' δ' σ' → σ'.length = σ.length → (∀ i, i ∉ ws → σ'[i]? = σ[i]?) → Q σ' H'
section
variable {X : Cx} {kx : Kx} {e a b c o tg : Expr} {ma mb mc me mo : ME} {mt : MT} {pos p apos pos' : Pos} {st : Stmt} {rest sa sb es : List Expr} {mas mks : MA} {ms ms' : MS} {bs : List Stmt} {x y : Str}

/-! ### targets -/
theorem g_name (i : Nat) (hN : X.N.Nodup) (hi : X.N[i]? = some x := by rfl) (hx : Loc X.env.scope x := by first | exact Or.inl rfl | exact Or.inr rfl) (hf : X.fn x = true ∨ X.env.scope.names.lookup x = some .local := by first | exact .inl rfl | exact .inr rfl | assumption) : PG X (.Name x pos) (tG X.K kx [i] (Mi.gNm i)) :=
  (pg_name hN hi hx hf).imp fun v σ H Q ⟨ρ, G, δ, d, δ', G', rl, sr, dr, e, k⟩ => by
  cases e
  exact k ρ _ H Gr.refl rl (sr.set i dr) (by rw [List.length_set]) fun j hj => List.getElem?_set_ne (fun z => hj (by simp [z]))
theorem g_nil : PGs X [] (tGs X.K kx [] Mi.gNil) := pgs_nil.imp fun v σ H Q ⟨ρ, G, δ, d, δ', G', rl, sr, dr, e, k⟩ => by
  cases dr with
  | nil =>
    cases e
    exact ⟨rfl, k ρ σ H Gr.refl rl sr rfl fun _ _ => rfl⟩
  | cons _ _ => cases e
theorem g_cons {ws ws' : List Nat} {g : MG} {gs : MGs} (h1 : PG X e (tG X.K kx ws g)) (h2 : PGs X es (tGs X.K kx ws' gs)) (hs : (assignEach (e :: es) X.env).map (·.2) = assign e X.env :: (assignEach es X.env).map (·.2) := by rfl) : PGs X (e :: es) (tGs X.K kx (ws ++ ws') (Mi.gCons g gs)) :=
  (pgs_cons h1 h2 hs).imp fun v σ H Q ⟨ρ, G, δ, d, δ', G', rl, sr, dr, e, k⟩ => by
  cases dr with
  | nil => cases e
  | @cons d ds v vs d1 d2 =>
    refine ⟨v, vs, rfl, ?_⟩
    unfold Mi.gCons at e
    dsimp only at e
    split at e
    · rename_i δ1 G1 eg
      refine ⟨ρ, G, δ, d, δ1, G1, rl, sr, d1, eg, fun ρ1 σ1 H1 g1 r1 s1 l1 n1 => ⟨ρ1, G1, δ1, ds, δ', G', r1, s1, d2.gr g1, e, fun ρ2 σ2 H2 g2 r2 s2 l2 n2 => k ρ2 σ2 H2 (g1.trans g2) r2 s2 (l2.trans l1) fun i hi => ?_⟩⟩
      have h1 : i ∉ ws := fun z => hi (List.mem_append_left _ z)
      have h2 : i ∉ ws' := fun z => hi (List.mem_append_right _ z)
      exact (n2 i h2).trans (n1 i h1)
    · cases e
theorem g_tup {ws : List Nat} {gs : MGs} {n : Nat} {kk : Nat} (hc : X.calm = true) (h : PGs X es (tGs X.K kx ws gs)) (hn : (assignEach es X.env).length = n := by rfl) (hst : (assignEach es X.env).findIdx? (·.1) = none := by rfl) : PG X (.Tuple es kk pos) (tG X.K kx ws (Mi.gTup n gs)) :=
  (pg_tup hc h hn hst).imp fun v σ H Q ⟨ρ, G, δ, d, δ', G', rl, sr, dr, e, k⟩ => by
  cases dr with
  | tup h r =>
    unfold Mi.gTup at e
    dsimp only at e
    split at e
    · rename_i hz
      exact ⟨_, _, rfl, h, by rw [← r.len]; exact hz, ρ, G, δ, _, δ', G', rl, sr, r, e, k⟩
    · cases e
  | _ => cases e

/-! ### statements -/
theorem s_nil : PSs X [] (sM X.K kx Mi.mSkip) := pss_nil.imp fun D σ H ⟨ρ, G, δ, f, δ', G', rl, sr, e, k⟩ => by
  cases e
  exact k ρ σ H Gr.refl rl sr
theorem s_seq (h1 : PS X st (sM X.K kx ms)) (h2 : PSs X bs (sM X.K kx ms')) : PSs X (st :: bs) (sM X.K kx (Mi.mSeq ms ms')) := (pss_cons h1 h2).imp fun D σ H ⟨ρ, G, δ, f, δ', G', rl, sr, e, k⟩ => by
  unfold Mi.mSeq at e
  split at e
  · rename_i δ1 G1 ea
    exact ⟨ρ, G, δ, .nx, δ1, G1, rl, sr, ea, fun ρ1 σ1 H1 g r s => ⟨ρ1, G1, δ1, f, δ', G', r, s, e, k.gr g⟩⟩
  · rename_i hne
    refine ⟨ρ, G, δ, f, δ', G', rl, sr, e, fun ρ1 σ1 H1 g r s => ?_⟩
    have := k ρ1 σ1 H1 g r s
    cases f with
    | nx => exact absurd e (hne δ' G')
    | rt d => exact this
    | bk => exact this
    | ct => exact this
theorem s_one (h1 : PS X st (sM X.K kx ms)) : PSs X [st] (sM X.K kx ms) := pss_one h1
theorem s_pass : PS X (.Pass pos) (sM X.K kx Mi.mSkip) := ps_pass.imp fun D σ H ⟨ρ, G, δ, f, δ', G', rl, sr, e, k⟩ => by
  cases e
  exact k ρ σ H Gr.refl rl sr
theorem s_brk : PS X (.Break pos) (sM X.K kx Mi.mBrk) := ps_break.imp fun D σ H ⟨ρ, G, δ, f, δ', G', rl, sr, e, k⟩ => by
  cases e
  exact k ρ σ H Gr.refl rl sr
theorem s_cont : PS X (.Continue pos) (sM X.K kx Mi.mCont) := ps_continue.imp fun D σ H ⟨ρ, G, δ, f, δ', G', rl, sr, e, k⟩ => by
  cases e
  exact k ρ σ H Gr.refl rl sr
theorem s_fail : PS X st (sM X.K kx Mi.mFail) := ps_never.imp fun D σ H ⟨ρ, G, δ, f, δ', G', rl, sr, e, k⟩ => nomatch e
theorem ss_fail : PSs X bs (sM X.K kx Mi.mFail) := pss_never.imp fun D σ H ⟨ρ, G, δ, f, δ', G', rl, sr, e, k⟩ => nomatch e
theorem asg_go {ws : List Nat} {g : MG} {D : Ends} {σ : St} {H : Hp} (h : sM X.K kx (Mi.mAsg me g) D σ H) : tAsg (tM X.K kx me) (tG X.K kx ws g) D σ H := by
  obtain ⟨ρ, G, δ, f, δ', G', rl, sr, e, k⟩ := h
  unfold Mi.mAsg at e
  split at e
  · rename_i d G1 e1
    split at e
    · rename_i δ2 G2 e2
      cases e
      exact ⟨ρ, G, δ, d, G1, rl, sr, e1, fun v ρ1 H1 g1 r1 d1 => ⟨ρ1, G1, δ, d, _, _, r1, sr.gr g1, d1, e2, fun ρ2 σ2 H2 g2 r2 s2 _ _ => k ρ2 σ2 H2 (g1.trans g2) r2 s2⟩⟩
    · cases e
  · cases e
theorem s_asg {ws : List Nat} {g : MG} (he : PE X e (tM X.K kx me)) (hg : PG X tg (tG X.K kx ws g)) (hs : swapsWithSole [tg] e pos.line X.env = pure false := by rfl) (hw : swappedStores [tg] e X.env = pure none := by rfl) (h1 : (assignEach [tg] X.env).map (·.2) = [assign tg X.env] := by rfl) : PS X (.Assign [tg] e pos) (sM X.K kx (Mi.mAsg me g)) :=
  (ps_asg he hg hs hw h1).imp fun D σ H h => asg_go h
theorem s_set (i : Nat) (hN : X.N.Nodup) (he : PE X e (tM X.K kx me)) (hi : X.N[i]? = some x := by rfl) (hx : Loc X.env.scope x := by first | exact Or.inl rfl | exact Or.inr rfl) (hs : swapsWith e (some (.Name x pos')) pos.line X.env = pure false := by rfl) (hf : X.fn x = true ∨ X.env.scope.names.lookup x = some .local := by first | exact .inl rfl | exact .inr rfl | assumption) :
    PS X (.Assign [.Name x pos'] e pos) (sM X.K kx (Mi.mAsg me (Mi.gNm i))) := (ps_set hN hi hx he hs hf).imp fun D σ H ⟨ρ, G, δ, f, δ', G', rl, sr, e, k⟩ => by
  unfold Mi.mAsg at e
  split at e
  · rename_i d G1 e1
    cases e
    exact ⟨ρ, G, δ, d, _, rl, sr, e1, fun v ρ1 H1 g1 r1 d1 => k ρ1 _ H1 g1 r1 ((sr.gr g1).set i d1)⟩
  · cases e
theorem s_par (i j : Nat) {px py pt pt2 : Pos} {kt k2} (hc : X.calm = true) (hN : X.N.Nodup) (ha : PA X [a, b] (tMA X.K kx mas)) (hi : X.N[i]? = some x := by rfl) (hj : X.N[j]? = some y := by rfl) (hij : i ≠ j := by decide) (hx : X.env.scope.names.lookup x = some .local := by rfl) (hy : X.env.scope.names.lookup y = some .local := by rfl)
    (hw : swappedStores [.Tuple [.Name x px, .Name y py] kt pt] (.Tuple [a, b] k2 pt2) X.env = pure (some [x, y]) := by rfl) : PS X (.Assign [.Tuple [.Name x px, .Name y py] kt pt] (.Tuple [a, b] k2 pt2) pos) (sM X.K kx (Mi.mPar i j mas)) :=
  (ps_par hc hN hi hj hij hx hy ha hw).imp fun D σ H ⟨ρ, G, δ, f, δ', G', rl, sr, e, k⟩ => by
  unfold Mi.mPar at e
  split at e
  · rename_i u v G1 e1
    cases e
    refine ⟨ρ, G, δ, _, _, rl, sr, e1, fun vs ρ1 H1 g1 r1 d1 => ?_⟩
    cases d1 with
    | cons p q =>
      cases q with
      | cons q t =>
        cases t
        exact ⟨_, _, rfl, k ρ1 _ H1 g1 r1 (((sr.gr g1).set i p).set j q)⟩
  · cases e
theorem s_expr (he : PE X e (tM X.K kx me)) (hs : swapsWith e none pos.line X.env = pure false := by rfl) : PS X (.Expr e pos) (sM X.K kx (Mi.mExpr me)) := (ps_expr he hs).imp fun D σ H ⟨ρ, G, δ, f, δ', G', rl, sr, e, k⟩ => by
  unfold Mi.mExpr at e
  split at e
  · rename_i d G1 e1
    cases e
    exact ⟨ρ, G, δ, d, _, rl, sr, e1, fun v ρ1 H1 g1 r1 d1 => k ρ1 σ H1 g1 r1 (sr.gr g1)⟩
  · cases e
theorem s_doc {z j} {pos1 : Pos} : PS X (.Expr (.Constant (.str z) j pos1) pos) (sM X.K kx Mi.mSkip) := ps_doc.imp fun D σ H ⟨ρ, G, δ, f, δ', G', rl, sr, e, k⟩ => by
  cases e
  exact k ρ σ H Gr.refl rl sr
theorem s_ret (he : PE X e (tM X.K kx me)) : PS X (.Return (some e) pos) (sM X.K kx (Mi.mRet me)) := (ps_ret he).imp fun D σ H ⟨ρ, G, δ, f, δ', G', rl, sr, e, k⟩ => by
  unfold Mi.mRet at e
  split at e
  · rename_i d G1 e1
    cases e
    exact ⟨ρ, G, δ, d, _, rl, sr, e1, fun v ρ1 H1 g1 r1 d1 => k ρ1 σ H1 g1 r1 (sr.gr g1) v d1⟩
  · cases e
theorem s_retN : PS X (.Return none pos) (sM X.K kx Mi.mRetN) := ps_retN.imp fun D σ H ⟨ρ, G, δ, f, δ', G', rl, sr, e, k⟩ => by
  cases e
  exact k ρ σ H Gr.refl rl sr .non .non
theorem s_if {ta tb : List Stmt} (hc : PT X c (tMT X.K kx mt)) (ha : PSs X ta (sM X.K kx ms)) (hb : PSs X tb (sM X.K kx ms')) : PS X (.If c ta tb pos) (sM X.K kx (Mi.mIfS mt ms ms')) := (ps_if hc ha hb).imp fun D σ H ⟨ρ, G, δ, f, δ', G', rl, sr, e, k⟩ => by
  unfold Mi.mIfS at e
  split at e
  · rename_i G1 e1
    refine ⟨ρ, G, δ, true, G1, rl, sr, e1, fun ρ1 H1 g1 r1 => ?_⟩
    dsimp only
    rw [if_pos rfl]
    exact ⟨ρ1, G1, δ, f, δ', G', r1, sr.gr g1, e, k.gr g1⟩
  · rename_i G1 e1
    refine ⟨ρ, G, δ, false, G1, rl, sr, e1, fun ρ1 H1 g1 r1 => ?_⟩
    dsimp only
    rw [if_neg (fun z => Bool.false_ne_true z)]
    exact ⟨ρ1, G1, δ, f, δ', G', r1, sr.gr g1, e, k.gr g1⟩
  · cases e
theorem s_aug (i : Nat) {op : Operator} {r : R2} {f : Mi.B2} (hN : X.N.Nodup) (ho : OpR X (inplaceOp op) r) (hf : B2ok X kx f r) (he : PE X e (tM X.K kx me)) (hi : X.N[i]? = some x := by rfl) (hx : Loc X.env.scope x := by first | exact Or.inl rfl | exact Or.inr rfl)
    (hfn : X.fn x = true ∨ X.env.scope.names.lookup x = some .local := by first | exact .inl rfl | exact .inr rfl | assumption) : PS X (.AugAssign (.Name x pos') op e pos) (sM X.K kx (Mi.mAug i f me)) := (ps_aug (X := X) (ti := r) hN hi hx he (fun pins s σ H x y v u Q I rx ry q => ho pins s σ H x y v u Q I rx ry q)).imp fun D σ H ⟨ρ, G, δ, fl, δ', G', rl, sr, e, k⟩ => by
  unfold Mi.mAug at e
  split at e
  · rename_i d0 e0
    split at e
    · rename_i y G1 e1
      split at e
      · rename_i z G2 e2
        cases e
        obtain ⟨v, h1, h2⟩ := sr.at_ i d0 e0
        exact ⟨v, h1, ρ, G, δ, y, G1, rl, sr, e1, fun w ρ1 H1 g1 r1 d1 => hf _ _ _ _ _ ρ1 H1 v w _ e2 r1 (h2.gr g1) d1 fun u ρ2 H2 g2 r2 d2 => k ρ2 _ H2 (g1.trans g2) r2 ((sr.gr (g1.trans g2)).set i d2)⟩
      · cases e
    · cases e
  · cases e
theorem AR_len {K : PySem.W.Frag} {ρ : Rh} {H : Hp} {fs : List (String × Dv)} {fs' : List (Str × V)} (r : FR K ρ H fs fs') : fs.length = fs'.length := AR.len r
theorem s_setF {cs : List Nat} {f : String} (hf : Fok X.K kx cs f) (ho : PE X o (tM X.K kx mo)) (he : PE X e (tM X.K kx me)) (hs : swapsWith e (some (.Attribute o (Str.ofString f) pos')) pos.line X.env = pure false := by rfl) : PS X (.Assign [.Attribute o (Str.ofString f) pos'] e pos) (sM X.K kx (Mi.mSetF cs mo f me)) :=
  (ps_fld ho he hs).imp fun D σ H ⟨ρ, G, δ, fl, δ', G', rl, sr, e, k⟩ => by
  unfold Mi.mSetF at e
  split at e
  · rename_i y G1 e1
    split at e
    · rename_i h G2 e2
      split at e
      · rename_i cn fs eh
        split at e
        · rename_i hz
          obtain ⟨hz1, hz2⟩ := hz
          cases e
          refine ⟨ρ, G, δ, y, G1, rl, sr, e1, fun w ρ1 H1 g1 r1 d1 => ⟨ρ1, G1, δ, _, G2, r1, sr.gr g1, e2, fun v ρ2 H2 g2 r2 d2 => ?_⟩⟩
          cases d2 with
          | ref ea =>
            obtain ⟨dx, fs', h1, fr⟩ := ins_at r2 eh ea
            obtain ⟨g3, r3⟩ := r2.wr (o := .ins (kx.ca cn) dx (L2.putF (Str.ofString f) w fs')) (m := .ins cn (Mi.putF f y fs)) ea fun g => .ins upd_same ((fput_ok (d1.gr g2) fr).imp fun _ _ q => ⟨q.1, q.2.gr g⟩)
            exact ⟨_, _, dx, fs', rfl, h1, (hf cn hz1).1, (hf cn hz1).2, by rw [← AR_len fr]; exact hz2, k _ σ _ ((g1.trans g2).trans g3) r3 (sr.gr ((g1.trans g2).trans g3))⟩
        · cases e
      · cases e
    · cases e
  · cases e
theorem s_augF {cs : List Nat} {f : String} {op : Operator} {r : R2} {m : Mi.B2} (hf : Fok X.K kx cs f) (hop : InOp X op r) (hm : B2ok X kx m r) (ho : PE X o (tM X.K kx mo)) (he : PE X e (tM X.K kx me)) : PS X (.AugAssign (.Attribute o (Str.ofString f) pos') op e pos) (sM X.K kx (Mi.mAugF cs mo f m me)) :=
  (ps_fldaug ho he hop).imp fun D σ H ⟨ρ, G, δ, fl, δ', G', rl, sr, e, k⟩ => by
  unfold Mi.mAugF at e
  split at e
  · rename_i h G1 e1
    split at e
    · rename_i cn fs eh
      split at e
      · rename_i hc
        split at e
        · rename_i x0 ex
          split at e
          · rename_i y G2 e2
            split at e
            · rename_i z G3 e3
              split at e
              · rename_i cn' fs2 eh2
                split at e
                · rename_i hz
                  obtain ⟨hz1, hz2⟩ := hz
                  subst hz1
                  cases e
                  refine ⟨ρ, G, δ, _, G1, rl, sr, e1, fun v ρ1 H1 g1 r1 d1 => ?_⟩
                  cases d1 with
                  | ref ea =>
                    obtain ⟨dx, fs', h1, fr⟩ := ins_at r1 eh ea
                    obtain ⟨w, hw, rw'⟩ := (flook_ok (f := f) fr).1 _ ex
                    refine ⟨_, _, dx, fs', w, rfl, h1, (hf _ hc).1, (hf _ hc).2, hw, ρ1, G1, δ, y, G2, r1, sr.gr g1, e2, fun u ρ2 H2 g2 r2 d2 => ?_⟩
                    refine hm _ _ _ _ _ ρ2 H2 w u _ e3 r2 (rw'.gr g2) d2 fun q ρ3 H3 g3 r3 d3 => ?_
                    have ea3 := ref_gr (K := X.K) (g2.trans g3) ea
                    obtain ⟨dx3, fs3, h3, fr3⟩ := ins_at r3 eh2 ea3
                    obtain ⟨g4, r4⟩ := r3.wr (o := .ins (kx.ca cn') dx3 (L2.putF (Str.ofString f) q fs3)) (m := .ins cn' (Mi.putF f z fs2)) ea3 fun g => .ins upd_same ((fput_ok d3 fr3).imp fun _ _ q => ⟨q.1, q.2.gr g⟩)
                    exact ⟨dx3, fs3, h3, by rw [← AR_len fr3]; exact hz2, k _ σ _ (((g1.trans g2).trans g3).trans g4) r4 (sr.gr (((g1.trans g2).trans g3).trans g4))⟩
                · cases e
              · cases e
            · cases e
          · cases e
        · cases e
      · cases e
    · cases e
  · cases e
theorem ixN_dr {K : PySem.W.Frag} {ρ : Rh} {H : Hp} {xs : List Dv} {vs : List V} (r : DRs K ρ H xs vs) (i : Int) : Mi.ixN xs.length i = L2.ixN vs.length i := by rw [ixN_eq, r.len]
/-- xs[i] = e -/
theorem s_setI {i : Expr} {mi : ME} (ho : PE X o (tM X.K kx mo)) (hi : PE X i (tM X.K kx mi)) (he : PE X e (tM X.K kx me)) (hs : swapsWithSole [.Subscript o i pos'] e pos.line X.env = pure false := by rfl) (hw : swappedStores [.Subscript o i pos'] e X.env = pure none := by rfl) (h1 : (assignEach [.Subscript o i pos'] X.env).map (·.2) = [assign (.Subscript o i pos') X.env] := by rfl)
    (ha : ∀ v, assign (.Subscript o i pos') X.env v = (do let ov ← holding [v] (eval o X.env); let iv ← holding [v, ov] (eval i X.env); standAt pos'; holding [v, ov, iv] (setItem ov iv v); release [v, ov, iv] []) := by intro _; rfl) : PS X (.Assign [.Subscript o i pos'] e pos) (sM X.K kx (Mi.mSetI mo mi me)) :=
  (ps_asg he (pg_sub ho hi set_list ha) hs hw h1).imp fun D σ H ⟨ρ, G, δ, fl, δ', G', rl, sr, e, k⟩ => by
  unfold Mi.mSetI at e
  split at e
  · rename_i y G1 e1
    split at e
    · rename_i h G2 e2
      split at e
      · rename_i kk G3 e3
        split at e
        · rename_i xs eh
          split at e
          · rename_i j ej
            cases e
            refine ⟨ρ, G, δ, y, G1, rl, sr, e1, fun w ρ1 H1 g1 r1 d1 => ⟨ρ1, G1, δ, _, G2, r1, sr.gr g1, e2, fun v ρ2 H2 g2 r2 d2 => ⟨ρ2, G2, δ, _, G3, r2, sr.gr (g1.trans g2), e3, fun u ρ3 H3 g3 r3 d3 => ?_⟩⟩⟩
            cases d3
            cases d2 with
            | ref ea =>
              have ea3 := ref_gr (K := X.K) g3 ea
              obtain ⟨vs, h3, rv⟩ := lst_at r3 eh ea3
              obtain ⟨g4, r4⟩ := r3.wr (o := .lst (vs.set j w)) (m := .lst (xs.set j y)) ea3 fun g => .lst upd_same ((rv.set j (d1.gr (g2.trans g3))).gr g)
              exact ⟨_, vs, _, j, rfl, rfl, h3, by rw [← ixN_dr rv]; exact ej, k _ σ _ (((g1.trans g2).trans g3).trans g4) r4 (sr.gr (((g1.trans g2).trans g3).trans g4))⟩
          · cases e
        · cases e
      · cases e
    · cases e
  · cases e
/-- d[k] = e -/
theorem s_setK {i : Expr} {mi : ME} (hu : X.A.units + 1 < cLine) (ho : PE X o (tM X.K kx mo)) (hi : PE X i (tM X.K kx mi)) (he : PE X e (tM X.K kx me)) (hs : swapsWith e (some (.Subscript o i pos')) pos.line X.env = pure false := by rfl) : PS X (.Assign [.Subscript o i pos'] e pos) (sM X.K kx (Mi.mSetK mo mi me)) :=
  (ps_dput hu ho hi he hs).imp fun D σ H ⟨ρ, G, δ, fl, δ', G', rl, sr, e, k⟩ => by
  unfold Mi.mSetK at e
  split at e
  · rename_i y G1 e1
    split at e
    · rename_i h G2 e2
      split at e
      · rename_i kk G3 e3
        split at e
        · rename_i kvs ky eh ek
          split at e
          · rename_i hz
            cases e
            refine ⟨ρ, G, δ, y, G1, rl, sr, e1, fun w ρ1 H1 g1 r1 d1 => ⟨ρ1, G1, δ, _, G2, r1, sr.gr g1, e2, fun v ρ2 H2 g2 r2 d2 => ⟨ρ2, G2, δ, _, G3, r2, sr.gr (g1.trans g2), e3, fun u ρ3 H3 g3 r3 d3 => ?_⟩⟩⟩
            have eu := kOf_v ek d3
            subst eu
            cases d2 with
            | ref ea =>
              have ea3 := ref_gr (K := X.K) g3 ea
              obtain ⟨ks, h3, kr⟩ := dct_at r3 eh ea3
              obtain ⟨g4, r4⟩ := r3.wr (o := .dK (putK ks (kK ky) w)) (m := .dct (Mi.put kvs ky y)) ea3 fun g => .dct upd_same ((put_ok kr (d1.gr (g2.trans g3))).imp fun _ _ q => ⟨q.1, q.2.gr g⟩)
              exact ⟨_, _, rfl, DPut.k h3 (by rw [← AR.len kr, ← big_line]; exact hz), k _ σ _ (((g1.trans g2).trans g3).trans g4) r4 (sr.gr (((g1.trans g2).trans g3).trans g4))⟩
          · cases e
        · cases e
      · cases e
    · cases e
  · cases e
end
end Ms

/-! PyS5: loops, comprehensions, defs. -/
namespace Ms
open PySem L2
open Mi (Dv MO Sto Sl Rs bnd ME MT MA MS MF Fl MG MGs MI)
/-- an iterator gives the items ds as long as st holds of the store -/
structure Yl (K : PySem.W.Frag) (kx : Kx) (ρ0 : Rh) (H0 : Hp) (J : It) (ds : List Dv) (st : Sto → Prop) : Prop where
  stop : ∀ ρ G H, Gw ρ0 H0 ρ H → Rl K kx ρ G H → st G → J.stop ds.length H
  go : ∀ i ρ G H, Gw ρ0 H0 ρ H → Rl K kx ρ G H → st G → i < ds.length → J.go i H
  yld : ∀ i d ρ G H x H', Gw ρ0 H0 ρ H → Rl K kx ρ G H → st G → ds[i]? = some d → J.yld i H x H' → Gr ρ H ρ H' ∧ Rl K kx ρ G H' ∧ DR K ρ H' d x
def tI (K : PySem.W.Frag) (kx : Kx) (mi : MI) : TI := fun σ H R => ∃ (ρ : Rh) (G : Sto) (δ : Sl) (ds : List Dv) (st : Sto → Prop) (G' : Sto), Rl K kx ρ G H ∧ Sr K ρ H δ σ ∧ mi δ G = some ((ds, st), G') ∧
  ∀ J ρ' H', Gr ρ H ρ' H' → Rl K kx ρ' G' H' → Yl K kx ρ' H' J ds st → R J H'
section
variable {X : Cx} {kx : Kx} {e a b c o tg : Expr} {ma mb mc me mo : ME} {mt : MT} {pos p apos pos' : Pos} {st : Stmt} {rest sa sb es : List Expr} {mas mks : MA} {ms ms' : MS} {bs : List Stmt} {x y : Str}
/-! ### iterators -/
theorem yl_list {ρ0 : Rh} {H0 : Hp} {x : Dv} {ad : Addr} {ds : List Dv} (dx : DR X.K ρ0 H0 x (.ref ad)) : Yl X.K kx ρ0 H0 (Itl X.K ad) ds (fun G => Mi.lstOf G x = some ds) := by
  have rx : ∀ ρ G H, Gw ρ0 H0 ρ H → Rl X.K kx ρ G H → Mi.lstOf G x = some ds → ∃ vs, SqL X.K H ad vs ∧ DRs X.K ρ H ds vs := fun ρ G H g r s => by
    obtain ⟨a, vs, e, h, q⟩ := lstOf_at r s (dx.gw g)
    cases e
    exact ⟨vs, h, q⟩
  refine ⟨fun ρ G H g r s => ?_, fun i ρ G H g r s hi => ?_, fun i d ρ G H v H' g r s hd hy => ?_⟩
  · obtain ⟨vs, h, dr⟩ := rx ρ G H g r s
    exact ⟨vs, h, Nat.le_of_eq dr.len.symm⟩
  · obtain ⟨vs, h, dr⟩ := rx ρ G H g r s
    have hi' : i < vs.length := by rw [← dr.len]; exact hi
    exact ⟨vs, vs[i], h, List.getElem?_eq_getElem hi'⟩
  · obtain ⟨e, hv⟩ := hy
    subst e
    obtain ⟨vs, h, dr⟩ := rx ρ G _ g r s
    obtain ⟨w, hw, dw⟩ := dr.get hd
    have e2 := hv vs h
    rw [hw] at e2
    cases e2
    exact ⟨Gr.refl, r, dw⟩
theorem yl_tup {ρ0 : Rh} {H0 : Hp} {ad : Addr} {ds : List Dv} {vs : List V} {st : Sto → Prop} (h0 : SqT X.K H0 ad vs) (d0 : DRs X.K ρ0 H0 ds vs) : Yl X.K kx ρ0 H0 (Itt X.K ad) ds st := by
  refine ⟨fun ρ G H g r s => ?_, fun i ρ G H g r s hi => ?_, fun i d ρ G H v H' g r s hd hy => ?_⟩
  · exact ⟨vs, (SqT.gw g h0), Nat.le_of_eq d0.len.symm⟩
  · have hi' : i < vs.length := by rw [← d0.len]; exact hi
    exact ⟨vs, vs[i], (SqT.gw g h0), List.getElem?_eq_getElem hi'⟩
  · obtain ⟨e, hv⟩ := hy
    subst e
    obtain ⟨w, hw, dw⟩ := (d0.gw g).get hd
    have e2 := hv vs ((SqT.gw g h0))
    rw [hw] at e2
    cases e2
    exact ⟨Gr.refl, r, dw⟩
theorem yl_range {ρ0 : Rh} {H0 : Hp} {lo hi : Int} {st : Sto → Prop} : Yl X.K kx ρ0 H0 (Itr lo (hi - lo).toNat) (Mi.rng lo hi) st := by
  have hl : (Mi.rng lo hi).length = (hi - lo).toNat := by simp [Mi.rng]
  refine ⟨fun ρ G H g r s => ?_, fun i ρ G H g r s hi => ?_, fun i d ρ G H v H' g r s hd hy => ?_⟩
  · rw [hl]
    exact Nat.le_refl _
  · rw [hl] at hi
    exact hi
  · obtain ⟨e, hv⟩ := hy
    subst e hv
    have hi := (List.getElem?_eq_some_iff.mp hd).1
    rw [hl] at hi
    unfold Mi.rng at hd
    rw [List.getElem?_map, List.getElem?_range hi] at hd
    cases hd
    exact ⟨Gr.refl, r, .int _⟩
theorem i_seq (ha : PE X a (tM X.K kx ma)) : PI X tg a (tI X.K kx (Mi.iSeq ma)) := (PI.or (pi_list ha) (pi_tup ha)).imp fun σ H R ⟨ρ, G, δ, ds, st, G', rl, sr, e, k⟩ => by
  obtain ⟨x, G1, e1, e⟩ := Mi.bnd_eq e
  cases es : Mi.seqOf G1 x with
  | none => rw [es] at e; cases e
  | some xs =>
    rw [es] at e
    cases e
    cases x with
    | tup ys =>
      cases es
      refine .inr ⟨ρ, G, δ, _, _, rl, sr, e1, fun v ρ1 H1 g1 r1 d1 => ?_⟩
      cases d1 with
      | tup h r => exact ⟨_, rfl, ⟨_, h⟩, k _ ρ1 H1 g1 r1 (yl_tup h r)⟩
    | _ =>
      refine .inl ⟨ρ, G, δ, _, _, rl, sr, e1, fun v ρ1 H1 g1 r1 d1 => ?_⟩
      unfold Mi.seqOf at es
      obtain ⟨ad, vs, ev, h, r⟩ := lstOf_at r1 es d1
      subst ev
      exact ⟨ad, rfl, ⟨vs, h⟩, k _ ρ1 H1 g1 r1 (yl_list d1)⟩
theorem i_range1 {p : Pos} (hm : X.mg "range" = none) (ha : PE X a (tM X.K kx ma)) (hg : Gl X "range" := by rfl) (hs : starEach [a] X.env = (false, eval a X.env) :: starEach [] X.env := by rfl) (hs2 : starEach [a] X.env = [(false, eval a X.env)] := by rfl) : PI X tg (.Call (.Name "range" p) [a] [] pos) (tI X.K kx (Mi.iRange1 ma)) :=
  (pi_range1 hg hm (pa_cons ha pa_nil hs) hs2).imp fun σ H R ⟨ρ, G, δ, ds, st, G', rl, sr, e, k⟩ => by
  obtain ⟨x, G1, e1, e⟩ := Mi.bnd_eq e
  refine ⟨ρ, G, δ, x, G1, rl, sr, e1, fun v ρ1 H1 g1 r1 d1 => ?_⟩
  split at e
  · split at e
    · rename_i hz
      cases e
      cases d1
      refine ⟨_, rfl, hz.1, hz.2, k _ ρ1 H1 g1 r1 ?_⟩
      have := yl_range (X := X) (kx := kx) (ρ0 := ρ1) (H0 := H1) (lo := 0) (hi := ‹Int›) (st := fun _ => True)
      rw [Int.sub_zero] at this
      exact this
    · cases e
  · cases e
theorem i_range2 {p : Pos} (hm : X.mg "range" = none) (ha : PE X a (tM X.K kx ma)) (hb : PE X b (tM X.K kx mb)) (hg : Gl X "range" := by rfl) (hs : starEach [a, b] X.env = (false, eval a X.env) :: starEach [b] X.env := by rfl) (hs2 : starEach [b] X.env = (false, eval b X.env) :: starEach [] X.env := by rfl) (hs3 : starEach [a, b] X.env = [(false, eval a X.env), (false, eval b X.env)] := by rfl) (hs4 : starEach [b] X.env = [(false, eval b X.env)] := by rfl) : PI X tg (.Call (.Name "range" p) [a, b] [] pos) (tI X.K kx (Mi.iRange2 ma mb)) :=
  (pi_range2 hg hm (pa_cons ha (pa_cons hb pa_nil hs2) hs) hs3 hs4).imp fun σ H R ⟨ρ, G, δ, ds, st, G', rl, sr, e, k⟩ => by
  obtain ⟨x, G1, e1, e⟩ := Mi.bnd_eq e
  obtain ⟨y, G2, e2, e⟩ := Mi.bnd_eq e
  refine ⟨ρ, G, δ, x, G1, rl, sr, e1, fun v ρ1 H1 g1 r1 d1 => ⟨ρ1, G1, δ, y, G2, r1, sr.gr g1, e2, fun w ρ2 H2 g2 r2 d2 => ?_⟩⟩
  split at e
  · split at e
    · rename_i hz
      cases e
      cases d1
      cases d2
      exact ⟨_, _, rfl, hz, k _ ρ2 H2 (g1.trans g2) r2 yl_range⟩
    · cases e
  · cases e
theorem enumD_get : ∀ (k : Nat) (xs : List Dv) (i : Nat), (Mi.enumD k xs)[i]? = (xs[i]?).map fun d => .tup [.int ((k + i : Nat)), d]
  | k, [], i => by simp [Mi.enumD]
  | k, x :: xs, 0 => by simp [Mi.enumD]
  | k, x :: xs, i + 1 => by
    have := enumD_get (k + 1) xs i
    simp only [Mi.enumD, List.getElem?_cons_succ, this]
    congr 2
    funext d
    have e : k + 1 + i = k + (i + 1) := by omega
    rw [e]
theorem enumD_len : ∀ (k : Nat) (xs : List Dv), (Mi.enumD k xs).length = xs.length
  | k, [] => rfl
  | k, x :: xs => by simp [Mi.enumD, enumD_len (k + 1) xs]
theorem i_enum {elts : List Expr} {kk : Nat} {tpos p : Pos} (hm : X.mg "enumerate" = none) (ha : PE X a (tM X.K kx ma)) (hg : Gl X "enumerate" := by rfl) (hs : starEach [a] X.env = (false, eval a X.env) :: starEach [] X.env := by rfl) (hs2 : starEach [a] X.env = [(false, eval a X.env)] := by rfl) : PI X (.Tuple elts kk tpos) (.Call (.Name "enumerate" p) [a] [] pos) (tI X.K kx (Mi.iEnum ma)) :=
  (pi_enum hg hm (pa_cons ha pa_nil hs) hs2).imp fun σ H R ⟨ρ, G, δ, ds, st, G', rl, sr, e, k⟩ => by
  obtain ⟨x, G1, e1, e⟩ := Mi.bnd_eq e
  refine ⟨ρ, G, δ, x, G1, rl, sr, e1, fun v ρ1 H1 g1 r1 d1 => ?_⟩
  split at e
  · rename_i xs el
    cases e
    obtain ⟨ad, vs, ev, h, r⟩ := lstOf_at r1 el d1
    subst ev
    refine ⟨ad, vs, rfl, h, k _ ρ1 H1 g1 r1 ?_⟩
    have rx : ∀ ρ G H, Gw ρ1 H1 ρ H → Rl X.K kx ρ G H → Mi.lstOf G x = some xs → ∃ vs, SqL X.K H ad vs ∧ DRs X.K ρ H xs vs := fun ρ G H g r s => by
      obtain ⟨a, vs, e, h, q⟩ := lstOf_at r s (d1.gw g)
      cases e
      exact ⟨vs, h, q⟩
    refine ⟨fun ρ G H g r s => ?_, fun i ρ G H g r s hi => ?_, fun i d ρ G H v H' g r s hd hy => ?_⟩
    · obtain ⟨vs, h, dr⟩ := rx ρ G H g r s
      refine ⟨vs, h, ?_⟩
      rw [enumD_len, dr.len]
      exact Nat.le_refl _
    · obtain ⟨vs, h, dr⟩ := rx ρ G H g r s
      rw [enumD_len, dr.len] at hi
      exact ⟨vs, vs[i], h, List.getElem?_eq_getElem hi⟩
    · obtain ⟨T, w, ev, hT, eH, hv⟩ := hy
      subst ev eH
      obtain ⟨vs, h, dr⟩ := rx ρ G H g r s
      rw [enumD_get] at hd
      cases ex : xs[i]? with
      | none => rw [ex] at hd; cases hd
      | some d0 =>
        rw [ex] at hd
        cases hd
        obtain ⟨w', hw, dw⟩ := dr.get ex
        have e2 := hv vs h
        rw [hw] at e2
        cases e2
        obtain ⟨g2, r2⟩ := r.side (.tup [.int (i : Nat), w]) hT
        refine ⟨g2, r2, .tup (SqT.of upd_same) (.cons ?_ (.cons (dw.gr g2) .nil))⟩
        rw [Nat.zero_add]
        exact .int _
  · cases e
/-! ### for -/
theorem s_for {it : Expr} {mi : MI} {ws : List Nat} {g : MG} {mb : MS} (hp : PassesOwn (model X.prog X.w) X.A X.env X.xe) (hc : X.calm = true) (hi : PI X tg it (tI X.K kx mi)) (hg : PG X tg (tG X.K kx ws g)) (hb : PSs X bs (sM X.K kx mb)) (hfs : ∀ x, foldedSetIterable it X.env x = pure x := by intro _; rfl) : PS X (.For tg it bs [] pos) (sM X.K kx (Mi.mFor mi g mb)) :=
  (ps_for hp hc hi hg hb (hs := hfs)).imp fun D σ H ⟨ρ, G, δ, f, δ', G', rl, sr, e, k⟩ => by
  obtain ⟨⟨ds, st⟩, G1, e1, e⟩ := Mi.bnd_eq e
  refine ⟨ρ, G, δ, ds, st, G1, rl, sr, e1, fun J ρ1 H1 g1 r1 y => ?_⟩
  refine ⟨fun i m σ H => m = ds.length - i ∧ i ≤ ds.length ∧ ∃ ρ2 G2 δ2, Gr ρ1 H1 ρ2 H ∧ Rl X.K kx ρ2 G2 H ∧ Sr X.K ρ2 H δ2 σ ∧ Mi.mLoop g mb st (ds.drop i) δ2 G2 = some (f, δ', G'), ⟨ds.length, by simp, Nat.zero_le _, ρ1, G1, δ, Gr.refl, r1, sr.gr g1, by simpa using e⟩, ?_⟩
  rintro i m σ2 H2 ⟨rfl, hi, ρ2, G2, δ2, g2, r2, s2, el⟩
  by_cases hlt : i < ds.length
  · have ed : ds.drop i = ds[i] :: ds.drop (i + 1) := List.drop_eq_getElem_cons hlt
    rw [ed] at el
    unfold Mi.mLoop at el
    split at el
    · rename_i hst
      split at el
      · rename_i δ3 G3 eg
        refine .inr ⟨y.go i ρ2 G2 H2 g2.w r2 hst hlt, fun σ' H' => ∃ m', m' < ds.length - i ∧ (m' = ds.length - (i + 1) ∧ i + 1 ≤ ds.length ∧ ∃ ρ2 G2 δ2, Gr ρ1 H1 ρ2 H' ∧ Rl X.K kx ρ2 G2 H' ∧ Sr X.K ρ2 H' δ2 σ' ∧ Mi.mLoop g mb st (ds.drop (i + 1)) δ2 G2 = some (f, δ', G')), fun _ _ h => h, fun x H' hy => ?_⟩
        obtain ⟨gy, ry, dy⟩ := y.yld i ds[i] ρ2 G2 H2 x H' g2.w r2 hst (List.getElem?_eq_getElem hlt) hy
        refine ⟨ρ2, G2, δ2, ds[i], δ3, G3, ry, s2.gr gy, dy, eg, fun ρ3 σ3 H3 g3 r3 s3 _ _ => ?_⟩
        have ga := (g2.trans gy).trans g3
        have next : ∀ {δ4 G4}, Mi.mLoop g mb st (ds.drop (i + 1)) δ4 G4 = some (f, δ', G') → ∀ ρ4 σ4 H4, Gr ρ3 H3 ρ4 H4 → Rl X.K kx ρ4 G4 H4 → Sr X.K ρ4 H4 δ4 σ4 → ∃ m', m' < ds.length - i ∧ (m' = ds.length - (i + 1) ∧ i + 1 ≤ ds.length ∧ ∃ ρ2 G2 δ2, Gr ρ1 H1 ρ2 H4 ∧ Rl X.K kx ρ2 G2 H4 ∧ Sr X.K ρ2 H4 δ2 σ4 ∧ Mi.mLoop g mb st (ds.drop (i + 1)) δ2 G2 = some (f, δ', G')) :=
          fun {δ4 G4} h ρ4 σ4 H4 g4 r4 s4 => ⟨_, by omega, rfl, hlt, ρ4, G4, δ4, ga.trans g4, r4, s4, h⟩
        split at el
        · rename_i δ4 G4 eb
          exact ⟨ρ3, G3, δ3, .nx, δ4, G4, r3, s3, eb, fun ρ4 σ4 H4 g4 r4 s4 => next el ρ4 σ4 H4 g4 r4 s4⟩
        · rename_i δ4 G4 eb
          exact ⟨ρ3, G3, δ3, .ct, δ4, G4, r3, s3, eb, fun ρ4 σ4 H4 g4 r4 s4 => next el ρ4 σ4 H4 g4 r4 s4⟩
        · rename_i δ4 G4 eb
          cases el
          exact ⟨ρ3, G3, δ3, .bk, _, _, r3, s3, eb, fun ρ4 σ4 H4 g4 r4 s4 => k ρ4 σ4 H4 ((g1.trans ga).trans g4) r4 s4⟩
        · rename_i n1 n2 n3
          refine ⟨ρ3, G3, δ3, f, δ', G', r3, s3, el, fun ρ4 σ4 H4 g4 r4 s4 => ?_⟩
          have q := k ρ4 σ4 H4 ((g1.trans ga).trans g4) r4 s4
          cases f with
          | nx => exact absurd el (n1 _ _)
          | ct => exact absurd el (n2 _ _)
          | bk => exact absurd el (n3 _ _)
          | rt d => exact q
      · cases el
    · cases el
  · have ed : ds.drop i = [] := List.drop_eq_nil_of_le (by omega)
    rw [ed] at el
    unfold Mi.mLoop at el
    split at el
    · rename_i hst
      cases el
      have hi' : i = ds.length := by omega
      subst hi'
      exact .inl ⟨y.stop ρ2 _ H2 g2.w r2 hst, k ρ2 σ2 H2 (g1.trans g2) r2 s2⟩
    · cases el
/-! ### while -/
theorem s_while {n : Nat} {mb : MS} (hp : PassesOwn (model X.prog X.w) X.A X.env X.xe) (hc : PT X c (tMT X.K kx mt)) (hb : PSs X bs (sM X.K kx mb)) : PS X (.While c bs [] pos) (sM X.K kx (Mi.mWh mt mb n)) :=
  (ps_while hp hc hb).imp fun D σ H ⟨ρ, G, δ, f, δ', G', rl, sr, e, k⟩ => by
  refine ⟨fun m σ H' => ∃ ρ2 G2 δ2, Gr ρ H ρ2 H' ∧ Rl X.K kx ρ2 G2 H' ∧ Sr X.K ρ2 H' δ2 σ ∧ Mi.mWh mt mb m δ2 G2 = some (f, δ', G'), ⟨n, ρ, G, δ, Gr.refl, rl, sr, e⟩, ?_⟩
  rintro m σ2 H2 ⟨ρ2, G2, δ2, g2, r2, s2, el⟩
  cases m with
  | zero => cases el
  | succ m =>
    unfold Mi.mWh at el
    split at el
    · rename_i G3 et
      refine ⟨ρ2, G2, δ2, true, G3, r2, s2, et, fun ρ3 H3 g3 r3 => ?_⟩
      dsimp only
      rw [if_pos rfl]
      refine ⟨fun σ' H' => ∃ m', m' < m + 1 ∧ ∃ ρ2 G2 δ2, Gr ρ H ρ2 H' ∧ Rl X.K kx ρ2 G2 H' ∧ Sr X.K ρ2 H' δ2 σ' ∧ Mi.mWh mt mb m' δ2 G2 = some (f, δ', G'), fun _ _ h => h, ?_⟩
      split at el
      · rename_i δ4 G4 eb
        exact ⟨ρ3, G3, δ2, .nx, δ4, G4, r3, s2.gr g3, eb, fun ρ4 σ4 H4 g4 r4 s4 => ⟨m, Nat.lt_succ_self m, ρ4, G4, δ4, (g2.trans g3).trans g4, r4, s4, el⟩⟩
      · rename_i δ4 G4 eb
        exact ⟨ρ3, G3, δ2, .ct, δ4, G4, r3, s2.gr g3, eb, fun ρ4 σ4 H4 g4 r4 s4 => ⟨m, Nat.lt_succ_self m, ρ4, G4, δ4, (g2.trans g3).trans g4, r4, s4, el⟩⟩
      · rename_i δ4 G4 eb
        cases el
        exact ⟨ρ3, G3, δ2, .bk, _, _, r3, s2.gr g3, eb, fun ρ4 σ4 H4 g4 r4 s4 => k ρ4 σ4 H4 ((g2.trans g3).trans g4) r4 s4⟩
      · rename_i n1 n2 n3
        refine ⟨ρ3, G3, δ2, f, δ', G', r3, s2.gr g3, el, fun ρ4 σ4 H4 g4 r4 s4 => ?_⟩
        have q := k ρ4 σ4 H4 ((g2.trans g3).trans g4) r4 s4
        cases f with
        | nx => exact absurd el (n1 _ _)
        | ct => exact absurd el (n2 _ _)
        | bk => exact absurd el (n3 _ _)
        | rt d => exact q
    · rename_i G3 et
      cases el
      refine ⟨ρ2, G2, _, false, _, r2, s2, et, fun ρ3 H3 g3 r3 => ?_⟩
      dsimp only
      rw [if_neg (fun z => Bool.false_ne_true z)]
      exact k ρ3 σ2 H3 (g2.trans g3) r3 (s2.gr g3)
    · cases el
/-! ### comprehensions -/
theorem mt_yes : PTs X [] (tMT X.K kx Mi.tYes) := ⟨fun pins s σ H Q I h => pts_nil.run pins s σ H Q I (by
  obtain ⟨ρ, G, δ, b, G', rl, sr, e, k⟩ := h
  cases e
  exact k ρ H Gr.refl rl)⟩
theorem wipe_eq {σ σ2 : St} (hl : σ2.length = σ.length) : ∀ {vs : List Nat}, (∀ i, i ∉ vs → σ2[i]? = (L2.wipe σ vs)[i]?) → (L2.wipe σ vs).length = σ.length → L2.wipe σ2 vs = L2.wipe σ vs := by
  intro vs h hw
  refine List.ext_getElem? fun i => ?_
  by_cases hi : i ∈ vs
  · have n : ∀ (τ : St), (L2.wipe τ vs)[i]? = if i < τ.length then some none else none := by
      intro τ
      have : ∀ (us : List Nat), i ∈ us → (L2.wipe τ us)[i]? = if i < τ.length then some none else none := by
        intro us
        induction us with
        | nil => intro z; cases z
        | cons u us ih =>
          intro z
          show ((L2.wipe τ us).set u none)[i]? = _
          by_cases hu : u = i
          · subst hu
            by_cases hlt : u < τ.length
            · rw [if_pos hlt, List.getElem?_set_self (by rw [L2.wipe_length]; exact hlt)]
            · rw [if_neg hlt, List.getElem?_eq_none]
              rw [List.length_set, L2.wipe_length]
              omega
          · rw [List.getElem?_set_ne hu]
            exact ih ((List.mem_cons.mp z).elim (fun q => absurd q.symm hu) id)
      exact this vs hi
    rw [n, n, hl]
  · rw [L2.wipe_out hi]
    exact h i hi
/-- the loop of a comprehension; ws: what the target stores -/
theorem lc_go {mi : MI} {g : MG} {mt : MT} {ws vs : List Nat} {m : Bool} {σ : St} {H : Hp} {Q : VK} (hw : ∀ i ∈ ws, i ∈ vs) (h : tM X.K kx (Mi.mLc m mi g mt me vs) σ H Q) : tLc (tI X.K kx mi) (tG X.K kx ws g) (tMT X.K kx mt) (tM X.K kx me) vs σ H Q := by
  obtain ⟨ρ, G, δ, d, G', rl, sr, e, k⟩ := h
  obtain ⟨⟨ds, st⟩, G1, e1, e⟩ := Mi.bnd_eq e
  obtain ⟨zs, Gz, e2, e⟩ := Mi.bnd_eq e
  dsimp only at e2 e
  refine ⟨ρ, G, δ, ds, st, G1, rl, sr, e1, fun J ρ1 H1 g1 r1 y D hD => ?_⟩
  obtain ⟨gf, rf⟩ := r1.fill [] hD
  have nD : D ∉ ρ1.x := (r1.free hD).2
  refine ⟨fun i n H2 => n = ds.length - i ∧ i ≤ ds.length ∧ ∃ (r2 : List Addr) (G2 : Sto) (acc : List Dv) (av : List V), Gr ⟨ρ1.r, D :: ρ1.x⟩ (upd H1 D (.lst [])) ⟨r2, D :: ρ1.x⟩ (upd H2 D (.lst [])) ∧ Gw ⟨ρ1.r, D :: ρ1.x⟩ (upd H1 D (.lst [])) ⟨r2, D :: ρ1.x⟩ H2 ∧ Rl X.K kx ⟨r2, D :: ρ1.x⟩ G2 H2 ∧ H2 D = some (.lst av) ∧ DRs X.K ⟨r2, D :: ρ1.x⟩ H2 acc av ∧
    Mi.mLcLoop g mt me st (Mi.wipe δ vs) (ds.drop i) acc G2 = some (zs, Gz), ⟨ds.length, by simp, Nat.zero_le _, ρ1.r, G1, [], [], by rw [upd_upd]; exact Gr.refl, Gw.refl, rf, upd_same, .nil, by simpa using e2⟩, ?_⟩
  rintro i n H2 ⟨rfl, hi, r2, G2, acc, av, g2, w2, q2, hD2, da, el⟩
  have sr2 : Sr X.K ⟨r2, D :: ρ1.x⟩ H2 δ σ := ((sr.gr g1).gw gf).gw w2
  by_cases hlt : i < ds.length
  · have ed : ds.drop i = ds[i] :: ds.drop (i + 1) := List.drop_eq_getElem_cons hlt
    rw [ed] at el
    unfold Mi.mLcLoop at el
    split at el
    · rename_i hst
      obtain ⟨hst, hacc⟩ := hst
      split at el
      · rename_i δ3 G3 eg
        refine .inr ⟨y.go i _ G2 H2 (gf.trans w2) q2 hst hlt, fun H' => ∃ n', n' < ds.length - i ∧ (n' = ds.length - (i + 1) ∧ i + 1 ≤ ds.length ∧ ∃ (r2 : List Addr) (G2 : Sto) (acc : List Dv) (av : List V), Gr ⟨ρ1.r, D :: ρ1.x⟩ (upd H1 D (.lst [])) ⟨r2, D :: ρ1.x⟩ (upd H' D (.lst [])) ∧ Gw ⟨ρ1.r, D :: ρ1.x⟩ (upd H1 D (.lst [])) ⟨r2, D :: ρ1.x⟩ H' ∧ Rl X.K kx ⟨r2, D :: ρ1.x⟩ G2 H' ∧ H' D = some (.lst av) ∧ DRs X.K ⟨r2, D :: ρ1.x⟩ H' acc av ∧
          Mi.mLcLoop g mt me st (Mi.wipe δ vs) (ds.drop (i + 1)) acc G2 = some (zs, Gz)), fun _ h => h, fun x H' hy => ?_⟩
        obtain ⟨gy, ry, dy⟩ := y.yld i ds[i] _ G2 H2 x H' (gf.trans w2) q2 hst (List.getElem?_eq_getElem hlt) hy
        have hDr : D ∉ r2 := (q2.xt D (List.mem_cons_self ..)).2
        -- growth under the list that is being filled, its content aside
        have lift : ∀ {r r' : List Addr} {Ha Hb : Hp}, D ∉ r → (∃ us, Ha D = some (.lst us)) → Gr ⟨r, D :: ρ1.x⟩ Ha ⟨r', D :: ρ1.x⟩ Hb → Gr ⟨r, D :: ρ1.x⟩ (upd Ha D (.lst [])) ⟨r', D :: ρ1.x⟩ (upd Hb D (.lst [])) := by
          intro r r' Ha Hb hr ⟨us, hu⟩ gg
          refine ⟨gg.pre, fun z hz => ?_, fun z o ho hz => ?_, fun z xs ho => ?_, fun z o u ho => ?_⟩
          · rcases gg.new z hz with q | q
            · exact .inl q
            · refine .inr ?_
              have hzD : z ≠ D := fun w => by rw [w, hu] at q; cases q
              rw [upd_ne hzD]
              exact q
          · by_cases hzD : z = D
            · subst hzD
              rw [upd_same] at ho ⊢
              exact ho
            · rw [upd_ne hzD] at ho ⊢
              exact gg.kp z o ho hz
          · have hzD : z ≠ D := fun w => by rw [w, upd_same] at ho; cases ho
            rw [upd_ne hzD] at ho ⊢
            exact gg.tu z xs ho
          · have hzD : z ≠ D := fun w => by rw [w, upd_same] at ho; cases ho
            rw [upd_ne hzD] at ho ⊢
            exact gg.fz z o u ho
        have keepD : ∀ {r r' : List Addr} {Ha Hb : Hp} {us : List V}, D ∉ r → Ha D = some (.lst us) → Gr ⟨r, D :: ρ1.x⟩ Ha ⟨r', D :: ρ1.x⟩ Hb → Hb D = some (.lst us) := fun hr hu gg => gg.kp D _ hu hr
        refine ⟨_, G2, Mi.wipe δ vs, ds[i], δ3, G3, ry, (sr2.gr gy).wipe vs, dy, eg, fun ρ3 σ3 H3 g3 r3 s3 l3 n3 => ⟨?_, ?_⟩⟩
        · refine wipe_eq (by rw [l3, L2.wipe_length]) (fun j hj => n3 j fun z => hj (hw j z)) (L2.wipe_length σ vs)
        obtain ⟨r3', x3⟩ := ρ3
        obtain rfl : x3 = D :: ρ1.x := g3.pre.2
        have gA := gy.trans g3
        have hD3 := keepD hDr hD2 gA
        have hDr3 : D ∉ r3' := (r3.xt D (List.mem_cons_self ..)).2
        split at el
        · rename_i G4 et
          refine ⟨_, G3, δ3, true, G4, r3, s3, et, fun ρ4 H4 g4 r4 => ?_⟩
          dsimp only
          rw [if_pos rfl]
          obtain ⟨r4', x4⟩ := ρ4
          obtain rfl : x4 = D :: ρ1.x := g4.pre.2
          split at el
          · rename_i yv G5 ey
            refine ⟨_, G4, δ3, yv, G5, r4, s3.gr g4, ey, fun v ρ5 H5 g5 r5 d5 => ?_⟩
            obtain ⟨r5', x5⟩ := ρ5
            obtain rfl : x5 = D :: ρ1.x := g5.pre.2
            have gB := (gA.trans g4).trans g5
            have hD5 := keepD hDr hD2 gB
            refine ⟨av, hD5, by rw [← (da.len), ← big_line]; exact hacc, _, by omega, rfl, hlt, r5', G5, acc ++ [yv], av ++ [v], ?_⟩
            obtain ⟨gm, rm⟩ := r5.more (av ++ [v]) (List.mem_cons_self ..) hD5
            refine ⟨?_, (w2.trans gB.w).trans gm, rm, upd_same, ((da.gr gB).gw gm).app (.cons (d5.gw gm) .nil), el⟩
            rw [upd_upd]
            exact g2.trans (lift hDr ⟨av, hD2⟩ gB)
          · cases el
        · rename_i G4 et
          refine ⟨_, G3, δ3, false, G4, r3, s3, et, fun ρ4 H4 g4 r4 => ?_⟩
          dsimp only
          rw [if_neg (fun z => Bool.false_ne_true z)]
          obtain ⟨r4', x4⟩ := ρ4
          obtain rfl : x4 = D :: ρ1.x := g4.pre.2
          have gB := gA.trans g4
          exact ⟨_, by omega, rfl, hlt, r4', G4, acc, av, g2.trans (lift hDr ⟨av, hD2⟩ gB), w2.trans gB.w, r4, keepD hDr hD2 gB, da.gr gB, el⟩
        · cases el
      · cases el
    · cases el
  · have ed : ds.drop i = [] := List.drop_eq_nil_of_le (by omega)
    rw [ed] at el
    unfold Mi.mLcLoop at el
    split at el
    · rename_i hst
      cases el
      have hi' : i = ds.length := by omega
      subst hi'
      refine .inl ⟨y.stop _ _ H2 (gf.trans w2) q2 hst, ?_⟩
      have hDr : D ∉ r2 := (q2.xt D (List.mem_cons_self ..)).2
      have e' := Option.some.inj e
      -- the growth from ahead of the list
      have base : ∀ r' : List Addr, (∃ t, r' = ρ1.r ++ t) → (∀ z ∈ r', z ∈ r2 ∨ z = D) → Gr ρ1 H1 ⟨r', ρ1.x⟩ H2 := fun r' hp hs => by
        refine ⟨⟨hp, rfl⟩, fun z hz => ?_, fun z o ho hz => ?_, fun z xs ho => ?_, fun z o u ho => ?_⟩
        · rcases hs z hz with q | q
          · rcases g2.new z q with w | w
            · exact .inl w
            · by_cases hzD : z = D
              · rw [hzD]; exact .inr hD
              · rw [upd_ne hzD] at w
                exact .inr w
          · rw [q]; exact .inr hD
        · have hzD : z ≠ D := ne_of_none ho hD
          have := g2.kp z o (by rw [upd_ne hzD]; exact ho) hz
          rw [upd_ne hzD] at this
          exact this
        · have hzD : z ≠ D := ne_of_none ho hD
          have := g2.tu z xs (by rw [upd_ne hzD]; exact ho)
          rw [upd_ne hzD] at this
          exact this
        · have hzD : z ≠ D := ne_of_none ho hD
          have := g2.fz z o u (by rw [upd_ne hzD]; exact ho)
          rw [upd_ne hzD] at this
          exact this
      obtain ⟨t2, ht2⟩ := g2.pre.1
      have ht2' : r2 = ρ1.r ++ t2 := ht2
      cases m with
      | false =>
        obtain ⟨gw, rw'⟩ := q2.full
        cases e'
        exact k _ ⟨r2, ρ1.x⟩ H2 (g1.trans (base r2 ⟨t2, ht2'⟩ fun z hz => .inl hz)) rw' (.fls hD2 ⟨hDr, nD⟩ (da.gw gw))
      | true =>
        obtain ⟨gw, rw'⟩ := q2.fullM nD hD2 da
        cases e'
        refine k _ ⟨r2 ++ [D], ρ1.x⟩ H2 (g1.trans (base (r2 ++ [D]) ⟨t2 ++ [D], by rw [ht2']; simp⟩ fun z hz => ?_)) rw' (.ref ?_)
        · rcases List.mem_append.mp hz with q | q
          · exact .inl q
          · exact .inr (by simpa using q)
        · show (r2 ++ [D])[Gz.length]? = some D
          have hl : r2.length = Gz.length := q2.len
          rw [← hl, List.getElem?_append_right (Nat.le_refl _)]
          simp
    · cases el
theorem m_lc (m : Bool) {elt it : Expr} {ifs : List Expr} {scope : Scope} {own : List (Str × Nat)} {mi : MI} {g : MG} {mt : MT} {ws : List Nat} (hc : X.calm = true) (hN : X.N.Nodup) (hi : PI X tg it (tI X.K kx mi)) (ok : BlkOk X.N X.env.scope scope own) (hw : ∀ i ∈ ws, i ∈ own.map (·.2))
    (hg : ∀ (s : Shared) (H : Hp) (C : Addr) (cl : List (Str × Addr)) (fp : List Addr), PG (X.blk s H scope (compEnvC scope cl C X.env) fp) tg (tG X.K kx ws g)) (ht : ∀ (s : Shared) (H : Hp) (C : Addr) (cl : List (Str × Addr)) (fp : List Addr), PTs (X.blk s H scope (compEnvC scope cl C X.env) fp) ifs (tMT X.K kx mt))
    (he : ∀ (s : Shared) (H : Hp) (C : Addr) (cl : List (Str × Addr)) (fp : List Addr), PE (X.blk s H scope (compEnvC scope cl C X.env) fp) elt (tM X.K kx me)) (hfs : ∀ x, foldedSetIterable it X.env x = pure x := by intro _; rfl) : PE X (.ListComp elt [⟨tg, it, ifs, 0⟩] scope pos) (tM X.K kx (Mi.mLc m mi g mt me (own.map (·.2)))) :=
  (pe_lc hc hN hi ok hg ht he (hs := hfs)).imp fun σ H Q h => lc_go hw h
theorem s_setLc (i : Nat) (m : Bool) {py spos : Pos} {elt it : Expr} {ifs : List Expr} {scope : Scope} {own : List (Str × Nat)} {mi : MI} {g : MG} {mt : MT} {ws : List Nat} (hc : X.calm = true) (hN : X.N.Nodup) (hy : X.N[i]? = some y) (hyl : X.env.scope.names.lookup y = some .local) (hsw : swapsWith (.ListComp elt [⟨tg, it, ifs, 0⟩] scope pos) (some (.Name y py)) spos.line X.env = pure true)
    (hi : PI X tg it (tI X.K kx mi)) (ok : BlkOk X.N X.env.scope scope own) (hw : ∀ i ∈ ws, i ∈ own.map (·.2))
    (hg : ∀ (s : Shared) (H : Hp) (C : Addr) (cl : List (Str × Addr)) (fp : List Addr), PG (X.blk s H scope (compEnvC scope cl C X.env) fp) tg (tG X.K kx ws g)) (ht : ∀ (s : Shared) (H : Hp) (C : Addr) (cl : List (Str × Addr)) (fp : List Addr), PTs (X.blk s H scope (compEnvC scope cl C X.env) fp) ifs (tMT X.K kx mt))
    (he : ∀ (s : Shared) (H : Hp) (C : Addr) (cl : List (Str × Addr)) (fp : List Addr), PE (X.blk s H scope (compEnvC scope cl C X.env) fp) elt (tM X.K kx me)) (hfs : ∀ x, foldedSetIterable it X.env x = pure x := by intro _; rfl) : PS X (.Assign [.Name y py] (.ListComp elt [⟨tg, it, ifs, 0⟩] scope pos) spos) (sM X.K kx (Mi.mAsg (Mi.mLc m mi g mt me (own.map (·.2))) (Mi.gNm i))) :=
  (ps_setLc (i := i) hc hN hy hyl hsw hi ok hg ht he (hs := hfs)).imp fun D σ H ⟨ρ, G, δ, f, δ', G', rl, sr, e, k⟩ => by
  unfold Mi.mAsg at e
  split at e
  · rename_i d G1 e1
    cases e
    exact lc_go hw ⟨ρ, G, δ, d, _, rl, sr, e1, fun v ρ1 H1 g1 r1 d1 => k ρ1 _ H1 g1 r1 ((sr.gr g1).set i d1)⟩
  · cases e
end
end Ms

/-! PyS6: a def by its body; own classes asked for; the law's end. -/
namespace Ms
open PySem L2 PyProof.Rows
open Mi (Dv MO Sto Sl Rs bnd ME MT MA MS MF Fl MG MGs MI)
/-- the slots at the entry -/
theorem sr_start {K : PySem.W.Frag} {ρ : Rh} {H : Hp} {ds : List Dv} {vs : List V} {N : List Str} {l : Nat} (r : DRs K ρ H ds vs) (hl : N.length = vs.length + l) : Sr K ρ H (ds.map some ++ List.replicate l none) (L2.start N vs) := by
  have e : N.length - vs.length = l := by omega
  unfold L2.start
  rw [e]
  refine ⟨by simp [r.len], fun i d h => ?_⟩
  by_cases hi : i < ds.length
  · rw [List.getElem?_append_left (by simpa using hi), List.getElem?_map] at h
    cases ed : ds[i]? with
    | none => rw [ed] at h; cases h
    | some d' =>
      rw [ed] at h
      cases h
      obtain ⟨v, hv, dv⟩ := r.get ed
      refine ⟨v, ?_, dv⟩
      have hi2 : i < vs.length := by rw [← r.len]; exact hi
      rw [List.getElem?_append_left (by simpa using hi2), List.getElem?_map, hv] <;> rfl
  · rw [List.getElem?_append_right (by simpa using hi), List.getElem?_replicate] at h
    split at h <;> cases h
/-- a body that has ended is what the caller was promised -/
theorem told_end {CX : CXT} {P : Program} {w : World} {K : PySem.W.Frag} {mg : Str → Option Value} {base : Heap} {N : List Str} {qual : Str} {sc : Scope} {f : Addr} {cdv : Value} {A : Around} {outer : List Env} {s : Shared} {H : Hp} {E : XK} {Q : VK} :
    ∀ (fl : Flow) (s' : Shared), SP (cxOf CX P w K mg base N qual sc f cdv A outer s H E) [] { nx := fun _ H' => Q .non H', rt := Q } fl s' → CR CX outer P w H s Q E (.ok (.ret (match fl with | .ret v => v | _ => .none))) s'
  | .ret _, _, ⟨v, _, H', J, rv, qv⟩ => ⟨v, H', J.os, J.bare, J.base, J.hok, rv, qv⟩
  | .next, _, ⟨_, H', J, qv⟩ => ⟨V.non, H', J.os, J.bare, J.base, J.hok, rfl, qv⟩
  | .brk, _, ⟨_, _, _, no⟩ => no.elim
  | .cont, _, ⟨_, _, _, no⟩ => no.elim
/-- a def of the text is entered: its body runs from the start's slots (the library's call_fn, over the layer) -/
theorem entered {CX : CXT} {P : Program} {w : World} {K : PySem.W.Frag} {mg : Str → Option Value} {base : Heap} {k : Nat} {x qual : Str} {st : Stmt} {f : Addr} {fd : FuncData} {N ps : List Str} {A : Around} {outer : List Env} {s : Shared} {H : Hp} {args : Args} {us : List Value} {vs : List V} {Q : VK} {E : XK} {t : TS}
    (F : Fun K x qual st f fd) (S : FnScope N ps (defScope st)) (hr : Room (k + 1) A) (env : Env0 P w K mg base A outer s H) (hb : BindsTo s fd args (ps.zip us)) (r : Vals vs us) (hl : vs.length = ps.length)
    (body : ∀ cdv, Room k (A.deeper (envOfC qual (defScope st) s.heap.objs.size f cdv)) → PSs (cxOf CX P w K mg base N qual (defScope st) f cdv A outer s H E) (defBody st) t)
    (want : t { nx := fun _ H' => Q .non H', rt := Q } (L2.start N vs) H) : codeAny (model P w) A (.call (.ref f) args) (CR CX outer P w H s Q E) s := by
  have ⟨_, _, _, _, _, _, cdv, _, _, fd_is, there, named⟩ := F.ex
  subst fd_is
  have old : ∀ b o, base.get? b = some o → s.heap.get? b = some o := fun b o e => (env.bs b o e).1
  refine Att.call_fn (env.mod.kin.keeps old) (env.mod.nolimit.keeps old) there named hr.depth hb ?_ (fun s1 x => ?_) S.co S.gen S.kind
  · refine List.all_eq_true.mpr fun y hy => ?_
    rcases S.par y.1 (List.of_mem_zip (show (y.1, y.2) ∈ ps.zip us from hy)).1 with q | q <;> rw [q] <;> rfl
  · exact wpAny_mono ((body cdv (hr.deeper _)).run [] s1 _ H _ (inv_start S hr.hd env hl r x) want) told_end fun _ _ out => out
/-- a mirror's def asks for so many arguments, and is its body's end -/
theorem def_args {n l : Nat} {mb : MS} {ds : List Dv} {G : Sto} {r : Dv × Sto} (e : Mi.mDef n l mb ds G = some r) : ds.length = n := by
  unfold Mi.mDef at e
  exact Decidable.byContradiction fun z => by rw [if_neg z] at e; cases e
theorem def_body {n l : Nat} {mb : MS} {ds : List Dv} {G G' : Sto} {d : Dv} (e : Mi.mDef n l mb ds G = some (d, G')) : ∃ fl δ', mb (ds.map some ++ List.replicate l none) G = some (fl, δ', G') ∧ (fl = .nx ∧ d = .non ∨ fl = .rt d) := by
  have z := def_args e
  unfold Mi.mDef at e
  rw [if_pos z] at e
  split at e
  · rename_i δ' G2 eb
    cases e
    exact ⟨_, δ', eb, .inl ⟨rfl, rfl⟩⟩
  · rename_i d2 δ' G2 eb
    cases e
    exact ⟨_, δ', eb, .inr rfl⟩
  · cases e
/-- a def (or method) of the text does what its mirror does, if its body does -/
theorem fn_m {P : Program} {w : World} {K : PySem.W.Frag} {kx : Kx} {mg : Str → Option Value} {base : Heap} {k l : Nat} {x qual : Str} {st : Stmt} {f : Addr} {fd : FuncData} {N ps : List Str} {mb : MS} (F : Fun K x qual st f fd) (S : FnScope N ps (defScope st)) (hN : N.length = ps.length + l)
    (hbody : ∀ (cdv : Value) (A : Around) (outer : List Env) (s : Shared) (H : Hp) (E : XK), Room k (A.deeper (envOfC qual (defScope st) s.heap.objs.size f cdv)) → A.guards = some [] →
      PSs (cxOf CX0 P w K mg base N qual (defScope st) f cdv A outer s H E).nox (defBody st) (sM K kx mb)) :
    FnM P w K kx mg base (k + 1) f fd ps (Mi.mDef ps.length l mb) := by
  refine ⟨fun _ _ _ e => def_args e, fun A outer s H args us vs Q ρ G ds d G' quiet hr env hb r rl dr e q => ?_⟩
  have hl : vs.length = ps.length := dr.len ▸ def_args e
  obtain ⟨fl, δ', eb, out⟩ := def_body e
  refine entered F S hr env hb r hl (fun cdv deep => (hbody cdv A outer s H E0 deep quiet).nox) ⟨ρ, G, _, fl, δ', G', rl, sr_start dr (by rw [hN, hl]), eb, fun ρ' σ' H' g r' _ => ?_⟩
  rcases out with ⟨rfl, rfl⟩ | rfl
  · exact q _ ρ' H' g r' .non
  · exact fun v dv => q v ρ' H' g r' dv
/-! ### isinstance(x, C), C an own class, x of it -/
def mIsC (cn : Nat) (a : ME) : ME := Mi.m1 (fun x G => match x with
  | .ref h => match G[h]? with
    | some (.ins c _) => if c = cn then some (.bl true, G) else none
    | _ => none
  | _ => none) a
theorem m_isC {X : Cx} {kx : Kx} {a : Expr} {ma : ME} {pos : Pos} {cn : Nat} {y : Str} {p p2 : Pos} (c : C8.InsC X.K (kx.ca cn)) (hm : X.mg "isinstance" = none) (hmC : X.mg y = some (.ref (kx.ca cn))) (ha : PE X a (tM X.K kx ma))
    (hg : Gl X "isinstance" := by rfl) (hgC : Gl X y := by rfl) (hdy : (y == ("__debug__" : Str)) = false := by decide)
    (he : starEach [a, .Name y p2] X.env = (false, eval a X.env) :: starEach [.Name y p2] X.env := by rfl) (hpl : (backTo pos (starEach [.Name y p2] X.env)).any (·.1) = false := by rfl) (hs : starEach [.Name y p2] X.env = (false, eval (.Name y p2) X.env) :: starEach [] X.env := by rfl) :
    PE X (.Call (.Name "isinstance" p) [a, .Name y p2] [] pos) (tM X.K kx (mIsC cn ma)) := by
  refine (pe_callB (C8.call_isC c) hg hm (by decide +kernel) (pa_cons ha (pa_cons (pe_glob hgC hmC (v := .ref (kx.ca cn)) rfl hdy) pa_nil hs) he) (by decide) (by decide) he hpl).imp fun σ H Q ⟨ρ, G, δ, d, G', rl, sr, em, k⟩ => ?_
  obtain ⟨x, G1, e1, e⟩ := Mi.bnd_eq em
  refine ⟨ρ, G, δ, x, G1, rl, sr, e1, fun v ρ1 H1 g1 r1 d1 => ?_⟩
  cases x with
  | ref h =>
    dsimp only at e
    cases d1 with
    | @ref _ ad ea =>
      split at e
      · rename_i c' fs eh
        split at e
        · rename_i hc
          subst hc
          obtain ⟨dx, fs', h1, fr⟩ := ins_at r1 eh ea
          have e' := Option.some.inj e
          cases e'
          exact ⟨ad, dx, fs', rfl, h1, k _ ρ1 H1 g1 r1 (.bl true)⟩
        · exact absurd e (fun z => nomatch z)
      · exact absurd e (fun z => nomatch z)
  | _ => exact absurd e (fun z => nomatch z)

/-! ### the law's end -/
/-- what the top holds beside: tuples of ints -/
structure Held (K : PySem.W.Frag) (h : Heap) (ts : List (Addr × List Int)) : Prop where
  at_ : ∀ p ∈ ts, ∃ (o : Obj) (its : Array Value) (n : Nat), h.get? p.1 = some o ∧ o.cls = .type "tuple" ∧ o.data = .seq its n ∧ its.size ≤ sizeLine ∧ Vals (p.2.map V.int) its.toList
/-- True, and all that stood there ahead stands as it did -/
def SaysTrue (s : Shared) (r : Result) (s' : Shared) : Prop := r = .ok (.ret (.bool true)) ∧ OldK s.heap s'.heap ∧ s'.os = s.os ∧ AllBare s'.gens
/-- the law's call has said True, and all that it was given stands still: nothing old has changed -/
theorem said_true {P : Program} {w : World} {H : Hp} {s : Shared} (held : HOk P w H s.heap) (still : ∀ b u, H b = some u → ∃ ob y, u = .frz ob y) :
    ∀ (r : Result) (s' : Shared), CR CX0 [] P w H s (fun v _ => v = V.bl true) E0 r s' → SaysTrue s r s' := by
  have value : ∀ (u : Value) (s' : Shared), CE [] P w H s (fun v _ => v = V.bl true) u s' → u = .bool true ∧ OldK s.heap s'.heap ∧ s'.os = s.os ∧ AllBare s'.gens := by
    intro u s' told
    have ⟨v, H', same_os, no_gens, un, held', rv, said⟩ := told
    have ev : v = V.bl true := said
    refine ⟨by rw [ev] at rv; exact rv, OldK.of_keep fun b o there => ?_, same_os, no_gens⟩
    by_cases z : H b = none
    · exact un.keep b o there z List.not_mem_nil List.not_mem_nil
    · obtain ⟨y, eH⟩ := Option.ne_none_iff_exists'.mp z
      obtain ⟨ob, z, ey⟩ := still b y eH
      rw [ey] at eH
      have was := (held b _ eH).1
      have is := (held' b _ (un.frzs b ob z eH)).1
      exact is.trans (was.symm.trans there)
  intro r s' told
  match r, told with
  | .ok (.ret u), told =>
    obtain ⟨eu, rest⟩ := value u s' told
    exact ⟨by rw [eu], rest⟩
/-- all numbers of a script are whole: the promise of the law's def -/
theorem law_m {P : Program} {w : World} {K : PySem.W.Frag} {mg mb : Str → Option Value} {k : Nat} {fa a : Addr} {fd : FuncData} {x : Str} {kx : Kx} {mf : MF} {s₁ : Shared} {vs : List Value} {ns : List Int} {G' : Sto} {ts : List (Addr × List Int)}
    (kin : K.In s₁.heap) (hns : s₁.heap.Ns mainGlobals mg) (hb : s₁.heap.Ns builtinsNs mb) (hbb : ∀ x : Str, x ≠ "__name__" → mb x = bootBuiltins x) (nol : s₁.heap.NoLimit) (hg : s₁.gens = #[])
    (ha : s₁.heap.get? a = some { cls := .type "list", data := .seq vs.toArray }) (hi : IntsAre vs ns) (hl : ns.length ≤ sizeLine) (hr : Room k callerA) (hT : Held K s₁.heap ts)
    (hcs : kx.cs = ts.map fun p => (V.ref p.1, Dv.tup (p.2.map Dv.int)))
    (F : ∀ base : Heap, K.In base → base.Ns mainGlobals mg → FnM P w K kx mg base k fa fd [x] mf) (hbind : ∀ (s : Shared) (u : Value), BindsTo s fd ⟨[u], []⟩ [(x, u)])
    (run : mf [.scr ns] [] = some (.bl true, G')) :
    codeAny (model P w) callerA (.call (.ref fa) ⟨[.ref a], []⟩) (SaysTrue s₁) s₁ := by
  classical
  have rv := vals_ints hi
  have lenV := hi.length
  -- what is tracked: the script and the held tuples, where K does not hold them
  let TH : Addr → HO → Prop := fun b u => K.lookup b = none ∧ ((b = a ∧ u = .frz { cls := .type "list", data := .seq vs.toArray } (.lst (ns.map V.int))) ∨ ∃ p ∈ ts, p.1 = b ∧ ∃ o, s₁.heap.get? b = some o ∧ u = .frz o (.tup (p.2.map V.int)))
  have one : ∀ {b u u'}, TH b u → TH b u' → u = u' := by
    rintro b u u' ⟨_, c⟩ ⟨_, c'⟩
    rcases c with ⟨rfl, rfl⟩ | ⟨p, hp, ep, o, eo, rfl⟩ <;> rcases c' with ⟨eb, rfl⟩ | ⟨p', hp', ep', o', eo', rfl⟩
    · rfl
    · obtain ⟨o2, its, n, e1, e2, _⟩ := hT.at_ p' hp'
      rw [ep', ha] at e1
      cases e1
      exact absurd (show Value.type "list" = Value.type "tuple" from e2) (by decide)
    · obtain ⟨o2, its, n, e1, e2, _⟩ := hT.at_ p hp
      rw [ep, eb, ha] at e1
      cases e1
      exact absurd (show Value.type "list" = Value.type "tuple" from e2) (by decide)
    · obtain ⟨o1, its, n, e1, _, d1, _, v1⟩ := hT.at_ p hp
      obtain ⟨o2, its', n', e2, _, d2, _, v2⟩ := hT.at_ p' hp'
      rw [ep] at e1
      rw [ep'] at e2
      rw [eo] at e1 eo'
      cases e1
      cases eo'
      rw [eo] at e2
      cases e2
      rw [d1] at d2
      cases d2
      have i1 : IntsAre its.toList p.2 := Vals.ints v1
      have i2 : IntsAre its.toList p'.2 := Vals.ints v2
      have : p.2 = p'.2 := by rw [← i1.numsOf, ← i2.numsOf]
      rw [this]
  let H : Hp := fun b => if z : ∃ u, TH b u then some z.choose else none
  have Hs : ∀ {b u}, TH b u → H b = some u := fun {b u} t => by
    have z : ∃ u, TH b u := ⟨u, t⟩
    show (if z : ∃ u, TH b u then some z.choose else none) = some u
    rw [dif_pos z, one z.choose_spec t]
  have Ht : ∀ {b u}, H b = some u → TH b u := fun {b u} e => by
    have e' : (if z : ∃ u, TH b u then some z.choose else none) = some u := e
    split at e'
    · rename_i z
      cases e'
      exact z.choose_spec
    · cases e'
  have hok : HOk P w H s₁.heap := fun b u e => by
    obtain ⟨_, c⟩ := Ht e
    rcases c with ⟨rfl, rfl⟩ | ⟨p, hp, rfl, o, eo, rfl⟩
    · exact ⟨ha, by rw [List.length_map]; exact hl, vs, _, rv, ha⟩
    · obtain ⟨o2, its, n, e1, e2, d2, sz, v2⟩ := hT.at_ p hp
      rw [eo] at e1
      cases e1
      refine ⟨eo, ?_, its.toList, v2, ?_⟩
      · rw [v2.length, Array.length_toList]
        exact sz
      · exact ⟨o, eo, e2, n, d2⟩
  have hnK : ∀ b o, K.lookup b = some o → H b = none := fun b o e => by
    cases q : H b with
    | none => rfl
    | some u =>
      have := (Ht q).1
      rw [this] at e
      cases e
  have nodict : ∀ {b : Addr} {o : Obj} {es : Array DictEntry} {ep : Nat}, s₁.heap.get? b = some o → o.data = .dict es ep → H b = none := fun {b o es ep} e d => by
    cases q : H b with
    | none => rfl
    | some u =>
      obtain ⟨_, c⟩ := Ht q
      rcases c with ⟨rfl, rfl⟩ | ⟨p, hp, rfl, o', eo, rfl⟩
      · rw [ha] at e
        cases e
        exact absurd (show Data.seq vs.toArray _ = Data.dict es ep from d) (fun z => nomatch z)
      · obtain ⟨o2, its, n, e1, _, d2, _⟩ := hT.at_ p hp
        rw [e] at e1
        cases e1
        rw [d] at d2
        cases d2
  have ob : ∀ {b : Addr} {o : Obj}, s₁.heap.get? b = some o → H b = none → (hidT s₁.heap H).get? b = some o := fun e n => hidT_get e n
  have nsK : ∀ {b : Addr} {m : Str → Option Value}, s₁.heap.Ns b m → (hidT s₁.heap H).Ns b m := fun {b m} ⟨o, es, ep, e, d, r⟩ => ⟨o, es, ep, ob e (nodict e d), d, r⟩
  have kinb : K.In (hidT s₁.heap H) := fun b o e => ob (kin b o e) (hnK b o e)
  have hM : Mod K mg (hidT s₁.heap H) := ⟨kinb, nsK hns, ⟨mb, nsK hb, hbb⟩, let ⟨mc, h1, h2⟩ := nol; ⟨mc, nsK h1, h2⟩⟩
  have e0 : Env0 P w K mg (hidT s₁.heap H) callerA [] s₁ H :=
    ⟨rfl, hM, fun b o e => of_hidT e, Nat.le_of_eq (hidT_size _ _), trivial, fun b hb => absurd (show b ∈ ([] : List Addr) from hb) (by simp), hok, .of_eq hg⟩
  have dints : ∀ (ρ : Rh) (ms : List Int), DRs K ρ H (ms.map Dv.int) (ms.map V.int) := fun ρ ms => by
    induction ms with
    | nil => exact .nil
    | cons m ms ih => exact .cons (.int m) ih
  have rl : Rl K kx ⟨[], []⟩ [] H := by
    refine ⟨rfl, List.nodup_nil, fun h o e => by simp at e, fun q hq => ?_, fun b hb => by simp at hb⟩
    rw [hcs] at hq
    have ⟨p, hp, ep⟩ := List.mem_map.mp hq
    subst ep
    refine .tup ?_ (dints _ p.2)
    obtain ⟨o, its, n, e1, e2, d2, sz, v2⟩ := hT.at_ p hp
    cases hk : K.lookup p.1 with
    | none => exact .inl (.inr ⟨o, Hs ⟨hk, .inr ⟨p, hp, rfl, o, e1, rfl⟩⟩⟩)
    | some o' =>
      have e3 := kin _ _ hk
      rw [e1] at e3
      cases e3
      exact .inr ⟨o, its, n, hk, e2, d2, sz, v2⟩
  have sc : DR K ⟨[], []⟩ H (.scr ns) (.ref a) := by
    refine .scr ?_
    cases hk : K.lookup a with
    | none => exact .inl ⟨_, Hs ⟨hk, .inl ⟨rfl, rfl⟩⟩⟩
    | some o =>
      have e3 := kin _ _ hk
      rw [ha] at e3
      cases e3
      exact .inr ⟨_, vs.toArray, _, hk, rfl, rfl, rfl, by rw [List.size_toArray, lenV]; exact hl, by simpa using rv⟩
  have still : ∀ b u, H b = some u → ∃ ob y, u = .frz ob y := fun b u e => by
    rcases (Ht e).2 with ⟨_, z⟩ | ⟨_, _, _, _, _, z⟩ <;> exact ⟨_, _, z⟩
  exact codeAny_mono ((F _ kinb (nsK hns)).run callerA [] s₁ H ⟨[.ref a], []⟩ [.ref a] [.ref a] (fun v _ => v = .bl true) ⟨[], []⟩ [] [.scr ns] _ G' rfl hr e0 (hbind s₁ (.ref a)) (.cons rfl .nil) rl (.cons sc .nil) run fun v ρ' H' g r d => by cases d; rfl) (said_true hok still)
/-- a loose name that is a number, a tuple of numbers -/
theorem loose_int {lv : List (Str × PySem.W.WData)} {mg : Str → Option Value} {h : Heap} {x : Str} {i : Int} (L : PySem.W.LooseAre lv mg h) (e : lv.lookup x = some (.int i)) : ∃ t, mg x = some (.int i t) := by
  obtain ⟨v, h1, h2⟩ := L.val _ (PySem.W.mem_lookup e)
  cases h2
  exact ⟨_, h1⟩
theorem reads_ints {h : Heap} : ∀ {vs : List Value} {ns : List Int} {as : List Addr}, PySem.W.ReadsAllW [] (fun _ => none) h vs (ns.map PySem.W.WData.int) as → Vals (ns.map V.int) vs
  | [], [], _, _ => .nil
  | _ :: _, [], _, z => nomatch z
  | [], _ :: _, _, z => nomatch z
  | v :: vs, n :: ns, as, r => by
    rw [List.map_cons] at r
    cases r with
    | cons r1 r2 =>
      cases r1
      exact .cons ⟨_, rfl⟩ (reads_ints r2)
theorem loose_tup {K : PySem.W.Frag} {lv : List (Str × PySem.W.WData)} {mg : Str → Option Value} {h : Heap} {x : Str} {ns : List Int} (L : PySem.W.LooseAre lv mg h) (e : lv.lookup x = some (.tuple (ns.map PySem.W.WData.int))) (hz : ns.length ≤ sizeLine) :
    ∃ t, mg x = some (.ref t) ∧ Held K h [(t, ns)] := by
  obtain ⟨v, h1, h2⟩ := L.val _ (PySem.W.mem_lookup e)
  have e2 : ∀ d, d = PySem.W.WData.tuple (ns.map PySem.W.WData.int) → PySem.W.ReadsLit h v d [] → ∃ t, v = .ref t ∧ Held K h [(t, ns)] := by
    intro d hd r
    cases r <;> first | cases hd | skip
    rename_i a o vs n g1 g2 g3 g4
    have q := reads_ints g4
    refine ⟨a, rfl, ⟨fun p hp => ?_⟩⟩
    obtain rfl : p = (a, ns) := by simpa using hp
    refine ⟨o, vs, n, g1, g2, g3, ?_, q⟩
    have := q.length
    rw [List.length_map] at this
    rw [← Array.length_toList, ← this]
    exact hz
  obtain ⟨t, rfl, ht⟩ := e2 _ rfl h2
  exact ⟨t, h1, ht⟩
/-- the goal that k_head leaves -/
theorem walk_m {l : PySem.W.OpenLaw} {n k : Nat} {q : Program} {lq : Program} {loose : List Str} {lv : List (Str × PySem.W.WData)} {YP : World → Heap → Prop} {d : DefRec} {K : Params → PySem.W.Frag} {x : Str} {mf : MF}
    (hn : l.most = some n) (hn2 : n ≤ sizeLine) (hdf : d.params.defaults = []) (hr : Room k callerA) (hY : ∀ w h, YP w h → (K w.params).In h)
    (F : ∀ (w : World) (mg : Str → Option Value) (fa : Addr) (h : Heap), (K w.params).In h → h.Ns mainGlobals mg → mg d.name = some (.ref fa) → PySem.W.LooseAre lv mg h →
      ∃ (fd : FuncData) (kx : Kx) (ts : List (Addr × List Int)), Held (K w.params) h ts ∧ (kx.cs = ts.map fun p => (V.ref p.1, Dv.tup (p.2.map Dv.int))) ∧ (∀ (s : Shared) (u : Value), BindsTo s fd ⟨[u], []⟩ [(x, u)]) ∧
        ∀ base : Heap, (K w.params).In base → base.Ns mainGlobals mg → FnM l.prog w (K w.params) kx mg base k fa fd [x] mf)
    (run : ∀ ns : List Int, ns.length ≤ n → ∃ G', mf [.scr ns] [] = some (.bl true, G')) :
    PySem.W.WalkO q loose (PySem.W.XL lq lv) YP l.row.toRowW d [] (fun f vs => PySem.call f vs) := by
  refine Att.attach_call hn hdf ?_
  intro w s₀ s₁ mg mb fa _ _ _ _ _ _ ns top Y _ _ _ law_is script nums few quiet
  obtain ⟨fd, kx, ts, hT, hcs, hb, hF⟩ := F w mg fa _ (hY w _ Y) top.T.g law_is top.X.2
  have ⟨G', e⟩ := run ns few
  exact law_m (hY w _ Y) top.T.g top.T.b top.T.builtins top.T.nolimit quiet script nums (Nat.le_trans few hn2) hr hT hcs hF hb e
end Ms

/-! PyS7: what the top has left, in bundles; calls by them. -/
namespace Ms
open PySem L2 PyProof.Rows
open Mi (Dv MO Sto Sl Rs bnd ME MT MA MS MF Fl MG MGs MI)
/-- a def of the module stands under its name -/
structure Dfn (K : PySem.W.Frag) (mg : Str → Option Value) (x : Str) (st : Stmt) : Prop where
  ex : ∃ f fd, Fun K x x st f fd ∧ mg x = some (.ref f)
/-- a method m of the own class at C -/
structure Dfm (K : PySem.W.Frag) (C : Addr) (m qual : Str) (st : Stmt) : Prop where
  ex : ∃ f fd, Fun K m qual st f fd ∧ Meth K C m f
/-- the making of the class at C -/
structure Dfk (K : PySem.W.Frag) (mg : Str → Option Value) (C : Addr) (x qual : Str) (st : Stmt) : Prop where
  ex : ∃ f fd, Fun K "__init__" qual st f fd ∧ Mk K C f ∧ mg x = some (.ref C)
/-- the same with what they do -/
structure Cal (P : Program) (w : World) (K : PySem.W.Frag) (kx : Kx) (mg : Str → Option Value) (base : Heap) (k : Nat) (x : Str) (st : Stmt) (ps : List Str) (mf : MF) : Prop where
  ex : ∃ f fd, Fun K x x st f fd ∧ mg x = some (.ref f) ∧ FnM P w K kx mg base k f fd ps mf ∧ Binds K fd ps []
structure Met (P : Program) (w : World) (K : PySem.W.Frag) (kx : Kx) (mg : Str → Option Value) (base : Heap) (k cn : Nat) (m qual : Str) (st : Stmt) (ps : List Str) (mf : MF) : Prop where
  ex : ∃ f fd, Fun K m qual st f fd ∧ Cls K (kx.ca cn) ∧ Meth K (kx.ca cn) m f ∧ FnM P w K kx mg base k f fd ps mf ∧ Binds K fd ps []
structure Mak (P : Program) (w : World) (K : PySem.W.Frag) (kx : Kx) (mg : Str → Option Value) (base : Heap) (k cn : Nat) (x qual : Str) (st : Stmt) (ps : List Str) (mf : MF) : Prop where
  ex : ∃ f fd, Fun K "__init__" qual st f fd ∧ Mk K (kx.ca cn) f ∧ FnM P w K kx mg base k f fd ps mf ∧ mg x = some (.ref (kx.ca cn)) ∧ Binds K fd ps []
/-- how the arguments bind: by position alone -/
abbrev Bp (x qual : Str) (st : Stmt) (ps : List Str) : Prop := ∀ (kV doc pm : Value) (an : Option Addr) (cdv ct : Value) (us : List Value), us.length = ps.length →
  bindArgs (PySem.W.fnOf x qual (defArgs st) (defBody st) (defScope st) .none kV doc pm an cdv ct) ⟨us, []⟩ = pure (ps.zip us)
/-- n by position, ks by name -/
abbrev Bk (x qual : Str) (st : Stmt) (ps ks : List Str) (n : Nat) (ix : List Nat) : Prop := ∀ (kV doc pm : Value) (an : Option Addr) (cdv ct : Value) (us ws : List Value), us.length = n → ws.length = ks.length →
  bindArgs (PySem.W.fnOf x qual (defArgs st) (defBody st) (defScope st) .none kV doc pm an cdv ct) ⟨us, ks.zip ws⟩ = pure (ps.zip (pickU ix (us ++ ws)))
theorem _root_.L2.Fun.kbm {K : PySem.W.Frag} {x qual : Str} {st : Stmt} {f : Addr} {fd : FuncData} {ps ks : List Str} {n : Nat} {ix : List Nat} (F : Fun K x qual st f fd) (h : Bk x qual st ps ks n ix) : KBm fd ps ks n ix := by
  have ⟨_, _, kV, doc, pm, an, cdv, ct, _, e, _, _⟩ := F.ex
  subst e
  exact fun s us ws h1 h2 => .of_eq (h kV doc pm an cdv ct us ws h1 h2)
section
variable {P : Program} {w : World} {K : PySem.W.Frag} {kx : Kx} {mg : Str → Option Value} {base : Heap} {k l cn : Nat} {x m qual : Str} {st : Stmt} {N ps : List Str} {mb : MS}
/-- what is shown of a body -/
abbrev Bdy (P : Program) (w : World) (K : PySem.W.Frag) (kx : Kx) (mg : Str → Option Value) (base : Heap) (k : Nat) (N : List Str) (qual : Str) (st : Stmt) (mb : MS) : Prop :=
  ∀ (f : Addr) (cdv : Value) (A : Around) (outer : List Env) (s : Shared) (H : Hp) (E : XK), Room k (A.deeper (envOfC qual (defScope st) s.heap.objs.size f cdv)) → A.guards = some [] →
    PSs (cxOf CX0 P w K mg base N qual (defScope st) f cdv A outer s H E).nox (defBody st) (sM K kx mb)
theorem cal_of (D : Dfn K mg x st) (S : FnScope N ps (defScope st)) (hN : N.length = ps.length + l) (hb : Bp x x st ps) (b : Bdy P w K kx mg base k N x st mb) : Cal P w K kx mg base (k + 1) x st ps (Mi.mDef ps.length l mb) := by
  obtain ⟨f, fd, F, hm⟩ := D.ex
  exact ⟨f, fd, F, hm, fn_m F S hN (b f), F.binds hb⟩
theorem met_of (c : Cls K (kx.ca cn)) (D : Dfm K (kx.ca cn) m qual st) (S : FnScope N ps (defScope st)) (hN : N.length = ps.length + l) (hb : Bp m qual st ps) (b : Bdy P w K kx mg base k N qual st mb) : Met P w K kx mg base (k + 1) cn m qual st ps (Mi.mDef ps.length l mb) := by
  obtain ⟨f, fd, F, hm⟩ := D.ex
  exact ⟨f, fd, F, c, hm, fn_m F S hN (b f), F.binds hb⟩
theorem mak_of (D : Dfk K mg (kx.ca cn) x qual st) (S : FnScope N ps (defScope st)) (hN : N.length = ps.length + l) (hb : Bp "__init__" qual st ps) (b : Bdy P w K kx mg base k N qual st mb) : Mak P w K kx mg base (k + 1) cn x qual st ps (Mi.mDef ps.length l mb) := by
  obtain ⟨f, fd, F, hk, hm⟩ := D.ex
  exact ⟨f, fd, F, hk, fn_m F S hN (b f), hm, F.binds hb⟩
end
section
variable {X : Cx} {kx : Kx} {e a b c o : Expr} {ma mb mc me mo : ME} {pos p apos : Pos} {rest es : List Expr} {mas mks : MA} {k cn : Nat} {st : Stmt} {ps : List Str} {mf : MF} {x qual : Str}
theorem m_cl (c : Cal X.prog X.w X.K kx X.mg X.base k x st ps mf) (hG : X.A.guards = some []) (hr : Room k X.A) (ha : PA X (e :: es) (tMA X.K kx mas)) (hg : Gl X x := by rfl)
    (hdb : (x == ("__debug__" : Str)) = false := by decide) (he : Es X e es := by rfl) (hpl : Np X pos es := by rfl) : PE X (.Call (.Name x p) (e :: es) [] pos) (tM X.K kx (Mi.mCall mf mas)) := by
  obtain ⟨f, fd, F, hm, G, b⟩ := c.ex
  exact m_call G hG hr hm F.kp b ha hg hdb he hpl
theorem m_cl0 (c : Cal X.prog X.w X.K kx X.mg X.base k x st ps mf) (hG : X.A.guards = some []) (hr : Room k X.A) (hg : Gl X x := by rfl) (hdb : (x == ("__debug__" : Str)) = false := by decide) : PE X (.Call (.Name x p) [] [] pos) (tM X.K kx (Mi.mCall mf Mi.mNil)) := by
  obtain ⟨f, fd, F, hm, G, b⟩ := c.ex
  exact m_call0 G hG hr hm F.kp b hg hdb
theorem m_clK0 {kws : List Keyword} {ks : List Str} {ix : List Nat} (c : Cal X.prog X.w X.K kx X.mg X.base k x st ps mf) (hG : X.A.guards = some []) (hr : Room k X.A) (hb : Bk x x st ps ks 0 ix) (hl : Len mks ks.length) (hkw : PK X kws (tMA X.K kx mks)) (hg : Gl X x := by rfl)
    (hall : Ka X pos kws := by rfl) (hks : Ks X pos kws ks := by rfl) (hdb : (x == ("__debug__" : Str)) = false := by decide)
    (hpl : ((backTo pos (starEach [] X.env)).any (·.1) || (backToKw pos (keywordEach kws X.env)).any (·.1.isNone)) = false := by rfl) : PE X (.Call (.Name x p) [] kws pos) (tM X.K kx (Mi.mCallK mf ix Mi.mNil mks)) := by
  obtain ⟨f, fd, F, hm, G, b⟩ := c.ex
  exact m_callK0 G hG hr hm F.kp (F.kbm hb) hl hkw hg hall hks hdb hpl
theorem m_clK {kws : List Keyword} {ks : List Str} {n : Nat} {ix : List Nat} (c : Cal X.prog X.w X.K kx X.mg X.base k x st ps mf) (hG : X.A.guards = some []) (hr : Room k X.A) (hb : Bk x x st ps ks n ix) (hl1 : Len mas n) (hl : Len mks ks.length) (ha : PA X (e :: es) (tMA X.K kx mas)) (hkw : PK X kws (tMA X.K kx mks)) (hg : Gl X x := by rfl)
    (hall : Ka X pos kws := by rfl) (hks : Ks X pos kws ks := by rfl) (hdb : (x == ("__debug__" : Str)) = false := by decide) (he : Es X e es := by rfl)
    (hpl : ((backTo pos (starEach (e :: es) X.env)).any (·.1) || (backToKw pos (keywordEach kws X.env)).any (·.1.isNone)) = false := by rfl) : PE X (.Call (.Name x p) (e :: es) kws pos) (tM X.K kx (Mi.mCallK mf ix mas mks)) := by
  obtain ⟨f, fd, F, hm, G, b⟩ := c.ex
  exact m_callK G hG hr hm F.kp (F.kbm hb) hl1 hl ha hkw hg hall hks hdb he hpl
theorem m_mt {m : String} {pl : Sem Bool} (c : Met X.prog X.w X.K kx X.mg X.base k cn (Str.ofString m) qual st ps mf) (hG : X.A.guards = some []) (hr : Room k X.A) (ho : PE X o (tM X.K kx mo)) (ha : PA X (e :: es) (tMA X.K kx mas))
    (hst : Es X e es := by rfl) (hpl : Np X pos es := by rfl)
    (ht : eval (.Call (.Attribute o (Str.ofString m) apos) (e :: es) [] pos) X.env = (do let ov ← eval o X.env; standAt apos.atName; let (f, first) ← holding [ov] (getMethod ov (Str.ofString m) pl); callWith pos f first (backTo pos (starEach (e :: es) X.env)) (backToKw pos (keywordEach [] X.env))) := by rfl) :
    PE X (.Call (.Attribute o (Str.ofString m) apos) (e :: es) [] pos) (tM X.K kx (Mi.mMeth cn m mf mo mas)) := by
  obtain ⟨f, fd, F, hc, hm, G, b⟩ := c.ex
  exact m_meth ho hc hm G hG hr b ha hst hpl ht
theorem m_mt0 {m : String} {pl : Sem Bool} (c : Met X.prog X.w X.K kx X.mg X.base k cn (Str.ofString m) qual st ps mf) (hG : X.A.guards = some []) (hr : Room k X.A) (ho : PE X o (tM X.K kx mo))
    (ht : eval (.Call (.Attribute o (Str.ofString m) apos) [] [] pos) X.env = (do let ov ← eval o X.env; standAt apos.atName; let (f, first) ← holding [ov] (getMethod ov (Str.ofString m) pl); callWith pos f first (backTo pos (starEach [] X.env)) (backToKw pos (keywordEach [] X.env))) := by rfl) :
    PE X (.Call (.Attribute o (Str.ofString m) apos) [] [] pos) (tM X.K kx (Mi.mMeth cn m mf mo Mi.mNil)) := by
  obtain ⟨f, fd, F, hc, hm, G, b⟩ := c.ex
  exact m_meth0 ho hc hm G hG hr b ht
theorem m_mtK0 {kws : List Keyword} {ks : List Str} {ix : List Nat} {m : String} {pl : Sem Bool} (c : Met X.prog X.w X.K kx X.mg X.base k cn (Str.ofString m) qual st ps mf) (hG : X.A.guards = some []) (hr : Room k X.A) (hb : Bk (Str.ofString m) qual st ps ks 1 ix) (hl : Len mks ks.length) (ho : PE X o (tM X.K kx mo)) (hkw : PK X kws (tMA X.K kx mks))
    (hall : Ka X pos kws := by rfl) (hks : Ks X pos kws ks := by rfl)
    (hpl : ((backTo pos (starEach [] X.env)).any (·.1) || (backToKw pos (keywordEach kws X.env)).any (·.1.isNone)) = false := by rfl)
    (ht : eval (.Call (.Attribute o (Str.ofString m) apos) [] kws pos) X.env = (do let ov ← eval o X.env; standAt apos.atName; let (f, first) ← holding [ov] (getMethod ov (Str.ofString m) pl); callWith pos f first (backTo pos (starEach [] X.env)) (backToKw pos (keywordEach kws X.env))) := by rfl) :
    PE X (.Call (.Attribute o (Str.ofString m) apos) [] kws pos) (tM X.K kx (Mi.mMethK cn m mf ix mo Mi.mNil mks)) := by
  obtain ⟨f, fd, F, hc, hm, G, b⟩ := c.ex
  exact m_methK0 ho hc hm G hG hr (F.kbm hb) hl hkw hall hks hpl ht
theorem m_mk (c : Mak X.prog X.w X.K kx X.mg X.base k cn x qual st ps mf) (hG : X.A.guards = some []) (hr : Room (k + 1) X.A) (ha : PA X (e :: es) (tMA X.K kx mas)) (hg : Gl X x := by rfl)
    (hdb : (x == ("__debug__" : Str)) = false := by decide) (he : Es X e es := by rfl) (hpl : Np X pos es := by rfl) : PE X (.Call (.Name x p) (e :: es) [] pos) (tM X.K kx (Mi.mMake cn mf mas)) := by
  obtain ⟨f, fd, F, hk, G, hm, b⟩ := c.ex
  exact m_make hk G hG hr hm b ha hg hdb he hpl
/-- a tuple that the top holds -/
theorem m_globT {d : Dv} (h : ∃ t, X.mg x = some (.ref t) ∧ (V.ref t, d) ∈ kx.cs) (hg : Gl X x := by rfl) (hd : (x == ("__debug__" : Str)) = false := by decide) : PE X (.Name x pos) (tM X.K kx (Mi.mC d)) := by
  obtain ⟨t, h1, h2⟩ := h
  exact m_glob (v := .ref t) h1 rfl h2 hg hd
end
theorem u1 {A : Around} {k : Nat} (h : Room k A) : A.units + 1 < cLine := by have := h.un; omega
theorem u64 {A : Around} {k : Nat} (h : Room k A) : A.units + 64 < cLine := by have := h.un; omega
end Ms

/-! PyTw: whatever hands out a new tuple at each turn (WalksT of the library) is something to be walked. -/
namespace Ms
open PySem L2 PyProof.Rows
/-- the new tuples' items at turn i are told by out -/
def ItW (go : Nat → Hp → Prop) (out : Nat → Hp → List V → Prop) (stop : Nat → Hp → Prop) : It where
  go := go
  yld := fun i H v H' => ∃ T xs, v = .ref T ∧ H T = none ∧ H' = upd H T (.tup xs) ∧ out i H xs
  stop := stop
/-- a walk of the library at hand: at turn i of n -/
structure AtW (P : Program) (w : World) (A : Around) (e : Addr) (ch : List Addr) (tn : Nat → Heap → Prop) (h : Heap) (i n : Nat) (Pt : Nat → Array Value → Prop) : Prop where
  ex : ∃ fp wr St Mid, WalksT P w A e fp wr n Pt St Mid ∧ (∀ b ∈ wr, b ∈ ch) ∧ St i h ∧ ∀ j h', St j h' → tn j h'
theorem turn_of_walks {P : Program} {w : World} {K : PySem.W.Frag} {elts : List Expr} {kk : Nat} {tpos : Pos} {e : Addr} {ch : List Addr} {go stop : Nat → Hp → Prop} {out : Nat → Hp → List V → Prop} {tn : Nat → Heap → Prop}
    (front : e ∈ ch) (plain : ∀ i h, tn i h → ∀ b ∈ ch, ∃ o, h.get? b = some o ∧ ∀ v, o.data ≠ .cell v) (stay : ∀ i h h', tn i h → (∀ b ∈ ch, ∀ o, h.get? b = some o → h'.get? b = some o) → tn i h')
    (again : ∀ (A : Around) (i : Nat) (s : Shared) (Q E : Value → Shared → Prop), tn i s.heap → Q (.ref e) s → wpAny (model P w) A (pyIter (.ref e)) Q E s)
    (goes : ∀ X : Cx, X.prog = P → X.w = w → X.K = K → X.A.in1.handled = none → ∀ i pins σ H s, Inv X pins σ H s → tn i s.heap → go i H →
      ∃ n Pt, AtW P w X.A e ch tn s.heap i n Pt ∧ i < n ∧ ∀ vals, Pt i vals → ∃ xs, out i H xs ∧ xs.length ≤ sizeLine ∧ Vals xs vals.toList)
    (ends : ∀ X : Cx, X.prog = P → X.w = w → X.K = K → X.A.in1.handled = none → ∀ i pins σ H s, Inv X pins σ H s → tn i s.heap → stop i H → ∃ Pt, AtW P w X.A e ch tn s.heap i i Pt) :
    Turn P w K (.Tuple elts kk tpos) (ItW go out stop) ch e tn := by
  refine ⟨front, plain, stay, ?turn, ?last, again⟩
  case turn =>
    intro X eP ew eK calm i pins s σ H E I own here g
    obtain ⟨n, Pt, ⟨fp, wr, St, Mid, W, sub, now, told⟩, lt, give⟩ := goes X eP ew eK (I.ok.hd calm) i pins σ H s I here g
    refine W.item i s _ _ lt now fun T vals h1 tk pt far tup mid k1 => ⟨.ref T, rfl, ?_⟩
    refine W.go elts kk tpos i T { s with heap := h1, toks := tk } _ _ mid fun h2 next k2 => ?_
    obtain ⟨xs, ho, short, read⟩ := give vals pt
    have tup2 : h2.IsTuple T vals := tup.at fun o q => k2 T o (W.apart i T h1 mid) q
    have kept : ∀ b o, b ∉ ch → s.heap.get? b = some o → h2.get? b = some o := fun b o nb q => k2 b o (fun z => nb (sub b z)) (k1 b o (fun z => nb (sub b z)) q)
    have J : Inv X pins σ (upd H T (.tup xs)) { s with heap := h2, toks := tk } := I.turnedNew kept own far ⟨short, vals.toList, read, tup2⟩
    refine ⟨.ref T, _, J, rfl, ⟨T, xs, rfl, I.hok.fresh far, rfl, ho⟩, told _ _ next, fun b hb => ?_⟩
    obtain ⟨o, there, _⟩ := plain i s.heap here b hb
    have ne : b ≠ T := fun z => Nat.lt_irrefl _ (Nat.lt_of_lt_of_le (z ▸ Heap.lt_size there) far)
    exact (upd_ne ne).trans (own b hb).1
  case last =>
    intro X eP ew eK calm i pins s σ H E I own here g
    obtain ⟨Pt, ⟨fp, wr, St, Mid, W, sub, now, told⟩⟩ := ends X eP ew eK (I.ok.hd calm) i pins σ H s I here g
    exact W.done s _ _ now fun h1 tk k => ⟨rfl, I.turnedL (fun b o nb q => k b o (fun z => nb (sub b z)) q) own⟩
/-- cells behind the end are nobody's -/
theorem fresh_ch {X : Cx} {pins : List (Addr × Obj)} {σ : L2.St} {H : Hp} {s : Shared} {ch : List Addr} (I : Inv X pins σ H s) (far : ∀ b ∈ ch, s.heap.objs.size ≤ b) : ∀ b ∈ ch, FpOk X pins H b :=
  fun b hb => I.fpOk (far b hb) (I.hok.fresh (far b hb))
theorem two_line : 2 ≤ sizeLine := by decide
/-- an item by its place -/
theorem item_at {α : Type} {xs : List α} {i : Nat} {x y : α} (hx : xs[i]? = some x) (hy : xs.toArray[i]? = some y) : y = x := by
  rw [List.getElem?_toArray, hx] at hy
  injection hy with q
  exact q.symm
end Ms

/-! PyS8: {} ; += ; max of a tuple whose items are one and the same. -/
namespace Ms
open PySem L2 PyProof.Rows
open Mi (Dv MO Sto Sl Rs bnd ME MT MA MS MF Fl MG MGs MI)
def mDct0 : ME := fun _ G => some (.ref G.length, G ++ [.dct []])
theorem m_dct0 {X : Cx} {kx : Kx} {pos : Pos} : PE X (.Dict [] [] pos) (tM X.K kx mDct0) := pe_dnewK.imp fun σ H Q ⟨ρ, G, δ, d, G', rl, sr, e, k⟩ => by
  cases e
  intro p hp
  obtain ⟨g, r⟩ := rl.grow (p := p) (o := .dK []) (m := .dct []) hp fun g => .dct upd_same .nil
  exact k _ _ _ g r (.ref (by rw [← rl.len]; show (ρ.r ++ [p])[ρ.r.length]? = some p; rw [List.getElem?_append_right (Nat.le_refl _)]; simp))
def bAddI : Mi.B2 := fun x y G => match x, y with
  | .int i, .int j => some (.int (i + j), G)
  | _, _ => none
theorem b_addI {X : Cx} {kx : Kx} : B2ok X kx bAddI (rI0 fun i j => .int (i + j)) := by
  intro x y G d G' ρ H v w Q e rl dx dy k
  unfold bAddI at e
  split at e
  · cases e
    cases dx
    cases dy
    exact ⟨_, _, rfl, rfl, k _ ρ H Gr.refl rl (.int _)⟩
  · cases e
theorem b_addR {X : Cx} {kx : Kx} : B2ok X kx bAddI rAdd := b_addI
theorem b_subR {X : Cx} {kx : Kx} : B2ok X kx Mi.bSub rSub := b_sub

open Classical in
/-- max(t): t's items are all the same tuple of whole numbers -/
noncomputable def fMaxT : List Dv → Sto → Rs Dv
  | [.tup (x :: xs)], G => if (∀ y ∈ xs, y = x) ∧ (∃ ns : List Int, x = .tup (ns.map Dv.int)) then some (x, G) else none
  | _, _ => none
def rMaxT (K : PySem.W.Frag) : List V → Hp → VK → Prop := fun xs H Q => ∃ (a : Addr) (y : V) (ys : List V) (ns : List Int), xs = [.ref a] ∧ SqT K H a (y :: ys) ∧ (∀ z ∈ y :: ys, ∃ t, z = .ref t ∧ SqT K H t (ns.map V.int)) ∧ Q y H
theorem lex_flat (r : Nat → Bool) : ∀ (k i : Nat), Ob.lexAt (fun _ => true) r false i k = false
  | 0, _ => rfl
  | k + 1, i => by rw [Ob.lexAt_succ, if_pos rfl]; exact lex_flat r k (i + 1)
/-- > of two tuples with the same whole numbers: false (the library's order of tuples, item by item) -/
theorem same_gt {prog : Program} {w : World} {A : Around} {s : Shared} {t t' : Addr} {xs xs' : Array Value} {ns : List Int} {Q E : Value → Shared → Prop} (p : s.heap.IsTuple t xs) (p' : s.heap.IsTuple t' xs') (z : IntsAre xs.toList ns) (z' : IntsAre xs'.toList ns) (hu : A.units < cLine) (q : Q (.bool false) s) :
    wpAny (model prog w) A (richCompare .Gt (.ref t) (.ref t')) Q E s := by
  have l : xs.size = ns.length := by rw [← z.length, Array.length_toList]
  have l' : xs'.size = ns.length := by rw [← z'.length, Array.length_toList]
  have c := Ob.RcOp.tuples_gt (A := A) (s := s) (e := fun _ => true) (r := fun _ => false) p p' hu (fun j h1 h2 => by
    obtain ⟨t1, e1⟩ := PyProof.Rows.IntsAre.int_at z j xs[j] (by simp [Array.getElem?_eq_getElem h1])
    obtain ⟨t2, e2⟩ := PyProof.Rows.IntsAre.int_at z' j xs'[j] (by simp [Array.getElem?_eq_getElem h2])
    rw [e1, e2]
    have both : (ns.getD j 0 == ns.getD j 0) = true := beq_self_eq_true _
    rw [← both]
    exact SeqAt.EqAt.int_int _ _ _ _) (fun j h1 h2 no => nomatch no)
  rw [l, l', show decide (ns.length > ns.length) = false from decide_eq_false (Nat.lt_irrefl _), lex_flat] at c
  exact c _ _ _ _ q
theorem first_best : ∀ k, argBest (fun _ _ => false) k = 0
  | 0 => rfl
  | k + 1 => by rw [argBest]; exact first_best k
theorem cr_maxT {X : Cx} {k : Nat} (hc : X.calm = true) (hr : Room k X.A) : CallR X (.builtin "max") (rMaxT X.K) := by
  rintro pins s σ H _ us Q I r ⟨a, y, ys, ns, rfl, ha, hall, q⟩
  rw [Vals.ref1 r]
  obtain ⟨its, items, there, _⟩ := I.tuple ha
  have one : ∀ {u : Value}, u ∈ its → ∃ t xs, u = .ref t ∧ s.heap.IsTuple t xs ∧ IntsAre xs.toList ns := fun {u} hu => by
    obtain ⟨i, hi, ei⟩ := List.mem_iff_getElem.mp hu
    have hi' : i < (y :: ys).length := items.length ▸ hi
    obtain ⟨t, et, ht⟩ := hall _ (List.getElem_mem hi')
    obtain ⟨v, ev, rv⟩ := items.get (List.getElem?_eq_getElem hi')
    rw [List.getElem?_eq_getElem hi, ei] at ev
    cases ev
    rw [et] at rv
    obtain ⟨xs, nums, tup, _⟩ := I.tuple ht
    exact ⟨t, _, rv, tup, by simpa using (show IntsAre xs ns from Vals.ints nums)⟩
  have units : X.A.in1.units < cLine := by have := hr.un; show X.A.units + 1 < _; omega
  have flat : CmpIn X.prog X.w X.A.in1 .Gt s.heap (fun i v => its.toArray[i]? = some v) (fun _ _ => false) := fun i j u v s' Q' E' kp hu hv q' => by
    obtain ⟨t, xs, rfl, p, z⟩ := one (by simpa using Array.mem_of_getElem? hu)
    obtain ⟨t', xs', rfl, p', z'⟩ := one (by simpa using Array.mem_of_getElem? hv)
    exact same_gt (p.at fun o e => kp _ o e) (p'.at fun o e => kp _ o e) z z' units q'
  refine call_max_walkH (PySem.W.iter_tupleW (A := X.A.in1) (I.ok.hd hc) there fun s2 e W st low nw kp => ⟨_, _, _, _, _, _, _, s.heap, fun _ _ => false, rfl, W, st, low, ?_, nw, kp, flat, fun v s' pv m => ?_⟩)
  · rw [List.size_toArray, ← items.length]
    exact Nat.zero_lt_succ _
  · obtain ⟨h', tk, es, keep⟩ := PySem.W.moved_old e rfl m
    rw [first_best] at pv
    obtain ⟨u, eu, ru⟩ := items.get (i := 0) rfl
    rw [item_at eu pv, es]
    exact ⟨y, H, I.kept keep, ru, q⟩
theorem ints_dr {K : PySem.W.Frag} {ρ : Rh} {H : Hp} : ∀ {ns : List Int} {vs : List V}, DRs K ρ H (ns.map Dv.int) vs → vs = ns.map V.int
  | [], _, h => by cases h; rfl
  | n :: ns, _, h => by
    rw [List.map_cons] at h
    cases h with
    | cons a b => cases a; rw [List.map_cons, ints_dr b]
theorem f_maxT {X : Cx} {kx : Kx} : Bok X kx fMaxT (rMaxT X.K) := by
  intro xs G d G' ρ H vs Q e rl ds k
  unfold fMaxT at e
  split at e
  · rename_i x xs
    split at e
    · rename_i hz
      obtain ⟨hz, ns, ex⟩ := hz
      cases e
      subst ex
      cases ds with
      | cons a b =>
        cases b
        cases a with
        | tup h r =>
          cases r with
          | @cons _ _ v vs r1 r2 =>
            refine ⟨_, v, vs, ns, rfl, h, fun z hzm => ?_, k v ρ H Gr.refl rl r1⟩
            have one : ∀ {z : V}, DR X.K ρ H (.tup (ns.map Dv.int)) z → ∃ t, z = .ref t ∧ SqT X.K H t (ns.map V.int) := fun {z} q => by
              cases q with
              | tup h2 q2 => rw [ints_dr q2] at h2; exact ⟨_, rfl, h2⟩
            rcases List.mem_cons.mp hzm with rfl | hzm
            · exact one r1
            · obtain ⟨i, hi, ei⟩ := List.mem_iff_getElem.mp hzm
              have hl : i < xs.length := by rw [r2.len]; exact hi
              obtain ⟨w, hw, dw⟩ := r2.get (List.getElem?_eq_getElem hl)
              rw [List.getElem?_eq_getElem hi, ei] at hw
              cases hw
              rw [hz _ (List.getElem_mem hl)] at dw
              exact one dw
    · cases e
  · cases e
theorem fok1 {K : PySem.W.Frag} {kx : Kx} {c : Nat} {f : String} (h1 : Cls K (kx.ca c)) (h2 : NoAttr K (kx.ca c) (Str.ofString f)) : Fok K kx [c] f := fun d hd => by
  obtain rfl : d = c := by simpa using hd
  exact ⟨h1, h2⟩
theorem kit_own {K : PySem.W.Frag} {C : Addr} : PySem.W.kitOne K (.ref C) (.ref C) = some true := if_pos (beq_self_eq_true _)
end Ms

/-! PyZip: zip of a list and a tuple. -/
namespace Ms
open PySem L2 PyProof.Rows
open Mi (Dv MO Sto Sl Rs bnd ME MT MA MS MF Fl MG MGs MI)
/-- the pairs of the list at a and the tuple at b, as these stand at each turn -/
def Itm (K : PySem.W.Frag) (a b : Addr) : It :=
  ItW (fun i H => ∃ (xs ys : List V) (x y : V), SqL K H a xs ∧ SqT K H b ys ∧ xs[i]? = some x ∧ ys[i]? = some y)
    (fun i H vs => ∃ x y, vs = [x, y] ∧ (∀ xs, SqL K H a xs → xs[i]? = some x) ∧ ∀ ys, SqT K H b ys → ys[i]? = some y)
    (fun i H => ∃ xs ys : List V, SqL K H a xs ∧ SqT K H b ys ∧ (xs.length = i ∧ i ≤ ys.length ∨ ys.length = i ∧ i ≤ xs.length))
/-- the five cells of such a zip -/
def Zst (z TI TO i1 i2 a b : Addr) (i : Nat) (h : Heap) : Prop := (IsZip h z TI TO .none ∧ IsTupOf2 h TI (.ref i1) (.ref i2) ∧ ∃ x y, IsTupOf2 h TO x y) ∧ h.IsListIter i1 a i ∧ h.IsTupleIter i2 b i
theorem Zst.walk {P : Program} {w : World} {A : Around} {a b z TI TO i1 i2 : Addr} {i : Nat} {h : Heap} {its jts : Array Value} (no : A.in1.handled = none) (D : ZipSep2 z TI TO i1 i2 [i1, a] [i2, b]) (na : a ≠ i1) (nb : b ≠ i2) (st : Zst z TI TO i1 i2 a b i h) (p1 : h.IsList a its) (p2 : h.IsTuple b jts) :
    AtW P w A z [z, TI, TO, i1, i2] (Zst z TI TO i1 i2 a b) h i (min its.size jts.size) fun i vals => ∃ x1 x2, its[i]? = some x1 ∧ jts[i]? = some x2 ∧ vals = #[x1, x2] :=
  ⟨_, _, _, _, WalksT.zipD2 D (Draws.list no i1 a na its) (Draws.tuple no i2 b nb jts), fun c hc => by simp only [List.mem_cons, List.not_mem_nil, or_false] at hc ⊢; rcases hc with q | q | q | q <;> simp [q],
    ⟨st.1.1, st.1.2.1, st.1.2.2, ⟨st.2.1, p1⟩, ⟨st.2.2, p2⟩⟩, fun j h' z => ⟨⟨z.1, z.2.1, z.2.2.1⟩, z.2.2.2.1.1, z.2.2.2.2.1⟩⟩
theorem Zst.plain {z TI TO i1 i2 a b : Addr} (i : Nat) (h : Heap) (st : Zst z TI TO i1 i2 a b i h) (c : Addr) (hc : c ∈ [z, TI, TO, i1, i2]) : ∃ o, h.get? c = some o ∧ ∀ v, o.data ≠ .cell v := by
  obtain ⟨⟨cz, cT, _, _, cO⟩, ⟨o1, g1, _, d1⟩, o2, g2, _, d2⟩ := st
  have nf : ∀ {o : Obj} {fs : Array Value}, o.data = .fields fs → ∀ v, o.data ≠ .cell v := fun e v q => by rw [e] at q; cases q
  simp only [List.mem_cons, List.not_mem_nil, or_false] at hc
  rcases hc with q | q | q | q | q <;> subst q
  · exact ⟨_, cz, nf rfl⟩
  · exact ⟨_, cT, fun v q => nomatch q⟩
  · exact ⟨_, cO, fun v q => nomatch q⟩
  · exact ⟨o1, g1, nf d1⟩
  · exact ⟨o2, g2, nf d2⟩
theorem Zst.stay {z TI TO i1 i2 a b : Addr} (i : Nat) (h h' : Heap) (st : Zst z TI TO i1 i2 a b i h) (k : ∀ c ∈ [z, TI, TO, i1, i2], ∀ o, h.get? c = some o → h'.get? c = some o) : Zst z TI TO i1 i2 a b i h' := by
  simp only [List.forall_mem_cons] at k
  obtain ⟨kz, kT, kO, k1, k2, _⟩ := k
  obtain ⟨⟨cz, cT, x, y, cO⟩, it1, it2⟩ := st
  exact ⟨⟨kz _ cz, kT _ cT, x, y, kO _ cO⟩, it1.at k1, it2.at k2⟩
theorem turn_zipM {P : Program} {w : World} {K : PySem.W.Frag} {elts : List Expr} {kk : Nat} {tpos : Pos} {a b z TI TO i1 i2 : Addr} (D : ZipSep2 z TI TO i1 i2 [i1, a] [i2, b]) (na : a ≠ i1) (nb : b ≠ i2) :
    Turn P w K (.Tuple elts kk tpos) (Itm K a b) [z, TI, TO, i1, i2] z (Zst z TI TO i1 i2 a b) := by
  refine turn_of_walks (List.mem_cons_self ..) Zst.plain Zst.stay (fun _ _ _ _ _ st q => wpAny_pyIter_zip st.1.1 q) ?_ ?_
  · rintro X rfl rfl rfl no i pins σ H s I st ⟨xs, ys, x, y, qx, qy, hx, hy⟩
    obtain ⟨its, rx, px, _⟩ := I.list qx
    obtain ⟨jts, ry, py, _⟩ := I.tuple qy
    obtain ⟨u, eu, ru⟩ := rx.get hx
    obtain ⟨v, ev, rv⟩ := ry.get hy
    have lx := (List.getElem?_eq_some_iff.mp eu).1
    have ly := (List.getElem?_eq_some_iff.mp ev).1
    refine ⟨_, _, Zst.walk no D na nb st px.isList py, ?_, ?_⟩
    · rw [List.size_toArray, List.size_toArray, Nat.lt_min]
      exact ⟨lx, ly⟩
    · rintro vals ⟨x1, x2, e1, e2, rfl⟩
      rw [item_at eu e1, item_at ev e2]
      exact ⟨[x, y], ⟨x, y, rfl, fun l q => I.list_inj q qx ▸ hx, fun l q => I.tuple_inj q qy ▸ hy⟩, two_line, .cons ru (.cons rv .nil)⟩
  · rintro X rfl rfl rfl no i pins σ H s I st ⟨xs, ys, qx, qy, fin⟩
    obtain ⟨its, rx, px, _⟩ := I.list qx
    obtain ⟨jts, ry, py, _⟩ := I.tuple qy
    have W := Zst.walk (P := X.prog) (w := X.w) (A := X.A) no D na nb st px.isList py
    have e : min its.toArray.size jts.toArray.size = i := by
      rw [List.size_toArray, List.size_toArray, ← rx.length, ← ry.length]
      rcases fin with ⟨q, l⟩ | ⟨q, l⟩
      · rw [← q] at l ⊢; exact Nat.min_eq_left l
      · rw [← q] at l ⊢; exact Nat.min_eq_right l
    rw [e] at W
    exact ⟨_, W⟩
def iZipM (K : PySem.W.Frag) (ta : TA) : TI := fun σ H R => ta σ H fun vs H1 => ∃ a b xs ys, vs = [.ref a, .ref b] ∧ SqL K H1 a xs ∧ SqT K H1 b ys ∧ R (Itm K a b) H1
/-- zip of these two, just called -/
theorem zip_new {X : Cx} {tg : List Expr × Nat × Pos} {pins : List (Addr × Obj)} {σ : L2.St} {H : Hp} {s : Shared} {R : It → Hp → Prop} {a b : Addr} {xs ys : List V} {E : Value → Shared → Prop} (I : Inv X pins σ H s) (qx : SqL X.K H a xs) (qy : SqT X.K H b ys) (r : R (Itm X.K a b) H) :
    wpAny (model X.prog X.w) X.A (call (.type "zip") [.ref a, .ref b]) (fun v s1 => wpAny (model X.prog X.w) X.A (pyIter v) (PIE X pins σ (.Tuple tg.1 tg.2.1 tg.2.2) R) E s1) E s := by
  obtain ⟨its, _, px, _⟩ := I.list qx
  obtain ⟨jts, _, py, _⟩ := I.tuple qy
  have la : a < s.heap.objs.size := px.lt
  have lb : b < s.heap.objs.size := Heap.lt_size py.choose_spec.1
  have D := zip_sep2 (N := s.heap.objs.size) (fp1 := [a]) (fp2 := [b]) (by simpa using la) (by simpa using lb)
  refine zip_begins2 (begins_list a its.toArray) (begins_tuple b jts.toArray) px.isList py fun h' hz hT hO g1 g2 sz kp => wpAny_pyIter_zip hz ?_
  refine ⟨_, _, _, _, H, rfl, I.kept (t' := s.toks) kp, turn_zipM D (Nat.ne_of_lt la) (Nat.ne_of_lt (Nat.lt_succ_of_lt lb)), ⟨⟨hz, hT, _, _, hO⟩, ⟨_, g1, rfl, rfl⟩, ⟨_, g2, rfl, rfl⟩⟩, fresh_ch I ?_, r⟩
  simp only [List.forall_mem_cons, List.not_mem_nil, false_implies, implies_true, and_true]
  exact ⟨Nat.le_add_right _ 4, Nat.le_add_right _ 2, Nat.le_add_right _ 3, Nat.le_refl _, Nat.le_add_right _ 1⟩
theorem pi_zipM {X : Cx} {e e2 : Expr} {ta : TA} {p pos tpos : Pos} {elts : List Expr} {kk : Nat} (hg : Gl X "zip") (hm : X.mg "zip" = none) (ha : PA X [e, e2] ta)
    (hs : Es X e [e2] := by rfl) (hpl : Np X pos [e2] := by rfl) : PI X (.Tuple elts kk tpos) (.Call (.Name "zip" p) [e, e2] [] pos) (iZipM X.K ta) :=
  ⟨fun pins s σ H R I h => Call_ (ld_blt I hg hm PyProof.Rows.boot_zip (PyProof.Rows.callWith_type1 (thn (ha.run pos pins s σ H _ I h) fun us s1 ⟨vs, H1, I1, r1, a, b, xs, ys, ev, qx, qy, q⟩ => by
    subst ev
    obtain ⟨u, v, rfl, ru, rv⟩ := vals2 r1
    cases ru
    cases rv
    exact zip_new (tg := ⟨elts, kk, tpos⟩) I1 qx qy q) hs hpl))⟩
end Ms

/-! PyTm: tuple * 1, tuple * 0. -/
namespace Ms
open PySem PySem.Spec L2 PyProof.Rows
theorem mul_one (l : Addr) (items : Array Value) (n : Nat) (dd : Option Addr) (sl : Array (Option Value)) (u : Tok) (hne : items.isEmpty = false) :
    Meets (Builtin.«tuple.__mul__» ⟨[.ref l, .int 1 u], []⟩) (fun _ R s => s.heap.get? l = some { cls := .type "tuple", dict := dd, data := .seq items n, slots := sl } ∧ R (.ok (.ret (Value.ref l))) s) :=
  .of_wp fun prog w A R st both => by
    have ⟨hl, h⟩ := both
    have whole := AutoSeq1.idx_int
    cases st
    (wp_walk using wpAny_loadPart' hl)
    exact ⟨_, rfl, h⟩
theorem mul_zero (l : Addr) (items : Array Value) (n : Nat) (dd : Option Addr) (sl : Array (Option Value)) (u : Tok) (hne : items.isEmpty = false) :
    Meets (Builtin.«tuple.__mul__» ⟨[.ref l, .int 0 u], []⟩) (fun _ R s => s.heap.get? l = some { cls := .type "tuple", dict := dd, data := .seq items n, slots := sl } ∧ R (.ok (.ret (Value.ref s.heap.objs.size))) { s with heap := s.heap.push { cls := Value.type "tuple", data := Data.seq #[] } }) :=
  .of_wp fun prog w A R st both => by
    have ⟨hl, h⟩ := both
    have whole := AutoSeq1.idx_int
    cases st
    (wp_walk using wpAny_loadPart' hl)
    exact ⟨_, rfl, h⟩
def rRep01 (K : PySem.W.Frag) : R2 := fun x y H Q => ∃ l k xs, x = .ref l ∧ y = .int k ∧ SqT K H l xs ∧ xs ≠ [] ∧ ((k = 1 ∧ Q (.ref l) H) ∨ (k = 0 ∧ ∀ p, H p = none → Q (.ref p) (upd H p (.tup []))))
theorem op_rep01 {X : Cx} : OpR X (binaryOp .Mult) (rRep01 X.K) := by
  rintro pins s σ H x y v u Q I rx ry ⟨l, k, xs, rfl, rfl, hT, hne, q⟩
  obtain rfl : v = .ref l := rx
  have ⟨t, et⟩ := ry
  subst et
  have ⟨its, r, at_l, _⟩ := I.tuple hT
  obtain ⟨o, ho, hc, n, hd⟩ := at_l
  obtain ⟨cls, dd, data, sl⟩ := o
  obtain rfl : cls = .type "tuple" := hc
  obtain rfl : data = .seq its.toArray n := hd
  have nz : its ≠ [] := fun e => hne (by
    have := r.length
    rw [e] at this
    exact List.eq_nil_of_length_eq_zero this)
  have he : its.toArray.isEmpty = false := by
    cases its with
    | nil => exact absurd rfl nz
    | cons a b => rfl
  rcases q with ⟨rfl, q⟩ | ⟨rfl, q⟩
  · exact wpAny_binaryOp_repeat_ref (T := "tuple") (U := "int") (by decide) ⟨_, ho, rfl⟩ (fun s' => typeIs_int s' _ t) noFill_tuple_mul F.fills_int_mul F.slot_int_rmul repeat_tuple F.slot_int_index.lookup
      (call_meets F.slot_int_rmul (typeIs_int s _ t) F.entry_int_rmul (F.args_int_rmul_2 _ _) (int_rmul_tuple _ t l its.toArray n dd sl)
        ⟨ho, rfl, ⟨_, ho, rfl⟩, call_meets F.slot_tuple_mul ⟨_, ho, rfl⟩ F.entry_tuple_mul (F.args_tuple_mul_2 _ _) (mul_one l its.toArray n dd sl t he) ⟨ho, .ref l, H, I, rfl, q⟩⟩)
  · exact wpAny_binaryOp_repeat_ref (T := "tuple") (U := "int") (by decide) ⟨_, ho, rfl⟩ (fun s' => typeIs_int s' _ t) noFill_tuple_mul F.fills_int_mul F.slot_int_rmul repeat_tuple F.slot_int_index.lookup
      (call_meets F.slot_int_rmul (typeIs_int s _ t) F.entry_int_rmul (F.args_int_rmul_2 _ _) (int_rmul_tuple _ t l its.toArray n dd sl)
        ⟨ho, rfl, ⟨_, ho, rfl⟩, call_meets F.slot_tuple_mul ⟨_, ho, rfl⟩ F.entry_tuple_mul (F.args_tuple_mul_2 _ _) (mul_zero l its.toArray n dd sl t he) ⟨ho, .ref s.heap.objs.size, _, I.laid (t' := s.toks) (o := .tup []) (fun b ob q => Heap.get?_push_of_some _ q) (Nat.le_refl _) ⟨Nat.zero_le _, [], .nil, IsTup.new _ _⟩, rfl, q _ (I.hok.fresh (Nat.le_refl _))⟩⟩)
open Mi (Dv MO Sto Sl Rs bnd ME MT MA MS MF Fl MG MGs MI)
/-- a tuple, any number of times -/
def bMulT : Mi.B2 := fun x y G => match x, y with
  | .tup a, .int k => if a ≠ [] ∧ k = 1 then some (.tup a, G) else if a ≠ [] ∧ k = 0 then some (.tup [], G) else Mi.bMul false (.tup a) (.int k) G
  | _, _ => none
def rMulT (K : PySem.W.Frag) : R2 := fun x y H Q => rRep01 K x y H Q ∨ rMuls K x y H Q
theorem op_mulT {X : Cx} : OpR X (binaryOp .Mult) (rMulT X.K) := OpR.or op_rep01 op_muls
theorem b_mulT {X : Cx} {kx : Kx} : B2ok X kx bMulT (rMulT X.K) := by
  intro x y G d G' ρ H v w Q e rl dx dy k
  unfold bMulT at e
  split at e
  · rename_i a n
    split at e
    · rename_i hz
      cases e
      cases dx with
      | tup h r =>
        cases dy
        refine .inl ⟨_, _, _, rfl, rfl, h, fun z => hz.1 ?_, .inl ⟨hz.2, k _ ρ H Gr.refl rl (.tup h r)⟩⟩
        subst z
        cases r
        rfl
    · split at e
      · rename_i hz
        cases e
        cases dx with
        | tup h r =>
          cases dy
          refine .inl ⟨_, _, _, rfl, rfl, h, fun z => hz.1 ?_, .inr ⟨hz.2, fun p hp => ?_⟩⟩
          · subst z
            cases r
            rfl
          · obtain ⟨g, r'⟩ := rl.side (.tup []) hp
            exact k _ ρ _ g r' (.tup (SqT.of upd_same) .nil)
      · exact .inr (b_mul false _ _ _ _ _ _ _ _ _ _ e rl dx dy k)
  · cases e
/-- repr(a) == z, z a written text: known where it is so -/
noncomputable def mReprIs (neg : Bool) (z : String) (a : ME) : ME := open Classical in fun δ G => bnd (a δ G) fun x G1 => if ∃ d, Mi.pyT G1 x = some d ∧ Mi.okR d ∧ d.shown = Str.ofString z then some (.bl (!neg), G1) else none
section
variable {X : Cx} {kx : Kx} {e a b c o : Expr} {ma mb mc me mo : ME} {pos p apos : Pos} {rest es : List Expr} {mas mks : MA}
theorem reprIs {neg : Bool} {z : String} {r : R2} (hr : ∀ (z : Str) H (Q : VK), Q (.bl (!neg)) H → r (.str z) (.str z) H Q) {σ : L2.St} {H : Hp} {Q : VK} (h : tM X.K kx (mReprIs neg z ma) σ H Q) : tOp r (tCB (rRepr X.K) (tCons (tM X.K kx ma) tNil)) (tC (.str (Str.ofString z))) σ H Q := by
  obtain ⟨ρ, G, δ, d, G', rl, sr, e, k⟩ := h
  obtain ⟨x, G1, e1, e⟩ := Mi.bnd_eq e
  split at e
  · rename_i hz
    obtain ⟨pd, p1, p2, p3⟩ := hz
    cases e
    refine ⟨ρ, G, δ, x, _, rl, sr, e1, fun v ρ1 H1 g1 r1 d1 => ⟨v, pd, rfl, pyT_dp r1 p1 d1, p2, ?_⟩⟩
    rw [p3]
    exact hr _ _ _ (k _ ρ1 H1 g1 r1 (.bl _))
  · cases e
theorem m_reprIs {z : String} {j} {p1 p2 q1 : Pos} (hG : X.A.guards = some []) (hu : X.A.units + 64 < cLine) (hm : X.mg "repr" = none) (ha : PE X a (tM X.K kx ma)) (hg : Gl X "repr" := by rfl) (he : starEach [a] X.env = (false, eval a X.env) :: starEach [] X.env := by rfl) (hp1 : (backTo q1 (starEach [] X.env)).any (·.1) = false := by rfl) :
    PE X (.Compare (.Call (.Name "repr" p1) [a] [] q1) [.Eq] [.Constant (.str (Str.ofString z)) j p2] pos) (tM X.K kx (mReprIs false z ma)) := (pe_cmpR op_eq (pe_repr hG hu hm ha hg he hp1) pe_str (nomark _)).imp fun _ _ _ h => reprIs r_eq h
theorem m_reprIsT {z : String} {j} {p1 p2 q1 : Pos} (hG : X.A.guards = some []) (hu : X.A.units + 64 < cLine) (hm : X.mg "repr" = none) (ha : PE X a (tM X.K kx ma)) (hg : Gl X "repr" := by rfl) (he : starEach [a] X.env = (false, eval a X.env) :: starEach [] X.env := by rfl) (hp1 : (backTo q1 (starEach [] X.env)).any (·.1) = false := by rfl) :
    PT X (.Compare (.Call (.Name "repr" p1) [a] [] q1) [.Eq] [.Constant (.str (Str.ofString z)) j p2] pos) (tMT X.K kx (Mi.mTb (mReprIs false z ma))) := (pt_cmpR op_eq (pe_repr hG hu hm ha hg he hp1) pe_str (nomark _)).imp fun _ _ _ h => tTb (fun _ h => reprIs r_eq h) h
theorem m_reprNot {z : String} {j} {p1 p2 q1 : Pos} (hG : X.A.guards = some []) (hu : X.A.units + 64 < cLine) (hm : X.mg "repr" = none) (ha : PE X a (tM X.K kx ma)) (hg : Gl X "repr" := by rfl) (he : starEach [a] X.env = (false, eval a X.env) :: starEach [] X.env := by rfl) (hp1 : (backTo q1 (starEach [] X.env)).any (·.1) = false := by rfl) :
    PE X (.Compare (.Call (.Name "repr" p1) [a] [] q1) [.NotEq] [.Constant (.str (Str.ofString z)) j p2] pos) (tM X.K kx (mReprIs true z ma)) := (pe_cmpR op_ne (pe_repr hG hu hm ha hg he hp1) pe_str (nomark _)).imp fun _ _ _ h => reprIs r_ne h
theorem m_reprNotT {z : String} {j} {p1 p2 q1 : Pos} (hG : X.A.guards = some []) (hu : X.A.units + 64 < cLine) (hm : X.mg "repr" = none) (ha : PE X a (tM X.K kx ma)) (hg : Gl X "repr" := by rfl) (he : starEach [a] X.env = (false, eval a X.env) :: starEach [] X.env := by rfl) (hp1 : (backTo q1 (starEach [] X.env)).any (·.1) = false := by rfl) :
    PT X (.Compare (.Call (.Name "repr" p1) [a] [] q1) [.NotEq] [.Constant (.str (Str.ofString z)) j p2] pos) (tMT X.K kx (Mi.mTb (mReprIs true z ma))) := (pt_cmpR op_ne (pe_repr hG hu hm ha hg he hp1) pe_str (nomark _)).imp fun _ _ _ h => tTb (fun _ h => reprIs r_ne h) h
end
end Ms

/-! PyMk: a class made by keywords alone. -/
namespace Ms
open PySem L2 PyProof.Rows
open Mi (Dv MO Sto Sl Rs bnd ME MT MA MS MF Fl MG MGs MI)
/-- C(k = v, ..) -/
def mMakeK (c : Nat) (f : MF) (ix : List Nat) (kw : MA) : ME := fun δ G => bnd (kw δ G) fun ys G1 => bnd (f (ix.map fun i => (Dv.ref G1.length :: ys).getD i .non) (G1 ++ [.ins c []])) fun r G2 => match r with
  | .non => some (.ref G1.length, G2)
  | _ => none
section
variable {X : Cx} {kx : Kx} {e a b c o : Expr} {pos p apos : Pos} {mks : MA} {k cn : Nat} {st : Stmt} {ps : List Str} {mf : MF} {x qual : Str}
theorem m_mkK {kws : List Keyword} {ks : List Str} {ix : List Nat} (c : Mak X.prog X.w X.K kx X.mg X.base k cn x qual st ps mf) (hG : X.A.guards = some []) (hr : Room (k + 1) X.A) (hb : Bk "__init__" qual st ps ks 1 ix) (hl : Len mks ks.length) (hkw : PK X kws (tMA X.K kx mks)) (hg : Gl X x := by rfl)
    (hall : Ka X pos kws := by rfl) (hks : Ks X pos kws ks := by rfl) (hdb : (x == ("__debug__" : Str)) = false := by decide)
    (hpl : ((backTo pos (starEach [] X.env)).any (·.1) || (backToKw pos (keywordEach kws X.env)).any (·.1.isNone)) = false := by rfl) : PE X (.Call (.Name x p) [] kws pos) (tM X.K kx (mMakeK cn mf ix mks)) := ⟨fun pins s σ H Q I h => by
  obtain ⟨f, fd, F, M, G0, hm, _⟩ := c.ex
  have hkb := F.kbm hb
  obtain ⟨ρ, G, δ, d, G', rl, sr, e0, q⟩ := h
  obtain ⟨ds, G1, e1, e2⟩ := Mi.bnd_eq e0
  obtain ⟨rv, G2, e3, e4⟩ := Mi.bnd_eq e2
  refine called_by I hg hm hdb ?_
  refine PySem.W.callWith_KW0 (h₀ := X.base) I.ok.mod.kin M.kp hall (thn (hkw.run pos pins s σ H (fun vs H1 => ∃ ρ1, Gr ρ H ρ1 H1 ∧ Rl X.K kx ρ1 G1 H1 ∧ DRs X.K ρ1 H1 ds vs) I ⟨ρ, G, δ, ds, G1, rl, sr, e1, fun vs ρ1 H1 g r d => ⟨ρ1, g, r, d⟩⟩) fun us s1 ⟨vs, H1, I1, r, ρ1, g1, r1, d1⟩ => ⟨I1.kIn, ?_⟩) hpl
  rw [hks]
  have n1 : H1 s1.heap.objs.size = none := I1.hok.fresh (Nat.le_refl _)
  have n2 : H1 (s1.heap.objs.size + 1) = none := I1.hok.fresh (Nat.le_succ _)
  have ne : s1.heap.objs.size + 1 ≠ s1.heap.objs.size := Nat.succ_ne_self _
  obtain ⟨ga, ra⟩ := r1.side (.own (s1.heap.objs.size + 1)) n1
  obtain ⟨gb, rb⟩ := ra.grow (p := s1.heap.objs.size + 1) (o := .ins (kx.ca cn) s1.heap.objs.size []) (m := .ins cn []) (by rw [upd_ne ne]; exact n2) fun g => .ins upd_same .nil
  have I2 := Inv.made (C := kx.ca cn) I1
  have dd : DRs X.K (ρ1.snoc (s1.heap.objs.size + 1)) _ (.ref G1.length :: ds) (V.ref (s1.heap.objs.size + 1) :: vs) := .cons (.ref (by rw [← r1.len, List.getElem?_append_right (Nat.le_refl _)]; simp)) (d1.gr (ga.trans gb))
  have rr : Vals (V.ref (s1.heap.objs.size + 1) :: vs) (Value.ref (s1.heap.objs.size + 1) :: us) := .cons rfl r
  have hlen : us.length = ks.length := by rw [← r.length, ← d1.len]; exact hl _ _ _ _ e1
  have hb' := fun sh => hkb sh [Value.ref (s1.heap.objs.size + 1)] us rfl hlen
  refine wpAny_call (make_map (f := f) I1.kIn M.makes M.init (beq_iff_eq.mp M.fn) (codeAny_mono (G0.run _ X.stack _ _ ⟨[Value.ref (s1.heap.objs.size + 1)], ks.zip us⟩ (pickU ix (Value.ref (s1.heap.objs.size + 1) :: us)) _ (fun v H2 => v = .non ∧ Q (.ref (s1.heap.objs.size + 1)) H2) _ _ _ _ _ (guards_make hG) (hr.make (kx.ca cn) [] (ks.zip us)) (I2.env0.make (kx.ca cn) [] (ks.zip us)) (hb' _) (pick_vals rr ix) rb (pick_dr dd ix) e3 fun v ρ' H' g r qd => ?_) fun res s' hq => ?_))
  · split at e4
    · cases e4
      cases qd
      refine ⟨rfl, q _ ρ' H' (((g1.trans ga).trans gb).trans g) r (.ref ?_)⟩
      exact ref_gr (K := X.K) g (show (ρ1.snoc (s1.heap.objs.size + 1)).r[G1.length]? = some (s1.heap.objs.size + 1) by rw [← r1.len, List.getElem?_append_right (Nat.le_refl _)]; simp)
    · cases e4
  · obtain ⟨u, h1, h2⟩ := after_run I2 hq
    subst h1
    obtain ⟨v, H', I3, rv', ez, q3⟩ := h2
    subst ez
    exact ⟨rv', V.ref (s1.heap.objs.size + 1), H', I3, rfl, q3⟩⟩
end
end Ms

/-! PyS9: zip of a list and a tuple, in the mirror. -/
namespace Ms
open PySem L2
open Mi (Dv MO Sto Sl Rs bnd ME MT MA MS MF Fl MG MGs MI)
def mZip (a b : ME) : MI := fun δ G => bnd (a δ G) fun x G1 => bnd (b δ G1) fun y G2 => match Mi.lstOf G2 x, y with
  | some xs, .tup ys => some ((List.zipWith (fun p q => .tup [p, q]) xs ys, fun G' => Mi.lstOf G' x = some xs), G2)
  | _, _ => none
theorem zw_get : ∀ (xs ys : List Dv) (i : Nat) (d : Dv), (List.zipWith (fun p q => Dv.tup [p, q]) xs ys)[i]? = some d → ∃ p q, xs[i]? = some p ∧ ys[i]? = some q ∧ d = .tup [p, q]
  | [], _, i, d, h => by simp at h
  | _ :: _, [], i, d, h => by simp at h
  | x :: xs, y :: ys, 0, d, h => by
    simp at h
    exact ⟨x, y, rfl, rfl, h.symm⟩
  | x :: xs, y :: ys, i + 1, d, h => by
    simp at h
    exact zw_get xs ys i d (by simpa using h)
theorem i_zip {X : Cx} {kx : Kx} {a b : Expr} {ma mb : ME} {elts : List Expr} {kk : Nat} {tpos p pos : Pos} (hm : X.mg "zip" = none) (ha : PE X a (tM X.K kx ma)) (hb : PE X b (tM X.K kx mb)) (hg : Gl X "zip" := by rfl)
    (hs : Es X a [b] := by rfl) (hs2 : Es X b [] := by rfl) (hpl : Np X pos [b] := by rfl) :
    PI X (.Tuple elts kk tpos) (.Call (.Name "zip" p) [a, b] [] pos) (tI X.K kx (mZip ma mb)) :=
  (pi_zipM hg hm (pa_cons ha (pa_cons hb pa_nil hs2) hs) hs hpl).imp fun σ H R ⟨ρ, G, δ, ds, st, G', rl, sr, e, k⟩ => by
  obtain ⟨x, G1, e1, e⟩ := Mi.bnd_eq e
  obtain ⟨y, G2, e2, e⟩ := Mi.bnd_eq e
  refine ⟨ρ, G, δ, x, G1, rl, sr, e1, fun v ρ1 H1 g1 r1 d1 => ⟨ρ1, G1, δ, y, G2, r1, sr.gr g1, e2, fun w ρ2 H2 g2 r2 d2 => ?_⟩⟩
  split at e
  · rename_i y xs ys el
    cases e
    obtain ⟨ad, vs, ev, h, r⟩ := lstOf_at r2 el (d1.gr g2)
    subst ev
    cases d2 with
    | @tup bd ws _ hT rT =>
      refine ⟨ad, bd, vs, ws, rfl, h, hT, k _ ρ2 H2 (g1.trans g2) r2 ?_⟩
      have dx := d1.gr g2
      have rx : ∀ ρ G H, Gw ρ2 H2 ρ H → Rl X.K kx ρ G H → Mi.lstOf G x = some xs → ∃ vs, SqL X.K H ad vs ∧ DRs X.K ρ H xs vs := fun ρ G H g r s => by
        obtain ⟨a, vs, e, h, q⟩ := lstOf_at r s (dx.gw g)
        cases e
        exact ⟨vs, h, q⟩
      refine ⟨fun ρ G H g r s => ?_, fun i ρ G H g r s hi => ?_, fun i d ρ G H z H' g r s hd hy => ?_⟩
      · obtain ⟨vs, h, dr⟩ := rx ρ G H g r s
        refine ⟨vs, ws, h, SqT.gw g hT, ?_⟩
        rw [List.length_zipWith, dr.len, rT.len]
        omega
      · obtain ⟨vs, h, dr⟩ := rx ρ G H g r s
        rw [List.length_zipWith, dr.len, rT.len] at hi
        have i1 : i < vs.length := by omega
        have i2 : i < ws.length := by omega
        exact ⟨vs, ws, vs[i], ws[i], h, SqT.gw g hT, List.getElem?_eq_getElem i1, List.getElem?_eq_getElem i2⟩
      · obtain ⟨T, us, ev, hN, eH, u1, u2, eu, f1, f2⟩ := hy
        subst eu ev eH
        obtain ⟨vs, h, dr⟩ := rx ρ G H g r s
        obtain ⟨p1, q1, hp, hq, rfl⟩ := zw_get xs ys i d hd
        obtain ⟨v1, hv1, dv1⟩ := dr.get hp
        obtain ⟨v2, hv2, dv2⟩ := (rT.gw g).get hq
        have t1 := f1 vs h
        rw [hv1] at t1
        cases t1
        have t2 := f2 ws (SqT.gw g hT)
        rw [hv2] at t2
        cases t2
        obtain ⟨g3, r3⟩ := r.side (.tup [u1, u2]) hN
        exact ⟨g3, r3, .tup (SqT.of upd_same) (.cons (dv1.gr g3) (.cons (dv2.gr g3) .nil))⟩
  · cases e
end Ms

/-! PyX: three names at once; max of a list; extend by a tuple. -/
namespace Ms
open PySem PySem.Spec L2 PyProof.Rows
open Mi (Dv MO Sto Sl Rs bnd ME MT MA MS MF Fl MG MGs MI)
/-! ### a, b, c = x, y, z -/
def mPar3 (i j l : Nat) (a : MA) : MS := fun δ G => match a δ G with
  | some ([x, y, z], G1) => some (.nx, ((δ.set i (some x)).set j (some y)).set l (some z), G1)
  | _ => none
section
variable {X : Cx} {kx : Kx} {e a b c o : Expr} {ma mb mc me mo : ME} {mas : MA} {pos p apos : Pos} {x y z : Str}
theorem s_par3 (i j l : Nat) {px py pz pt pt2 : Pos} {kt k2} (hc : X.calm = true) (hN : X.N.Nodup) (ha : PA X [a, b, c] (tMA X.K kx mas)) (hi : X.N[i]? = some x := by rfl) (hj : X.N[j]? = some y := by rfl) (hl : X.N[l]? = some z := by rfl) (hij : i ≠ j := by decide) (hil : i ≠ l := by decide) (hjl : j ≠ l := by decide)
    (hx : X.env.scope.names.lookup x = some .local := by rfl) (hy : X.env.scope.names.lookup y = some .local := by rfl) (hz : X.env.scope.names.lookup z = some .local := by rfl)
    (hw : swappedStores [.Tuple [.Name x px, .Name y py, .Name z pz] kt pt] (.Tuple [a, b, c] k2 pt2) X.env = pure (some [x, y, z]) := by rfl) (hs : swapsWithSole [.Tuple [.Name x px, .Name y py, .Name z pz] kt pt] (.Tuple [a, b, c] k2 pt2) pos.line X.env = pure false := by rfl) :
    PS X (.Assign [.Tuple [.Name x px, .Name y py, .Name z pz] kt pt] (.Tuple [a, b, c] k2 pt2) pos) (sM X.K kx (mPar3 i j l mas)) :=
  (ps_par3 hc hN hi hj hl hij hil hjl hx hy hz ha hw hs).imp fun D σ H ⟨ρ, G, δ, f, δ', G', rl, sr, e, k⟩ => by
  unfold mPar3 at e
  split at e
  · rename_i u v w G1 e1
    cases e
    refine ⟨ρ, G, δ, _, _, rl, sr, e1, fun vs ρ1 H1 g1 r1 d1 => ?_⟩
    cases d1 with
    | cons p q =>
      cases q with
      | cons q t =>
        cases t with
        | cons t t2 =>
          cases t2
          exact ⟨_, _, _, rfl, k ρ1 _ H1 g1 r1 ((((sr.gr g1).set i p).set j q).set l t)⟩
  · cases e
/-! ### max of a list of whole numbers -/
def fMaxL : List Dv → Sto → Rs Dv
  | [x], G => match Mi.lstOf G x with
    | some xs => match Mi.intsOf xs with
      | some (n :: ns) => some (.int (ns.foldl max n), G)
      | _ => none
    | none => none
  | _, _ => none
theorem foldl_max_le : ∀ (ns : List Int) (n : Int), n ≤ ns.foldl max n ∧ ∀ y ∈ ns, y ≤ ns.foldl max n
  | [], n => ⟨Int.le_refl _, fun y hy => nomatch hy⟩
  | m :: ns, n => by
    obtain ⟨a, b⟩ := foldl_max_le ns (max n m)
    refine ⟨?_, fun y hy => ?_⟩
    · show n ≤ ns.foldl max (max n m)
      omega
    · have q : y = m ∨ y ∈ ns := by simpa using hy
      cases q with
      | inl q => rw [q]; show m ≤ ns.foldl max (max n m); omega
      | inr q => exact b y q
theorem foldl_max_mem : ∀ (ns : List Int) (n : Int), ns.foldl max n ∈ n :: ns
  | [], n => List.mem_cons_self ..
  | m :: ns, n => by
    have q := foldl_max_mem ns (max n m)
    show ns.foldl max (max n m) ∈ n :: m :: ns
    rcases List.mem_cons.mp q with q | q
    · rw [q]
      by_cases h : n ≤ m
      · rw [Int.max_eq_right h]; simp
      · rw [Int.max_eq_left (by omega)]; simp
    · exact List.mem_cons_of_mem _ (List.mem_cons_of_mem _ q)
theorem f_maxL : Bok X kx fMaxL (rMax X.K) := by
  intro xs G d G' ρ H vs Q e rl ds k
  unfold fMaxL at e
  split at e
  · rename_i x
    split at e
    · rename_i zs el
      split at e
      · rename_i n ns ei
        cases e
        cases ds with
        | cons a b =>
          cases b
          obtain ⟨ad, ws, ev, h, r⟩ := lstOf_at rl el a
          subst ev
          have ew := ints_of ei r
          subst ew
          refine ⟨ad, n :: ns, rfl, h, by simp, fun m hm hall => ?_⟩
          obtain ⟨a1, a2⟩ := foldl_max_le ns n
          have mm : m = ns.foldl max n := by
            have h1 := hall _ (foldl_max_mem ns n)
            have h2 : m ≤ ns.foldl max n := by
              have q : m = n ∨ m ∈ ns := by simpa using hm
              exact q.elim (fun e => e ▸ a1) (a2 m)
            omega
          rw [mm]
          exact k _ ρ H Gr.refl rl (.int _)
      · cases e
    · cases e
  · cases e
/-! ### xs.extend(t) -/
theorem ext_tup (l : Addr) (items : Array Value) (n : Nat) (b : Addr) (jtems : Array Value) (n2 : Nat) (dd : Option Addr) (sl : Array (Option Value)) (h0 : ¬(!items.isEmpty && Builtin.List.listTooLong (items.size + jtems.size)) = true) (h1 : items.size ≤ sizeLine) (h2 : items.size + jtems.size ≤ sizeLine + 1) :
    Meets (Builtin.«list.extend» ⟨[.ref l, .ref b], []⟩) (fun _ R s => s.heap.get? l = some { cls := .type "list", dict := none, data := .seq items n, slots := #[] } ∧ s.heap.get? b = some { cls := .type "tuple", dict := dd, data := .seq jtems n2, slots := sl } ∧
      R (.ok (.ret Value.none)) { s with heap := s.heap.update l (Obj.mapSeq fun x => x ++ jtems), toks := s.toks }) :=
  .of_wp fun prog w A R st hyp => by
    have ⟨hl, hb, h⟩ := hyp
    cases st
    have f1 := AutoSeq1.idx_int
    have f2 := (AutoSeq1.sub_tuple_tuple)
    have f3 := (AutoSeq1.sub_list_list)
    have f4 := AutoSeq1.sub_tuple_list
    have f5 := AutoSeq1.sub_list_tuple
    have hz' : (items ++ jtems).size ≤ sizeLine + 1 := by rw [Array.size_append]; exact h2
    (wp_walk using (wpAny_updateSeq hl rfl (hz := h1) (_hz' := hz')), wpAny_loadPart' hl, wpAny_loadPart' hb)
    exact ⟨_, rfl, h⟩
def rExtT (K : PySem.W.Frag) : V → List V → Hp → VK → Prop := fun x vs H Q => ∃ l b xs zs, x = .ref l ∧ vs = [.ref b] ∧ H l = some (.lst xs) ∧ SqT K H b zs ∧ xs.length + zs.length ≤ sizeLine ∧ Q .non (upd H l (.lst (xs ++ zs)))
/-- the list at l, a tuple at b behind it -/
theorem ext_go {pins : List (Addr × Obj)} {σ : L2.St} {H : Hp} {s : Shared} {Q : VK} {l b : Addr} {xs zs : List V} (I : Inv X pins σ H s) (hH : H l = some (.lst xs)) (hB : SqT X.K H b zs) (hz : xs.length + zs.length ≤ sizeLine) (q : Q .non (upd H l (.lst (xs ++ zs)))) :
    wpAny (model X.prog X.w) X.A (call (.builtin "list.extend") [.ref l, .ref b]) (EP X pins σ Q) X.xe s := by
  have ⟨_, its, _, mine, _, there⟩ := I.lstM hH
  have ⟨jts, more, at_b, _⟩ := I.tuple hB
  obtain ⟨⟨cls, dd, data, sl⟩, ho, hc, n2, hd⟩ := at_b
  obtain rfl : cls = .type "tuple" := hc
  obtain rfl : data = .seq jts.toArray n2 := hd
  have fits : its.toArray.size + jts.toArray.size ≤ sizeLine := by simp only [List.size_toArray, ← mine.length, ← more.length]; exact hz
  have short : ¬ (!its.toArray.isEmpty && Builtin.List.listTooLong (its.toArray.size + jts.toArray.size)) = true := fun z => by
    have too := (Bool.and_eq_true_iff.mp z).2
    rw [notLongL fits] at too
    cases too
  have laid : Inv X pins σ (upd H l (.lst (xs ++ zs))) { s with heap := s.heap.update l (Obj.mapSeq fun x => x ++ jts.toArray), toks := s.toks } :=
    I.lset (its' := its ++ jts) hH there (by simp) (mine.append more) (by rw [List.length_append]; exact hz)
  exact call_meets PySem.F.slot_list_extend ⟨_, there, rfl⟩ PySem.F.entry_list_extend (PySem.F.args_list_extend_2 _ _) (ext_tup l its.toArray _ b jts.toArray n2 dd sl short (by omega) (by omega)) ⟨there, ho, .non, _, laid, rfl, q⟩
theorem mt_extT : MtM X "list.extend" (rExtT X.K) := by
  rintro pins s σ H x vs v us Q I rx rv ⟨l, b, xs, zs, rfl, rfl, hH, hB, hz, q⟩
  obtain rfl : v = .ref l := rx
  rw [Vals.ref1 rv]
  exact ext_go I hH hB hz q
def mExtend (o a : ME) : ME := fun δ G => bnd (o δ G) fun x G1 => bnd (a δ G1) fun y G2 => match x, y with
  | .ref h, .tup zs => match G1[h]?, G2[h]? with
    | some (.lst _), some (.lst xs) => if xs.length + zs.length ≤ Mi.big then some (.non, G2.set h (.lst (xs ++ zs))) else none
    | _, _ => none
  | _, _ => none
theorem m_extend (ho : PE X o (tM X.K kx mo)) (ha : PE X a (tM X.K kx ma)) (hbase : attributeBase o "extend" X.env (eval o X.env) = eval o X.env := by rfl)
    (hfew : ((backTo pos (starEach [a] X.env)).all (fun x => !x.1) && (backToKw pos (keywordEach [] X.env)).all (fun x => x.1.isSome) && decide (([a] : List Expr).length + ([] : List Keyword).length + (if ([] : List Keyword).isEmpty then 0 else 1) < 30)) = true := by rfl)
    (hline : (apos.endLine == pos.line) = true := by rfl) (hs : starEach [a] X.env = (false, eval a X.env) :: starEach [] X.env := by rfl) (hplain : (backTo pos (starEach [] X.env)).any (·.1) = false := by rfl) :
    PE X (.Call (.Attribute o "extend" apos) [a] [] pos) (tM X.K kx (mExtend mo ma)) :=
  (pe_bm PySem.F.plainAttrs_list PySem.F.slot_list_extend PySem.F.type_list_extend mt_extT ho (pa_cons ha pa_nil hs) hbase hfew hline hs hplain).imp fun σ H Q ⟨ρ, G, δ, d, G', rl, sr, e, k⟩ => by
  obtain ⟨x, G1, e1, e⟩ := Mi.bnd_eq e
  obtain ⟨y, G2, e2, e⟩ := Mi.bnd_eq e
  refine ⟨ρ, G, δ, x, G1, rl, sr, e1, fun v ρ1 H1 g1 r1 d1 => ?_⟩
  split at e
  · rename_i h zs _
    split at e
    · rename_i z xs eh1 eh2
      split at e
      · rename_i hz
        cases e
        cases d1 with
        | @ref _ ad ea =>
          obtain ⟨vs1, h1, _⟩ := lst_at r1 eh1 ea
          refine ⟨.inl ⟨rfl, _, SqL.of h1⟩, ρ1, G1, δ, _, G2, r1, sr.gr g1, e2, fun w ρ2 H2 g2 r2 d2 => ?_⟩
          obtain ⟨vs, h2, rv⟩ := lst_at r2 eh2 (ref_gr (K := X.K) g2 ea)
          cases d2 with
          | @tup bd us zs hT rT =>
            refine ⟨ad, bd, vs, us, rfl, rfl, h2, hT, by rw [← rv.len, ← rT.len, ← big_line]; exact hz, ?_⟩
            obtain ⟨g3, r3⟩ := r2.wr (o := .lst (vs ++ us)) (m := .lst (xs ++ zs)) (ref_gr (K := X.K) g2 ea) fun g => .lst upd_same ((rv.app rT).gr g)
            exact k .non _ _ ((g1.trans g2).trans g3) r3 .non
      · cases e
    · cases e
  · cases e
end
end Ms

/-! PyC2: a comprehension with two fors. -/
namespace Ms
open PySem PySem.Spec L2 PyProof.Rows
open Mi (Dv MO Sto Sl Rs bnd ME MT MA MS MF Fl MG MGs MI)
open Classical in
noncomputable def mLc2Loop (g : MG) (t : MT) (it1 : MI) (g1 : MG) (t1 : MT) (e : ME) (vs1 : List Nat) (st : Sto → Prop) (δ : Sl) : List Dv → List Dv → Sto → Rs (List Dv)
  | [], acc, G => if st G then some (acc, G) else none
  | d :: ds, acc, G => if st G then match g d δ G with
      | some (δ1, G1) => match t δ1 G1 with
        | some (true, G2) => match it1 δ1 G2 with
          | some ((ds1, st1), G3) => match Mi.mLcLoop g1 t1 e st1 (Mi.wipe δ1 vs1) ds1 acc G3 with
            | some (acc', G4) => mLc2Loop g t it1 g1 t1 e vs1 st δ ds acc' G4
            | none => none
          | none => none
        | some (false, G2) => mLc2Loop g t it1 g1 t1 e vs1 st δ ds acc G2
        | none => none
      | none => none
    else none
/-- [e for g in it if t for g1 in it1 if t1] -/
noncomputable def mLc2 (m : Bool) (it : MI) (g : MG) (t : MT) (it1 : MI) (g1 : MG) (t1 : MT) (e : ME) (vs vs1 : List Nat) : ME := fun δ G => bnd (it δ G) fun p G1 => bnd (mLc2Loop g t it1 g1 t1 e vs1 p.2 (Mi.wipe δ vs) p.1 [] G1) fun xs G2 => some (Mi.mkL m xs G2)
theorem gr_lift {r r' xs : List Addr} {D : Addr} {Ha Hb : Hp} (hr : D ∉ r) (hu : ∃ us, Ha D = some (.lst us)) (gg : Gr ⟨r, D :: xs⟩ Ha ⟨r', D :: xs⟩ Hb) : Gr ⟨r, D :: xs⟩ (upd Ha D (.lst [])) ⟨r', D :: xs⟩ (upd Hb D (.lst [])) := by
  obtain ⟨us, hu⟩ := hu
  refine ⟨gg.pre, fun z hz => ?_, fun z o ho hz => ?_, fun z xs ho => ?_, fun z o u ho => ?_⟩
  · rcases gg.new z hz with q | q
    · exact .inl q
    · refine .inr ?_
      have hzD : z ≠ D := fun w => by rw [w, hu] at q; cases q
      rw [upd_ne hzD]
      exact q
  · by_cases hzD : z = D
    · subst hzD
      rw [upd_same] at ho ⊢
      exact ho
    · rw [upd_ne hzD] at ho ⊢
      exact gg.kp z o ho hz
  · have hzD : z ≠ D := fun w => by rw [w, upd_same] at ho; cases ho
    rw [upd_ne hzD] at ho ⊢
    exact gg.tu z xs ho
  · have hzD : z ≠ D := fun w => by rw [w, upd_same] at ho; cases ho
    rw [upd_ne hzD] at ho ⊢
    exact gg.fz z o u ho
section
variable {X : Cx} {kx : Kx} {mt mt1 : MT} {me : ME} {mi mi1 : MI} {g g1 : MG} {ws ws1 vs vs1 : List Nat}
theorem keepD2 {r r' xs : List Addr} {D : Addr} {Ha Hb : Hp} {us : List V} (hr : D ∉ r) (hu : Ha D = some (.lst us)) (gg : Gr ⟨r, D :: xs⟩ Ha ⟨r', D :: xs⟩ Hb) : Hb D = some (.lst us) := gg.kp D _ hu hr
theorem lc2_inner (hw : ∀ i ∈ ws1, i ∈ vs1) {D : Addr} {xs r1 : List Addr} {H1 : Hp} {G1 : Sto} {δ : Sl} {σ : L2.St} {ds : List Dv} {st : Sto → Prop} {acc0 zs : List Dv} {av0 : List V} {Gz : Sto} {J : It}
    (y : Yl X.K kx ⟨r1, D :: xs⟩ H1 J ds st) (rl : Rl X.K kx ⟨r1, D :: xs⟩ G1 H1) (sr : Sr X.K ⟨r1, D :: xs⟩ H1 δ σ) (hD : H1 D = some (.lst av0)) (da0 : DRs X.K ⟨r1, D :: xs⟩ H1 acc0 av0)
    (e2 : Mi.mLcLoop g1 mt1 me st (Mi.wipe δ vs1) ds acc0 G1 = some (zs, Gz)) {Nx : Hp → Prop}
    (fin : ∀ r5 H5 av, Gr ⟨r1, D :: xs⟩ (upd H1 D (.lst [])) ⟨r5, D :: xs⟩ (upd H5 D (.lst [])) → Gw ⟨r1, D :: xs⟩ H1 ⟨r5, D :: xs⟩ H5 → Rl X.K kx ⟨r5, D :: xs⟩ Gz H5 → H5 D = some (.lst av) → DRs X.K ⟨r5, D :: xs⟩ H5 zs av → Nx H5) :
    ∃ W1 : Nat → Nat → Hp → Prop, (∃ m, W1 0 m H1) ∧ ∀ j k H, W1 j k H → (J.stop j H ∧ Nx H) ∨ (J.go j H ∧ ∃ Nx1 : Hp → Prop, (∀ H', Nx1 H' → ∃ k', k' < k ∧ W1 (j + 1) k' H') ∧ ∀ x H', J.yld j H x H' →
      tG X.K kx ws1 g1 x (L2.wipe σ vs1) H' fun σ3 H5 => L2.wipe σ3 vs1 = L2.wipe σ vs1 ∧ tMT X.K kx mt1 σ3 H5 fun b H6 => if b = true then tM X.K kx me σ3 H6 fun y H7 => ∃ acc, H7 D = some (.lst acc) ∧ acc.length < sizeLine ∧ Nx1 (upd H7 D (.lst (acc ++ [y]))) else Nx1 H6) := by
  refine ⟨fun i n H2 => n = ds.length - i ∧ i ≤ ds.length ∧ ∃ (r2 : List Addr) (G2 : Sto) (acc : List Dv) (av : List V), Gr ⟨r1, D :: xs⟩ (upd H1 D (.lst [])) ⟨r2, D :: xs⟩ (upd H2 D (.lst [])) ∧ Gw ⟨r1, D :: xs⟩ H1 ⟨r2, D :: xs⟩ H2 ∧ Rl X.K kx ⟨r2, D :: xs⟩ G2 H2 ∧ H2 D = some (.lst av) ∧ DRs X.K ⟨r2, D :: xs⟩ H2 acc av ∧
    Mi.mLcLoop g1 mt1 me st (Mi.wipe δ vs1) (ds.drop i) acc G2 = some (zs, Gz), ⟨ds.length, by simp, Nat.zero_le _, r1, G1, acc0, av0, Gr.refl, Gw.refl, rl, hD, da0, by simpa using e2⟩, ?_⟩
  rintro i n H2 ⟨rfl, hi, r2, G2, acc, av, g2, w2, q2, hD2, da, el⟩
  have sr2 : Sr X.K ⟨r2, D :: xs⟩ H2 δ σ := sr.gw w2
  by_cases hlt : i < ds.length
  · have ed : ds.drop i = ds[i] :: ds.drop (i + 1) := List.drop_eq_getElem_cons hlt
    rw [ed] at el
    unfold Mi.mLcLoop at el
    split at el
    · rename_i hst
      obtain ⟨hst, hacc⟩ := hst
      split at el
      · rename_i δ3 G3 eg
        refine .inr ⟨y.go i _ G2 H2 w2 q2 hst hlt, fun H' => ∃ n', n' < ds.length - i ∧ (n' = ds.length - (i + 1) ∧ i + 1 ≤ ds.length ∧ ∃ (r2 : List Addr) (G2 : Sto) (acc : List Dv) (av : List V), Gr ⟨r1, D :: xs⟩ (upd H1 D (.lst [])) ⟨r2, D :: xs⟩ (upd H' D (.lst [])) ∧ Gw ⟨r1, D :: xs⟩ H1 ⟨r2, D :: xs⟩ H' ∧ Rl X.K kx ⟨r2, D :: xs⟩ G2 H' ∧ H' D = some (.lst av) ∧ DRs X.K ⟨r2, D :: xs⟩ H' acc av ∧
          Mi.mLcLoop g1 mt1 me st (Mi.wipe δ vs1) (ds.drop (i + 1)) acc G2 = some (zs, Gz)), fun _ h => h, fun x H' hy => ?_⟩
        obtain ⟨gy, ry, dy⟩ := y.yld i ds[i] _ G2 H2 x H' w2 q2 hst (List.getElem?_eq_getElem hlt) hy
        have hDr : D ∉ r2 := (q2.xt D (List.mem_cons_self ..)).2
        refine ⟨_, G2, Mi.wipe δ vs1, ds[i], δ3, G3, ry, (sr2.gr gy).wipe vs1, dy, eg, fun ρ3 σ3 H3 g3 r3 s3 l3 n3 => ⟨?_, ?_⟩⟩
        · refine wipe_eq (by rw [l3, L2.wipe_length]) (fun j hj => n3 j fun z => hj (hw j z)) (L2.wipe_length σ vs1)
        obtain ⟨r3', x3⟩ := ρ3
        obtain rfl : x3 = D :: xs := g3.pre.2
        have gA := gy.trans g3
        split at el
        · rename_i G4 et
          refine ⟨_, G3, δ3, true, G4, r3, s3, et, fun ρ4 H4 g4 r4 => ?_⟩
          dsimp only
          rw [if_pos rfl]
          obtain ⟨r4', x4⟩ := ρ4
          obtain rfl : x4 = D :: xs := g4.pre.2
          split at el
          · rename_i yv G5 ey
            refine ⟨_, G4, δ3, yv, G5, r4, s3.gr g4, ey, fun v ρ5 H5 g5 r5 d5 => ?_⟩
            obtain ⟨r5', x5⟩ := ρ5
            obtain rfl : x5 = D :: xs := g5.pre.2
            have gB := (gA.trans g4).trans g5
            have hD5 := keepD2 hDr hD2 gB
            refine ⟨av, hD5, by rw [← (da.len), ← big_line]; exact hacc, _, by omega, rfl, hlt, r5', G5, acc ++ [yv], av ++ [v], ?_⟩
            obtain ⟨gm, rm⟩ := r5.more (av ++ [v]) (List.mem_cons_self ..) hD5
            refine ⟨?_, (w2.trans gB.w).trans gm, rm, upd_same, ((da.gr gB).gw gm).app (.cons (d5.gw gm) .nil), el⟩
            rw [upd_upd]
            exact g2.trans (gr_lift hDr ⟨av, hD2⟩ gB)
          · cases el
        · rename_i G4 et
          refine ⟨_, G3, δ3, false, G4, r3, s3, et, fun ρ4 H4 g4 r4 => ?_⟩
          dsimp only
          rw [if_neg (fun z => Bool.false_ne_true z)]
          obtain ⟨r4', x4⟩ := ρ4
          obtain rfl : x4 = D :: xs := g4.pre.2
          have gB := gA.trans g4
          exact ⟨_, by omega, rfl, hlt, r4', G4, acc, av, g2.trans (gr_lift hDr ⟨av, hD2⟩ gB), w2.trans gB.w, r4, keepD2 hDr hD2 gB, da.gr gB, el⟩
        · cases el
      · cases el
    · cases el
  · have ed : ds.drop i = [] := List.drop_eq_nil_of_le (by omega)
    rw [ed] at el
    unfold Mi.mLcLoop at el
    split at el
    · rename_i hst
      cases el
      have hi' : i = ds.length := by omega
      subst hi'
      exact .inl ⟨y.stop _ _ H2 w2 q2 hst, fin r2 H2 av g2 w2 q2 hD2 da⟩
    · cases el
theorem lc2_go {m : Bool} {σ : L2.St} {H : Hp} {Q : VK} (hw : ∀ i ∈ ws, i ∈ vs) (hw1 : ∀ i ∈ ws1, i ∈ vs1) (h : tM X.K kx (mLc2 m mi g mt mi1 g1 mt1 me vs vs1) σ H Q) :
    tLc2 (tI X.K kx mi) (tG X.K kx ws g) (tMT X.K kx mt) (tI X.K kx mi1) (tG X.K kx ws1 g1) (tMT X.K kx mt1) (tM X.K kx me) vs vs1 σ H Q := by
  obtain ⟨ρ, G, δ, d, G', rl, sr, e, k⟩ := h
  obtain ⟨⟨ds, st⟩, G1, e1, e⟩ := Mi.bnd_eq e
  obtain ⟨zs, Gz, e2, e⟩ := Mi.bnd_eq e
  dsimp only at e2 e
  refine ⟨ρ, G, δ, ds, st, G1, rl, sr, e1, fun J ρ1 H1 g1' r1 y D hD => ?_⟩
  obtain ⟨gf, rf⟩ := r1.fill [] hD
  have nD : D ∉ ρ1.x := (r1.free hD).2
  refine ⟨fun i n H2 => n = ds.length - i ∧ i ≤ ds.length ∧ ∃ (r2 : List Addr) (G2 : Sto) (acc : List Dv) (av : List V), Gr ⟨ρ1.r, D :: ρ1.x⟩ (upd H1 D (.lst [])) ⟨r2, D :: ρ1.x⟩ (upd H2 D (.lst [])) ∧ Gw ⟨ρ1.r, D :: ρ1.x⟩ (upd H1 D (.lst [])) ⟨r2, D :: ρ1.x⟩ H2 ∧ Rl X.K kx ⟨r2, D :: ρ1.x⟩ G2 H2 ∧ H2 D = some (.lst av) ∧ DRs X.K ⟨r2, D :: ρ1.x⟩ H2 acc av ∧
    mLc2Loop g mt mi1 g1 mt1 me vs1 st (Mi.wipe δ vs) (ds.drop i) acc G2 = some (zs, Gz), ⟨ds.length, by simp, Nat.zero_le _, ρ1.r, G1, [], [], by rw [upd_upd]; exact Gr.refl, Gw.refl, rf, upd_same, .nil, by simpa using e2⟩, ?_⟩
  rintro i n H2 ⟨rfl, hi, r2, G2, acc, av, g2, w2, q2, hD2, da, el⟩
  have sr2 : Sr X.K ⟨r2, D :: ρ1.x⟩ H2 δ σ := ((sr.gr g1').gw gf).gw w2
  by_cases hlt : i < ds.length
  · have ed : ds.drop i = ds[i] :: ds.drop (i + 1) := List.drop_eq_getElem_cons hlt
    rw [ed] at el
    unfold mLc2Loop at el
    split at el
    · rename_i hst
      split at el
      · rename_i δ3 G3 eg
        refine .inr ⟨y.go i _ G2 H2 (gf.trans w2) q2 hst hlt, fun H' => ∃ n', n' < ds.length - i ∧ (n' = ds.length - (i + 1) ∧ i + 1 ≤ ds.length ∧ ∃ (r2 : List Addr) (G2 : Sto) (acc : List Dv) (av : List V), Gr ⟨ρ1.r, D :: ρ1.x⟩ (upd H1 D (.lst [])) ⟨r2, D :: ρ1.x⟩ (upd H' D (.lst [])) ∧ Gw ⟨ρ1.r, D :: ρ1.x⟩ (upd H1 D (.lst [])) ⟨r2, D :: ρ1.x⟩ H' ∧ Rl X.K kx ⟨r2, D :: ρ1.x⟩ G2 H' ∧ H' D = some (.lst av) ∧ DRs X.K ⟨r2, D :: ρ1.x⟩ H' acc av ∧
          mLc2Loop g mt mi1 g1 mt1 me vs1 st (Mi.wipe δ vs) (ds.drop (i + 1)) acc G2 = some (zs, Gz)), fun _ h => h, fun x H' hy => ?_⟩
        obtain ⟨gy, ry, dy⟩ := y.yld i ds[i] _ G2 H2 x H' (gf.trans w2) q2 hst (List.getElem?_eq_getElem hlt) hy
        have hDr : D ∉ r2 := (q2.xt D (List.mem_cons_self ..)).2
        refine ⟨_, G2, Mi.wipe δ vs, ds[i], δ3, G3, ry, (sr2.gr gy).wipe vs, dy, eg, fun ρ3 σ3 H3 g3 r3 s3 l3 n3 => ⟨?_, ?_⟩⟩
        · refine wipe_eq (by rw [l3, L2.wipe_length]) (fun j hj => n3 j fun z => hj (hw j z)) (L2.wipe_length σ vs)
        obtain ⟨r3', x3⟩ := ρ3
        obtain rfl : x3 = D :: ρ1.x := g3.pre.2
        have gA := gy.trans g3
        split at el
        · rename_i G4 et
          refine ⟨_, G3, δ3, true, G4, r3, s3, et, fun ρ4 H4 g4 r4 => ?_⟩
          dsimp only
          rw [if_pos rfl]
          obtain ⟨r4', x4⟩ := ρ4
          obtain rfl : x4 = D :: ρ1.x := g4.pre.2
          split at el
          · rename_i ds1 st1 G5 ey
            refine ⟨_, G4, δ3, ds1, st1, G5, r4, s3.gr g4, ey, fun J1 ρ5 H5 g5 r5 y1 => ?_⟩
            obtain ⟨r5', x5⟩ := ρ5
            obtain rfl : x5 = D :: ρ1.x := g5.pre.2
            have gB := (gA.trans g4).trans g5
            have hD5 := keepD2 hDr hD2 gB
            split at el
            · rename_i acc' G6 ei
              exact lc2_inner hw1 y1 r5 ((s3.gr g4).gr g5) hD5 (da.gr gB) ei fun r6 H6 av6 ga gb rc hD6 da6 => ⟨_, by omega, rfl, hlt, r6, G6, acc', av6, (g2.trans (gr_lift hDr ⟨av, hD2⟩ gB)).trans ga, (w2.trans gB.w).trans gb, rc, hD6, da6, el⟩
            · cases el
          · cases el
        · rename_i G4 et
          refine ⟨_, G3, δ3, false, G4, r3, s3, et, fun ρ4 H4 g4 r4 => ?_⟩
          dsimp only
          rw [if_neg (fun z => Bool.false_ne_true z)]
          obtain ⟨r4', x4⟩ := ρ4
          obtain rfl : x4 = D :: ρ1.x := g4.pre.2
          have gB := gA.trans g4
          exact ⟨_, by omega, rfl, hlt, r4', G4, acc, av, g2.trans (gr_lift hDr ⟨av, hD2⟩ gB), w2.trans gB.w, r4, keepD2 hDr hD2 gB, da.gr gB, el⟩
        · cases el
      · cases el
    · cases el
  · have ed : ds.drop i = [] := List.drop_eq_nil_of_le (by omega)
    rw [ed] at el
    unfold mLc2Loop at el
    split at el
    · rename_i hst
      cases el
      have hi' : i = ds.length := by omega
      subst hi'
      refine .inl ⟨y.stop _ _ H2 (gf.trans w2) q2 hst, ?_⟩
      have hDr : D ∉ r2 := (q2.xt D (List.mem_cons_self ..)).2
      have e' := Option.some.inj e
      -- the growth from ahead of the list
      have base : ∀ r' : List Addr, (∃ t, r' = ρ1.r ++ t) → (∀ z ∈ r', z ∈ r2 ∨ z = D) → Gr ρ1 H1 ⟨r', ρ1.x⟩ H2 := fun r' hp hs => by
        refine ⟨⟨hp, rfl⟩, fun z hz => ?_, fun z o ho hz => ?_, fun z xs ho => ?_, fun z o u ho => ?_⟩
        · rcases hs z hz with q | q
          · rcases g2.new z q with w | w
            · exact .inl w
            · by_cases hzD : z = D
              · rw [hzD]; exact .inr hD
              · rw [upd_ne hzD] at w
                exact .inr w
          · rw [q]; exact .inr hD
        · have hzD : z ≠ D := ne_of_none ho hD
          have := g2.kp z o (by rw [upd_ne hzD]; exact ho) hz
          rw [upd_ne hzD] at this
          exact this
        · have hzD : z ≠ D := ne_of_none ho hD
          have := g2.tu z xs (by rw [upd_ne hzD]; exact ho)
          rw [upd_ne hzD] at this
          exact this
        · have hzD : z ≠ D := ne_of_none ho hD
          have := g2.fz z o u (by rw [upd_ne hzD]; exact ho)
          rw [upd_ne hzD] at this
          exact this
      obtain ⟨t2, ht2⟩ := g2.pre.1
      have ht2' : r2 = ρ1.r ++ t2 := ht2
      cases m with
      | false =>
        obtain ⟨gw, rw'⟩ := q2.full
        cases e'
        exact k _ ⟨r2, ρ1.x⟩ H2 (g1'.trans (base r2 ⟨t2, ht2'⟩ fun z hz => .inl hz)) rw' (.fls hD2 ⟨hDr, nD⟩ (da.gw gw))
      | true =>
        obtain ⟨gw, rw'⟩ := q2.fullM nD hD2 da
        cases e'
        refine k _ ⟨r2 ++ [D], ρ1.x⟩ H2 (g1'.trans (base (r2 ++ [D]) ⟨t2 ++ [D], by rw [ht2']; simp⟩ fun z hz => ?_)) rw' (.ref ?_)
        · rcases List.mem_append.mp hz with q | q
          · exact .inl q
          · exact .inr (by simpa using q)
        · show (r2 ++ [D])[Gz.length]? = some D
          have hl : r2.length = Gz.length := q2.len
          rw [← hl, List.getElem?_append_right (Nat.le_refl _)]
          simp
    · cases el
theorem m_lc2 (m : Bool) {elt it tg it1 tg1 : Expr} {ifs ifs1 : List Expr} {scope : Scope} {own : List (Str × Nat)} {pos : Pos} (hc : X.calm = true) (hN : X.N.Nodup) (hi : PI X tg it (tI X.K kx mi)) (ok : BlkOk X.N X.env.scope scope own) (hw : ∀ i ∈ ws, i ∈ own.map (·.2)) (hw1 : ∀ i ∈ ws1, i ∈ vs1) (hv : ∀ i ∈ vs1, i ∈ own.map (·.2))
    (hg : ∀ (s : Shared) (H : Hp) (C : Addr) (cl : List (Str × Addr)) (fp : List Addr), PG (X.blk s H scope (compEnvC scope cl C X.env) fp) tg (tG X.K kx ws g)) (ht : ∀ (s : Shared) (H : Hp) (C : Addr) (cl : List (Str × Addr)) (fp : List Addr), PTs (X.blk s H scope (compEnvC scope cl C X.env) fp) ifs (tMT X.K kx mt))
    (hi1 : ∀ (s : Shared) (H : Hp) (C : Addr) (cl : List (Str × Addr)) (fp : List Addr), PI (X.blk s H scope (compEnvC scope cl C X.env) fp) tg1 it1 (tI X.K kx mi1))
    (hg1 : ∀ (s : Shared) (H : Hp) (C : Addr) (cl : List (Str × Addr)) (fp : List Addr), PG (X.blk s H scope (compEnvC scope cl C X.env) fp) tg1 (tG X.K kx ws1 g1)) (ht1 : ∀ (s : Shared) (H : Hp) (C : Addr) (cl : List (Str × Addr)) (fp : List Addr), PTs (X.blk s H scope (compEnvC scope cl C X.env) fp) ifs1 (tMT X.K kx mt1))
    (he : ∀ (s : Shared) (H : Hp) (C : Addr) (cl : List (Str × Addr)) (fp : List Addr), PE (X.blk s H scope (compEnvC scope cl C X.env) fp) elt (tM X.K kx me)) (hfs : ∀ x, foldedSetIterable it X.env x = pure x := by intro _; rfl) (hfs1 : ∀ env x, foldedSetIterable it1 env x = pure x := by intro _ _; rfl) :
    PE X (.ListComp elt [⟨tg, it, ifs, 0⟩, ⟨tg1, it1, ifs1, 0⟩] scope pos) (tM X.K kx (mLc2 m mi g mt mi1 g1 mt1 me (own.map (·.2)) vs1)) :=
  (pe_lc2 hc hN hi ok hv hg ht hi1 hg1 ht1 he (hs := hfs) (hs1 := hfs1)).imp fun σ H Q h => lc2_go hw hw1 h
theorem s_setLc2 (i : Nat) (m : Bool) {y : Str} {py spos : Pos} {elt it tg it1 tg1 : Expr} {ifs ifs1 : List Expr} {scope : Scope} {own : List (Str × Nat)} {pos : Pos} (hc : X.calm = true) (hN : X.N.Nodup) (hy : X.N[i]? = some y) (hyl : X.env.scope.names.lookup y = some .local) (hsw : swapsWith (.ListComp elt [⟨tg, it, ifs, 0⟩, ⟨tg1, it1, ifs1, 0⟩] scope pos) (some (.Name y py)) spos.line X.env = pure true)
    (hi : PI X tg it (tI X.K kx mi)) (ok : BlkOk X.N X.env.scope scope own) (hw : ∀ i ∈ ws, i ∈ own.map (·.2)) (hw1 : ∀ i ∈ ws1, i ∈ vs1) (hv : ∀ i ∈ vs1, i ∈ own.map (·.2))
    (hg : ∀ (s : Shared) (H : Hp) (C : Addr) (cl : List (Str × Addr)) (fp : List Addr), PG (X.blk s H scope (compEnvC scope cl C X.env) fp) tg (tG X.K kx ws g)) (ht : ∀ (s : Shared) (H : Hp) (C : Addr) (cl : List (Str × Addr)) (fp : List Addr), PTs (X.blk s H scope (compEnvC scope cl C X.env) fp) ifs (tMT X.K kx mt))
    (hi1 : ∀ (s : Shared) (H : Hp) (C : Addr) (cl : List (Str × Addr)) (fp : List Addr), PI (X.blk s H scope (compEnvC scope cl C X.env) fp) tg1 it1 (tI X.K kx mi1))
    (hg1 : ∀ (s : Shared) (H : Hp) (C : Addr) (cl : List (Str × Addr)) (fp : List Addr), PG (X.blk s H scope (compEnvC scope cl C X.env) fp) tg1 (tG X.K kx ws1 g1)) (ht1 : ∀ (s : Shared) (H : Hp) (C : Addr) (cl : List (Str × Addr)) (fp : List Addr), PTs (X.blk s H scope (compEnvC scope cl C X.env) fp) ifs1 (tMT X.K kx mt1))
    (he : ∀ (s : Shared) (H : Hp) (C : Addr) (cl : List (Str × Addr)) (fp : List Addr), PE (X.blk s H scope (compEnvC scope cl C X.env) fp) elt (tM X.K kx me)) (hfs : ∀ x, foldedSetIterable it X.env x = pure x := by intro _; rfl) (hfs1 : ∀ env x, foldedSetIterable it1 env x = pure x := by intro _ _; rfl) :
    PS X (.Assign [.Name y py] (.ListComp elt [⟨tg, it, ifs, 0⟩, ⟨tg1, it1, ifs1, 0⟩] scope pos) spos) (sM X.K kx (Mi.mAsg (mLc2 m mi g mt mi1 g1 mt1 me (own.map (·.2)) vs1) (Mi.gNm i))) :=
  (ps_setLc2 (i := i) hc hN hy hyl hsw hi ok hv hg ht hi1 hg1 ht1 he (hs := hfs) (hs1 := hfs1)).imp fun D σ H ⟨ρ, G, δ, f, δ', G', rl, sr, e, k⟩ => by
  unfold Mi.mAsg at e
  split at e
  · rename_i d G1 e1
    cases e
    exact lc2_go hw hw1 ⟨ρ, G, δ, d, _, rl, sr, e1, fun v ρ1 H1 g1 r1 d1 => k ρ1 _ H1 g1 r1 ((sr.gr g1).set i d1)⟩
  · cases e
end
end Ms

/-! PyU: a list is unpacked. -/
namespace Ms
open PySem PySem.Spec L2 PyProof.Rows
open Mi (Dv MO Sto Sl Rs bnd ME MT MA MS MF Fl MG MGs MI)
def gUnL (n : Nat) (g : MGs) : MG := fun d δ G => match Mi.lstOf G d with
  | some xs => if xs.length = n then g xs δ G else none
  | none => none
section
variable {X : Cx} {kx : Kx} {es : List Expr} {pos : Pos}
theorem g_unl {ws : List Nat} {gs : MGs} {n : Nat} {kk : Nat} (hc : X.calm = true) (h : PGs X es (tGs X.K kx ws gs)) (hn : (assignEach es X.env).length = n := by rfl) (hst : (assignEach es X.env).findIdx? (·.1) = none := by rfl) : PG X (.Tuple es kk pos) (tG X.K kx ws (gUnL n gs)) :=
  (pg_unl hc h hn hst).imp fun v σ H Q ⟨ρ, G, δ, d, δ', G', rl, sr, dr, e, k⟩ => by
  unfold gUnL at e
  split at e
  · rename_i xs hx
    split at e
    · rename_i hz
      obtain ⟨a, vs, e1, h1, q⟩ := lstOf_at rl hx dr
      exact ⟨a, vs, e1, h1, by rw [← q.len]; exact hz, ρ, G, δ, _, δ', G', rl, sr, q, e, k⟩
    · cases e
  · cases e
end
end Ms

/-! PyR: a repr is kept. -/
namespace Ms
open PySem PySem.Spec L2 PyProof.Rows
open Mi (Dv MO Sto Sl Rs bnd ME MT MA MS MF Fl MG MGs MI)
open Classical in
noncomputable def txt (d : PyData) : String := if h : ∃ s : String, Str.ofString s = d.shown then h.choose else ""
theorem txt_ok {d : PyData} (h : ∃ s : String, Str.ofString s = d.shown) : Str.ofString (txt d) = d.shown := by
  unfold txt
  rw [dif_pos h]
  exact h.choose_spec
open Classical in
noncomputable def mReprK (a : ME) : ME := fun δ G => bnd (a δ G) fun x G1 => match Mi.pyT G1 x with
  | some d => if Mi.okR d ∧ Str.ofString (txt d) = d.shown then some (.str (txt d), G1) else none
  | none => none
section
variable {X : Cx} {kx : Kx} {e a b c o : Expr} {ma mb mc me mo : ME} {pos p apos : Pos}
theorem m_reprK {p : Pos} (hG : X.A.guards = some []) (hu : X.A.units + 64 < cLine) (hm : X.mg "repr" = none) (ha : PE X a (tM X.K kx ma)) (hg : Gl X "repr" := by rfl) (he : starEach [a] X.env = (false, eval a X.env) :: starEach [] X.env := by rfl) (hpl : (backTo pos (starEach [] X.env)).any (·.1) = false := by rfl) :
    PE X (.Call (.Name "repr" p) [a] [] pos) (tM X.K kx (mReprK ma)) := (pe_repr hG hu hm ha hg he hpl).imp fun σ H Q ⟨ρ, G, δ, d, G', rl, sr, e, k⟩ => by
  obtain ⟨x, G1, e1, e⟩ := Mi.bnd_eq e
  split at e
  · rename_i pd p1
    split at e
    · rename_i hz
      cases e
      refine ⟨ρ, G, δ, x, _, rl, sr, e1, fun v ρ1 H1 g1 r1 d1 => ⟨v, pd, rfl, pyT_dp r1 p1 d1, hz.1, ?_⟩⟩
      rw [← hz.2]
      exact k _ ρ1 H1 g1 r1 (.str _)
    · cases e
  · cases e
end
end Ms

/-! PyZt: zip of two tuples, by the library's own rule (RZ.pi_zipA). -/
namespace Ms
open PySem L2 PyProof.Rows
open Mi (Dv MO Sto Sl Rs bnd ME MT MA MS MF Fl MG MGs MI)
def mZipT (a b : ME) : MI := fun δ G => bnd (a δ G) fun x G1 => bnd (b δ G1) fun y G2 => match x, y with
  | .tup xs, .tup ys => some ((List.zipWith (fun p q => .tup [p, q]) xs ys, fun _ => True), G2)
  | _, _ => none
theorem i_zipT {X : Cx} {kx : Kx} {a b : Expr} {ma mb : ME} {elts : List Expr} {kk : Nat} {tpos p pos : Pos} (hm : X.mg "zip" = none) (ha : PE X a (tM X.K kx ma)) (hb : PE X b (tM X.K kx mb)) (hg : Gl X "zip" := by rfl)
    (hs : Es X a [b] := by rfl) (hs2 : Es X b [] := by rfl) (hpl : Np X pos [b] := by rfl) :
    PI X (.Tuple elts kk tpos) (.Call (.Name "zip" p) [a, b] [] pos) (tI X.K kx (mZipT ma mb)) :=
  (RZ.pi_zipA hg hm (pa_cons ha (pa_cons hb pa_nil hs2) hs) hs hpl).imp fun σ H R ⟨ρ, G, δ, ds, st, G', rl, sr, e, k⟩ => by
  obtain ⟨x, G1, e1, e⟩ := Mi.bnd_eq e
  obtain ⟨y, G2, e2, e⟩ := Mi.bnd_eq e
  refine ⟨ρ, G, δ, x, G1, rl, sr, e1, fun v ρ1 H1 g1 r1 d1 => ⟨ρ1, G1, δ, y, G2, r1, sr.gr g1, e2, fun w ρ2 H2 g2 r2 d2 => ?_⟩⟩
  split at e
  · rename_i xs ys _
    cases e
    cases d1.gr g2 with
    | @tup ad vs _ hS rS =>
    cases d2 with
    | @tup bd ws _ hT rT =>
      refine ⟨ad, bd, vs, ws, rfl, .inr ⟨hS, hT, k _ ρ2 H2 (g1.trans g2) r2 ?_⟩⟩
      refine ⟨fun ρ G H g r s => ?_, fun i ρ G H g r s hi => ?_, fun i d ρ G H z H' g r s hd hy => ?_⟩
      · have h := SqT.gw g hS
        have dr := rS.gw g
        refine ⟨vs, ws, h, SqT.gw g hT, ?_⟩
        rw [List.length_zipWith, dr.len, rT.len]
        omega
      · have h := SqT.gw g hS
        have dr := rS.gw g
        rw [List.length_zipWith, dr.len, rT.len] at hi
        have i1 : i < vs.length := by omega
        have i2 : i < ws.length := by omega
        exact ⟨vs, ws, vs[i], ws[i], h, SqT.gw g hT, List.getElem?_eq_getElem i1, List.getElem?_eq_getElem i2⟩
      · obtain ⟨T, u1, u2, ev, hN, eH, f1, f2⟩ := hy
        subst ev eH
        have h := SqT.gw g hS
        have dr := rS.gw g
        obtain ⟨p1, q1, hp, hq, rfl⟩ := zw_get xs ys i d hd
        obtain ⟨v1, hv1, dv1⟩ := dr.get hp
        obtain ⟨v2, hv2, dv2⟩ := (rT.gw g).get hq
        have t1 := f1 vs h
        rw [hv1] at t1
        cases t1
        have t2 := f2 ws (SqT.gw g hT)
        rw [hv2] at t2
        cases t2
        obtain ⟨g3, r3⟩ := r.side (.tup [u1, u2]) hN
        exact ⟨g3, r3, .tup (SqT.of upd_same) (.cons (dv1.gr g3) (.cons (dv2.gr g3) .nil))⟩
  · cases e
end Ms

/-! PyI: in, not in; xs.pop(i); sorted; list(range(n)); max of a tuple of whole numbers. -/
namespace Ms
open PySem PySem.Spec L2 PyProof.Rows
open Mi (Dv MO Sto Sl Rs bnd ME MT MA MS MF Fl MG MGs MI)
/-! ### x in xs -/
def bIn (neg : Bool) : Mi.B2
  | .int i, y, G => match Mi.seqOf G y with
    | some xs => match Mi.intsOf xs with
      | some zs => some (.bl (decide (i ∈ zs) != neg), G)
      | none => none
    | none => none
  | _, _, _ => none
theorem inV_int (i : Int) : ∀ zs : List Int, inV (.int i) (zs.map V.int) = decide (i ∈ zs)
  | [] => by simp [inV]
  | z :: zs => by
    have h := inV_int i zs
    unfold inV at h ⊢
    rw [List.map_cons, List.any_cons, h]
    by_cases c : z = i
    · subst c
      simp [eqV]
    · have c' : ¬ i = z := fun q => c q.symm
      simp [eqV, c, c']
theorem b_in {X : Cx} {kx : Kx} (neg : Bool) : B2ok X kx (bIn neg) (rIn X.K neg) := by
  intro x y G d G' ρ H v w Q e rl dx dy k
  unfold bIn at e
  split at e
  · rename_i i
    split at e
    · rename_i xs hx
      split at e
      · rename_i zs hz
        cases e
        cases dx
        obtain ⟨a, vs, ew, hs, dr⟩ := seqOf_at rl hx dy
        have ev := ints_of hz dr
        subst ev
        refine ⟨a, zs.map V.int, ew, hs, rfl, by rw [List.all_map]; exact List.all_eq_true.mpr fun z _ => rfl, ?_⟩
        rw [inV_int]
        have := k (.bl (decide (i ∈ zs) != neg)) ρ H Gr.refl rl (.bl _)
        cases neg
        · simpa using this
        · simpa using this
      · cases e
    · cases e
  · cases e
/-! ### sorted -/
def srt (ns : List Int) : List Int := ns.mergeSort fun a b => decide (a ≤ b)
theorem srt_perm (ns : List Int) : (srt ns).Perm ns := List.mergeSort_perm ns _
theorem srt_pw (ns : List Int) : (srt ns).Pairwise (· ≤ ·) := by
  have := List.pairwise_mergeSort (le := fun a b : Int => decide (a ≤ b)) (fun a b c h1 h2 => by simp at h1 h2 ⊢; omega) (fun a b => by simp; omega) ns
  exact this.imp fun h => by simpa using h
theorem srt_uniq {ns ms : List Int} (p : ms.Perm ns) (w : ms.Pairwise (· ≤ ·)) : ms = srt ns :=
  List.Perm.eq_of_pairwise (fun a b _ _ h1 h2 => Int.le_antisymm h1 h2) w (srt_pw ns) (p.trans (srt_perm ns).symm)
def fSorted (m : Bool) : List Dv → Sto → Rs Dv
  | [x], G => match Mi.lstOf G x with
    | some xs => match Mi.intsOf xs with
      | some ns => some (Mi.mkL m ((srt ns).map Dv.int) G)
      | none => none
    | none => none
  | _, _ => none
theorem drs_ints {K : PySem.W.Frag} {ρ : Rh} {H : Hp} : ∀ ns : List Int, DRs K ρ H (ns.map Dv.int) (ns.map V.int)
  | [] => .nil
  | n :: ns => .cons (.int n) (drs_ints ns)
theorem f_sorted {X : Cx} {kx : Kx} (m : Bool) : Bok X kx (fSorted m) (rSortedI X.K) := by
  intro xs G d G' ρ H vs Q e rl ds k
  unfold fSorted at e
  split at e
  · rename_i x
    split at e
    · rename_i ys hy
      split at e
      · rename_i ns hn
        have e' := Option.some.inj e
        cases ds with
        | cons a b =>
          cases b
          obtain ⟨p, us, ev, hs, dr⟩ := lstOf_at rl hy a
          have eu := ints_of hn dr
          subst ev eu
          refine ⟨p, ns, rfl, hs, fun ns' q pm pw hq => ?_⟩
          rw [srt_uniq pm pw]
          refine mkL_ok (m := m) rl (drs_ints (srt ns)) ?_ q hq
          rw [e']
          exact fun z ρ' H' g r w => k z ρ' H' g r w
      · cases e
    · cases e
  · cases e
/-! ### max of a tuple of whole numbers -/
def fMaxTI : List Dv → Sto → Rs Dv
  | [.tup xs], G => match Mi.intsOf xs with
    | some (n :: ns) => some (.int (ns.foldl max n), G)
    | _ => none
  | _, _ => none
def rMaxTI (K : PySem.W.Frag) : List V → Hp → VK → Prop := fun vs H Q => ∃ (a : Addr) (n : Int) (ns : List Int), vs = [V.ref a] ∧ SqT K H a ((n :: ns).map V.int) ∧ Q (.int (ns.foldl max n)) H
theorem reads_is {h : Heap} : ∀ {vs : List Value} {ns : List Int}, IntsAre vs ns → ReadsAll h vs (ns.map PyData.int) []
  | [], [], _ => .nil
  | _ :: _, _ :: _, hi => by
    cases hi
    rename_i h
    exact .cons (.int _ _) (reads_is h)
theorem cr_maxTI {X : Cx} {k : Nat} (hc : X.calm = true) (hr : Room k X.A) : CallR X (.builtin "max") (rMaxTI X.K) := by
  rintro pins s σ H _ us Q I r ⟨a, n, ns, rfl, ha, q⟩
  have ⟨its, r1, p1, _⟩ := I.tuple ha
  rw [Vals.ref1 r]
  have hi := r1.ints
  have hu : X.A.units + 1 + PyData.depthAll (.int n :: ns.map PyData.int) < cLine := by
    have h0 : ∀ ns : List Int, PyData.depthAll (ns.map PyData.int) = 0 := fun ns => by
      induction ns with
      | nil => simp [PyData.depthAll]
      | cons n ns ih => simp [PyData.depthAll, PyData.depth, ih]
    have := h0 (n :: ns)
    rw [List.map_cons] at this
    rw [this]
    have := hr.un
    omega
  have ra := reads_is (h := s.heap) hi
  refine PySem.W.max_tuple_data (I.ok.hd hc) p1 (x := .int n) (xs := ns.map PyData.int) ra ⟨fun x hx y hy => ?_, fun x hx => ?_⟩ hu fun i v h' tk bs hv rd kp => ?_
  · have one : ∀ {z : PyData}, z ∈ (PyData.int n :: ns.map PyData.int) → ∃ m, z = .int m := fun {z} hz => by
      have w : z ∈ (n :: ns).map PyData.int := hz
      obtain ⟨m, _, em⟩ := List.mem_map.mp w
      exact ⟨m, em.symm⟩
    obtain ⟨m1, rfl⟩ := one hx
    obtain ⟨m2, rfl⟩ := one hy
    rfl
  · rcases List.mem_cons.mp hx with rfl | hx
    · exact fun z => nomatch z
    · obtain ⟨m, _, rfl⟩ := List.mem_map.mp hx
      exact fun z => nomatch z
  · rw [PySem.W.maxD_ints] at rd
    cases rd with
    | int _ t => exact ⟨.int _, H, I.kept (t' := tk) kp, ⟨_, rfl⟩, q⟩
theorem f_maxTI {X : Cx} {kx : Kx} : Bok X kx fMaxTI (rMaxTI X.K) := by
  intro xs G d G' ρ H vs Q e rl ds k
  unfold fMaxTI at e
  split at e
  · rename_i ys
    split at e
    · rename_i n ns hn
      cases e
      cases ds with
      | cons a b =>
        cases b
        cases a with
        | @tup ad ws _ hT rT =>
          have ev := ints_of hn rT
          subst ev
          exact ⟨_, n, ns, rfl, hT, k _ ρ H Gr.refl rl (.int _)⟩
    · cases e
  · cases e
/-! ### int(flag) -/
def fIntB : List Dv → Sto → Rs Dv
  | [.bl b], G => some (.int (if b then 1 else 0), G)
  | _, _ => none
theorem f_intB {X : Cx} {kx : Kx} : Bok X kx fIntB (fun xs H Q => (∃ i, xs = [.int i] ∧ Q (.int i) H) ∨ ∃ k, xs = [.bl k] ∧ Q (.int (if k then 1 else 0)) H) := by
  intro xs G d G' ρ H vs Q e rl ds k
  unfold fIntB at e
  split at e
  · cases e
    cases ds with
    | cons a b =>
      cases b
      cases a
      exact .inr ⟨_, rfl, k _ ρ H Gr.refl rl (.int _)⟩
  · cases e
/-! ### xs.pop(i), list(range(n)) -/
def mPopAt (o a : ME) : ME := fun δ G => bnd (o δ G) fun x G1 => bnd (a δ G1) fun y G2 => match x, y with
  | .ref h, .int i => match G1[h]?, G2[h]? with
    | some (.lst _), some (.lst xs) => match Mi.ixN xs.length i with
      | some k => match xs[k]? with
        | some z => if xs.length ≤ Mi.big then some (z, G2.set h (.lst (xs.eraseIdx k))) else none
        | none => none
      | none => none
    | _, _ => none
  | _, _ => none
theorem six {n : Nat} {i : Int} {k : Nat} (hn : n ≤ Mi.big) (h : Mi.ixN n i = some k) : seqIndex? i n = some k ∧ -(2 ^ 63) ≤ i ∧ i < 2 ^ 63 := by
  unfold Mi.ixN at h
  have hb : Mi.big = 16777216 := rfl
  rw [hb] at hn
  split at h
  · split at h
    · rename_i h1 h2
      cases h
      refine ⟨?_, by omega, by omega⟩
      unfold seqIndex?
      simp only [show ¬ i < 0 by omega, if_false]
      rw [if_pos (by simp; omega)]
    · cases h
  · split at h
    · rename_i h1 h2
      cases h
      refine ⟨?_, by omega, by omega⟩
      unfold seqIndex?
      simp only [show i < 0 by omega, if_true]
      rw [if_pos (by simp; omega)]
    · cases h
section
variable {X : Cx} {kx : Kx} {e a b c o : Expr} {ma mb mc me mo : ME} {pos p apos : Pos}
theorem m_popAt (ho : PE X o (tM X.K kx mo)) (ha : PE X a (tM X.K kx ma)) (hbase : attributeBase o "pop" X.env (eval o X.env) = eval o X.env := by rfl)
    (hfew : ((backTo pos (starEach [a] X.env)).all (fun x => !x.1) && (backToKw pos (keywordEach [] X.env)).all (fun x => x.1.isSome) && decide (([a] : List Expr).length + ([] : List Keyword).length + (if ([] : List Keyword).isEmpty then 0 else 1) < 30)) = true := by rfl)
    (hline : (apos.endLine == pos.line) = true := by rfl) (hs : starEach [a] X.env = (false, eval a X.env) :: starEach [] X.env := by rfl) (hplain : (backTo pos (starEach [] X.env)).any (·.1) = false := by rfl) :
    PE X (.Call (.Attribute o "pop" apos) [a] [] pos) (tM X.K kx (mPopAt mo ma)) :=
  (pe_bm PySem.F.plainAttrs_list PySem.F.slot_list_pop PySem.F.type_list_pop mt_popAt ho (pa_cons ha pa_nil hs) hbase hfew hline hs hplain).imp fun σ H Q ⟨ρ, G, δ, d, G', rl, sr, e, k⟩ => by
  obtain ⟨x, G1, e1, e⟩ := Mi.bnd_eq e
  obtain ⟨y, G2, e2, e⟩ := Mi.bnd_eq e
  refine ⟨ρ, G, δ, x, G1, rl, sr, e1, fun v ρ1 H1 g1 r1 d1 => ?_⟩
  split at e
  · rename_i h i _
    split at e
    · rename_i z xs eh1 eh2
      split at e
      · rename_i kk hk
        split at e
        · rename_i y ey
          split at e
          · rename_i hb
            cases e
            cases d1 with
            | @ref _ ad ea =>
              obtain ⟨vs1, h1, _⟩ := lst_at r1 eh1 ea
              refine ⟨.inl ⟨rfl, _, SqL.of h1⟩, ρ1, G1, δ, _, G2, r1, sr.gr g1, e2, fun w ρ2 H2 g2 r2 d2 => ?_⟩
              obtain ⟨vs, h2, rv⟩ := lst_at r2 eh2 (ref_gr (K := X.K) g2 ea)
              cases d2
              obtain ⟨u, hu, du⟩ := rv.get ey
              obtain ⟨q1, q2, q3⟩ := six hb hk
              refine ⟨ad, vs, i, kk, u, rfl, rfl, h2, q2, q3, by rw [← rv.len]; exact q1, hu, ?_⟩
              have rd : DRs X.K ρ2 H2 (xs.eraseIdx kk) (vs.eraseIdx kk) := by
                rw [List.eraseIdx_eq_take_drop_succ, List.eraseIdx_eq_take_drop_succ]
                exact (rv.take _).app (rv.drop _)
              obtain ⟨g3, r3⟩ := r2.wr (o := .lst (vs.eraseIdx kk)) (m := .lst (xs.eraseIdx kk)) (ref_gr (K := X.K) g2 ea) fun g => .lst upd_same (rd.gr g)
              exact k u _ _ ((g1.trans g2).trans g3) r3 (du.gr g3)
          · cases e
        · cases e
      · cases e
    · cases e
  · cases e
theorem m_listR1 (m : Bool) {p p2 pos2 : Pos} (hc : X.calm = true) (hm : X.mg "list" = none) (hm2 : X.mg "range" = none) (ha : PE X a (tM X.K kx ma)) (hg : Gl X "list" := by rfl) (hg2 : Gl X "range" := by rfl)
    (na : starEach [a] X.env = (false, eval a X.env) :: starEach [] X.env := by rfl) (nr : starEach [Expr.Call (.Name "range" p2) [a] [] pos2] X.env = (false, eval (Expr.Call (.Name "range" p2) [a] [] pos2) X.env) :: starEach [] X.env := by rfl) :
    PE X (.Call (.Name "list" p) [.Call (.Name "range" p2) [a] [] pos2] [] pos) (tM X.K kx (Mi.m1 (Mi.uListR m) ma)) :=
  (pe_listRg hc hg hm (prg_1 hg2 hm2 ha na) nr).imp fun σ H Q ⟨ρ, G, δ, d, G', rl, sr, e, k⟩ => by
  obtain ⟨x, G1, e1, e⟩ := Mi.bnd_eq e
  refine ⟨ρ, G, δ, x, G1, rl, sr, e1, fun v ρ1 H1 g1 r1 d1 => ?_⟩
  unfold Mi.uListR at e
  split at e
  · split at e
    · rename_i hz
      obtain ⟨z3, z4, z5⟩ := hz
      have e' := Option.some.inj e
      cases d1
      refine ⟨_, rfl, ⟨by decide, by decide, z3, z4, by simpa using z5⟩, mkL_ok (m := m) r1 rng_ok ?_⟩
      rw [e']
      exact fun z ρ' H' g r q => k z ρ' H' (g1.trans g) r q
    · cases e
  · cases e
end
end Ms

/-! PyEn: enumerate of a tuple, by the library's enumerate over anything that begins (Begins) and draws (Draws). -/
namespace PySem
/-- enumerate(v) without a start is enumerate(v, 0), as far as its __new__ goes -/
theorem enumB_meets {v : Value} {o : Obj} {Hv : Heap → Prop} (B : Begins v o Hv) :
    Meets (Builtin.«enumerate.__new__» ⟨[.type "enumerate", v], []⟩) (fun _ R s => Hv s.heap ∧
      R (.ok (.ret (.ref (s.heap.push o).objs.size))) { s with heap := (s.heap.push o).push { cls := .type "enumerate", data := .fields #[.none, .bool false, .ref s.heap.objs.size, rawInt 0, .none, .none] } }) :=
  .of_wp fun prog w A R s both => by
    have ⟨begun, fin⟩ := both
    cases s with | mk hp g d tk os =>
    have is_sub := sub_enumerate
    have first : ∀ {A' : Around} {Q E : Value → Shared → Prop}, Q (.ref hp.objs.size) ⟨hp.push o, g, d, tk, os⟩ → wpAny (model prog w) A' (pyIter v) Q E ⟨hp, g, d, tk, os⟩ := B.iter _ _ _ _ _ _ begun
    wp_walk using first
    exact wpAny_stack_any fun st => wpAny_pure (by
      split
      · rename_i c _ _ _ _ _
        cases (c == Value.type "enumerate") <;> (wp_walk using first; exact ⟨_, rfl, fin⟩)
      · wp_walk using first
        exact ⟨_, rfl, fin⟩)
theorem enumB_call {prog : Program} {w : World} {A : Around} {E Q : Value → Shared → Prop} {s : Shared} {v : Value} {o : Obj} {Hv : Heap → Prop} (B : Begins v o Hv) (begun : Hv s.heap)
    (then_ : ∀ h', IsEnum h' (s.heap.objs.size + 1) s.heap.objs.size 0 .none → h'.get? s.heap.objs.size = some o → (∀ b ob, s.heap.get? b = some ob → h'.get? b = some ob) → Q (.ref (s.heap.objs.size + 1)) { s with heap := h' }) :
    wpAny (model prog w) A (call (.type "enumerate") [v]) Q E s := by
  have end_ : (s.heap.push o).objs.size = s.heap.objs.size + 1 := Heap.size_push ..
  have made : IsEnum ((s.heap.push o).push ⟨.type "enumerate", none, .fields #[.none, .bool false, .ref s.heap.objs.size, rawInt 0, .none, .none], #[]⟩) (s.heap.objs.size + 1) s.heap.objs.size 0 .none := end_ ▸ Heap.get?_push_size (s.heap.push o) rfl
  refine callType_new F.called_enumerate (by decide) (F.typeCall_enumerate_1 _) (F.newCall_enumerate_1 _) (fun obj => F.args_object_init_2 obj _) F.entry_enumerate_new (enumB_meets B) ⟨begun, ?_⟩
  rw [show (Value.ref (s.heap.push o).objs.size) = .ref (s.heap.objs.size + 1) by rw [end_]]
  exact ⟨⟨_, made, rfl⟩, then_ _ made (Heap.get?_push_of_some _ (Heap.get?_push_size _ B.free)) fun b ob q => Heap.get?_push_of_some _ (Heap.get?_push_of_some _ q)⟩
end PySem
namespace Ms
open PySem PySem.Spec L2 PyProof.Rows
open Mi (Dv MO Sto Sl Rs bnd ME MT MA MS MF Fl MG MGs MI)
/-- the tuple at a stands still, each item in a new pair with its number -/
def Ien (K : PySem.W.Frag) (a : Addr) : It :=
  ItW (fun i H => ∃ (xs : List V) (x : V), SqT K H a xs ∧ xs[i]? = some x)
    (fun i H vs => ∃ x, vs = [.int (i : Nat), x] ∧ ∀ xs, SqT K H a xs → xs[i]? = some x)
    (fun i H => ∃ xs : List V, SqT K H a xs ∧ xs.length = i)
/-- its two cells -/
def Est (e it a : Addr) (i : Nat) (h : Heap) : Prop := (∃ old, IsEnum h e it (0 + (i : Int)) old) ∧ h.IsTupleIter it a i
theorem Est.walk {P : Program} {w : World} {A : Around} {a e it : Addr} {i : Nat} {h : Heap} {its : Array Value} (no : A.in1.handled = none) (ne : e ≠ it) (na : a ≠ it) (nae : a ≠ e) (st : Est e it a i h) (p : h.IsTuple a its) :
    AtW P w A e [e, it] (Est e it a) h i its.size fun i vals => ∃ t x, its[i]? = some x ∧ vals = #[.int (0 + (i : Int)) t, x] :=
  ⟨_, _, _, _, WalksT.enumFrom 0 (Draws.tuple no it a na its) e ne (by simp only [List.mem_cons, List.not_mem_nil, or_false]; exact fun q => q.elim ne (Ne.symm nae)) (List.mem_cons_self ..), fun _ q => q, ⟨st.1, st.2, p⟩, fun j h' z => ⟨z.1, z.2.1⟩⟩
theorem turn_enT {P : Program} {w : World} {K : PySem.W.Frag} {elts : List Expr} {kk : Nat} {tpos : Pos} (a e it : Addr) (ne : e ≠ it) (na : a ≠ it) (nae : a ≠ e) : Turn P w K (.Tuple elts kk tpos) (Ien K a) [e, it] e (Est e it a) := by
  refine turn_of_walks (List.mem_cons_self ..) ?_ ?_ (fun _ _ _ _ _ st q => wpAny_pyIter_enum st.1.choose_spec q) ?_ ?_
  · rintro i h ⟨⟨old, ce⟩, o, co, _, fs⟩ b hb
    have here : b = e ∨ b = it := by simpa using hb
    cases here with
    | inl q => exact ⟨_, q ▸ ce, fun v z => by cases z⟩
    | inr q => exact ⟨o, q ▸ co, fun v z => by rw [fs] at z; cases z⟩
  · rintro i h h' ⟨⟨old, ce⟩, ci⟩ k
    exact ⟨⟨old, k e (List.mem_cons_self ..) _ ce⟩, ci.at (k it (List.mem_cons_of_mem _ (List.mem_cons_self ..)))⟩
  · rintro X rfl rfl rfl no i pins σ H s I st ⟨xs, x, qx, hx⟩
    obtain ⟨its, rx, px, _⟩ := I.tuple qx
    obtain ⟨u, eu, ru⟩ := rx.get hx
    refine ⟨_, _, Est.walk no ne na nae st px, by rw [List.size_toArray]; exact (List.getElem?_eq_some_iff.mp eu).1, ?_⟩
    rintro vals ⟨t, y, ey, rfl⟩
    rw [item_at eu ey]
    exact ⟨[.int (i : Nat), x], ⟨x, rfl, fun l q => I.tuple_inj q qx ▸ hx⟩, two_line, .cons ⟨t, by rw [Int.zero_add]⟩ (.cons ru .nil)⟩
  · rintro X rfl rfl rfl no i pins σ H s I st ⟨xs, qx, ends⟩
    obtain ⟨its, rx, px, _⟩ := I.tuple qx
    have W := Est.walk (P := X.prog) (w := X.w) (A := X.A) no ne na nae st px
    rw [List.size_toArray, ← rx.length, ends] at W
    exact ⟨_, W⟩
def iEnT (K : PySem.W.Frag) (ta : TA) : TI := fun σ H R => ta σ H fun vs H1 => ∃ a xs, vs = [.ref a] ∧ SqT K H1 a xs ∧ R (Ien K a) H1
/-- enumerate of this tuple, just called -/
theorem enum_new {X : Cx} {tg : List Expr × Nat × Pos} {pins : List (Addr × Obj)} {σ : L2.St} {H : Hp} {s : Shared} {R : It → Hp → Prop} {a : Addr} {xs : List V} {E : Value → Shared → Prop} (I : Inv X pins σ H s) (qx : SqT X.K H a xs) (r : R (Ien X.K a) H) :
    wpAny (model X.prog X.w) X.A (call (.type "enumerate") [.ref a]) (fun v s1 => wpAny (model X.prog X.w) X.A (pyIter v) (PIE X pins σ (.Tuple tg.1 tg.2.1 tg.2.2) R) E s1) E s := by
  obtain ⟨its, _, px, _⟩ := I.tuple qx
  have la : a < s.heap.objs.size := Heap.lt_size px.choose_spec.1
  refine enumB_call (begins_tuple a its.toArray) px fun h' ce ci kp => wpAny_pyIter_enum ce ?_
  refine ⟨_, _, _, _, H, rfl, I.kept (t' := s.toks) kp, turn_enT a _ s.heap.objs.size (Nat.succ_ne_self _) (Nat.ne_of_lt la) (Nat.ne_of_lt (Nat.lt_succ_of_lt la)), ⟨⟨_, ce⟩, _, ci, rfl, rfl⟩, fresh_ch I ?_, r⟩
  simp only [List.forall_mem_cons, List.not_mem_nil, false_implies, implies_true, and_true]
  exact ⟨Nat.le_succ _, Nat.le_refl _⟩
theorem pi_enT {X : Cx} {e : Expr} {ta : TA} {p pos tpos : Pos} {elts : List Expr} {kk : Nat} (hg : Gl X "enumerate") (hm : X.mg "enumerate" = none) (ha : PA X [e] ta) (hs : Es X e [] := by rfl) :
    PI X (.Tuple elts kk tpos) (.Call (.Name "enumerate" p) [e] [] pos) (iEnT X.K ta) :=
  ⟨fun pins s σ H R I h => Call_ (ld_blt I hg hm boot_enumerate (PyProof.Rows.callWith_type1 (thn (ha.run pos pins s σ H _ I h) fun us s1 ⟨vs, H1, I1, r1, a, xs, ev, qx, q⟩ => by
    subst ev
    rw [Vals.ref1 r1]
    exact enum_new (tg := ⟨elts, kk, tpos⟩) I1 qx q) hs rfl))⟩
def iEnumT (a : ME) : MI := fun δ G => bnd (a δ G) fun x G1 => match x with
  | .tup xs => some ((Mi.enumD 0 xs, fun _ => True), G1)
  | _ => none
theorem i_enumT {X : Cx} {kx : Kx} {a : Expr} {ma : ME} {elts : List Expr} {kk : Nat} {tpos p pos : Pos} (hm : X.mg "enumerate" = none) (ha : PE X a (tM X.K kx ma)) (hg : Gl X "enumerate" := by rfl) (hs : Es X a [] := by rfl) : PI X (.Tuple elts kk tpos) (.Call (.Name "enumerate" p) [a] [] pos) (tI X.K kx (iEnumT ma)) :=
  (pi_enT hg hm (pa_cons ha pa_nil hs) hs).imp fun σ H R ⟨ρ, G, δ, ds, st, G', rl, sr, e, k⟩ => by
  obtain ⟨x, G1, e1, e⟩ := Mi.bnd_eq e
  refine ⟨ρ, G, δ, x, G1, rl, sr, e1, fun v ρ1 H1 g1 r1 d1 => ?_⟩
  split at e
  · rename_i xs
    cases e
    cases d1 with
    | @tup ad vs _ hT rT =>
    refine ⟨ad, vs, rfl, hT, k _ ρ1 H1 g1 r1 ?_⟩
    refine ⟨fun ρ G H g r s => ?_, fun i ρ G H g r s hi => ?_, fun i d ρ G H v H' g r s hd hy => ?_⟩
    · refine ⟨vs, SqT.gw g hT, ?_⟩
      rw [enumD_len, rT.len]
    · rw [enumD_len, rT.len] at hi
      exact ⟨vs, vs[i], SqT.gw g hT, List.getElem?_eq_getElem hi⟩
    · obtain ⟨T, us, ev, hT', eH, w, eu, hv⟩ := hy
      subst eu ev eH
      have h := SqT.gw g hT
      have dr := rT.gw g
      rw [enumD_get] at hd
      cases ex : xs[i]? with
      | none => rw [ex] at hd; cases hd
      | some d0 =>
        rw [ex] at hd
        cases hd
        obtain ⟨w', hw, dw⟩ := dr.get ex
        have t1 := hv vs h
        rw [hw] at t1
        cases t1
        obtain ⟨g3, r3⟩ := r.side (.tup [.int (i : Nat), w]) hT'
        refine ⟨g3, r3, .tup (SqT.of upd_same) (.cons ?_ (.cons (dw.gr g3) .nil))⟩
        have e0 : ((0 + i : Nat) : Int) = (i : Nat) := by rw [Nat.zero_add]
        first
        | exact .int _
        | (rw [e0]; exact .int _)
  · cases e
end Ms

/-! PySw: an item of a list as a target among others. -/
namespace Ms
open PySem PySem.Spec L2 PyProof.Rows
open Mi (Dv MO Sto Sl Rs bnd ME MT MA MS MF Fl MG MGs MI)
def gSubI (o i : ME) : MG := fun d δ G => match o δ G with
  | some (.ref h, G2) => match i δ G2 with
    | some (.int k, G3) => match G3[h]? with
      | some (.lst xs) => match Mi.ixN xs.length k with
        | some j => some (δ, G3.set h (.lst (xs.set j d)))
        | none => none
      | _ => none
    | _ => none
  | _ => none
/-- two lists by their handles, one behind the other -/
def bAddL (m : Bool) : Mi.B2
  | .ref h, .ref h2, G => match G[h]?, G[h2]? with
    | some (.lst a), some (.lst b) => if a.length + b.length ≤ Mi.big then some (Mi.mkL m (a ++ b) G) else none
    | _, _ => none
  | _, _, _ => none
theorem b_addL {X : Cx} {kx : Kx} (m : Bool) : B2ok X kx (bAddL m) (rAdds X.K) := by
  intro x y G d G' ρ H v w Q e rl dx dy k
  unfold bAddL at e
  split at e
  · split at e
    · rename_i a b ha hb
      split at e
      · rename_i hz
        have e' := Option.some.inj e
        cases dx with
        | ref ea =>
          cases dy with
          | ref eb =>
            obtain ⟨vs, h1, r1⟩ := lst_at rl ha ea
            obtain ⟨us, h2, r2⟩ := lst_at rl hb eb
            refine .inr (.inr ⟨_, _, _, _, rfl, rfl, h1, h2, ?_, ?_⟩)
            · rw [← r1.len, ← r2.len, ← big_line]
              exact hz
            · refine mkL_ok (m := m) rl (r1.app r2) ?_
              rw [e']
              exact k
      · cases e
    · cases e
  · cases e
section
variable {X : Cx} {kx : Kx} {o i : Expr} {mo mi : ME} {pos' : Pos}
theorem g_subI (ho : PE X o (tM X.K kx mo)) (hi : PE X i (tM X.K kx mi))
    (ha : ∀ v, assign (.Subscript o i pos') X.env v = (do let ov ← holding [v] (eval o X.env); let iv ← holding [v, ov] (eval i X.env); standAt pos'; holding [v, ov, iv] (setItem ov iv v); release [v, ov, iv] []) := by intro _; rfl) : PG X (.Subscript o i pos') (tG X.K kx [] (gSubI mo mi)) :=
  (pg_sub ho hi set_list ha).imp fun w σ H Q ⟨ρ, G, δ, y, δ', G', rl, sr, d1, e, k⟩ => by
  unfold gSubI at e
  split at e
  · rename_i h G2 e2
    split at e
    · rename_i kk G3 e3
      split at e
      · rename_i xs eh
        split at e
        · rename_i j ej
          cases e
          refine ⟨ρ, G, δ, _, G2, rl, sr, e2, fun v ρ2 H2 g2 r2 d2 => ⟨ρ2, G2, δ, _, G3, r2, sr.gr g2, e3, fun u ρ3 H3 g3 r3 d3 => ?_⟩⟩
          cases d3
          cases d2 with
          | ref ea =>
            have ea3 := ref_gr (K := X.K) g3 ea
            obtain ⟨vs, h3, rv⟩ := lst_at r3 eh ea3
            obtain ⟨g4, r4⟩ := r3.wr (o := .lst (vs.set j w)) (m := .lst (xs.set j y)) ea3 fun g => .lst upd_same ((rv.set j (d1.gr (g2.trans g3))).gr g)
            exact ⟨_, vs, _, j, rfl, rfl, h3, by rw [← ixN_dr rv]; exact ej, k _ σ _ ((g2.trans g3).trans g4) r4 (sr.gr ((g2.trans g3).trans g4)) rfl fun _ _ => rfl⟩
        · cases e
      · cases e
    · cases e
  · cases e
end
end Ms

/-! PyDc: a copy of a dict. -/
namespace Ms
open PySem PySem.Spec L2 PyProof.Rows
open Mi (Dv MO Sto Sl Rs bnd ME MT MA MS MF Fl MG MGs MI)
def fDict : List Dv → Sto → Rs Dv
  | [.ref h], G => match G[h]? with
    | some (.dct kvs) => some (.ref G.length, G ++ [.dct kvs])
    | _ => none
  | _, _ => none
theorem f_dict {X : Cx} {kx : Kx} : Bok X kx fDict (fun xs H Q => ∃ (a : Addr) (kvs : List (L2.Key × V)), xs = [.ref a] ∧ Rd H a (.dK kvs) ∧ ∀ p, H p = none → Q (.ref p) (upd H p (.dK kvs))) := by
  intro xs G d G' ρ H vs Q e rl ds k
  unfold fDict at e
  split at e
  · rename_i h
    split at e
    · rename_i kvs eh
      cases e
      cases ds with
      | cons a b =>
        cases b
        cases a with
        | ref ea =>
          obtain ⟨ks, h1, kr⟩ := dct_at rl eh ea
          refine ⟨_, ks, rfl, .of h1, fun p hp => ?_⟩
          obtain ⟨g, r⟩ := rl.grow (p := p) (o := .dK ks) (m := .dct kvs) hp fun g => .dct upd_same (kr.imp fun _ _ q => ⟨q.1, q.2.gr g⟩)
          refine k (.ref p) _ _ g r (.ref ?_)
          rw [← rl.len, List.getElem?_append_right (Nat.le_refl _)]
          simp
    · cases e
  · cases e
end Ms

/-! PyEx: defs that may raise, raise C(), try .. except C. -/
namespace Ms
open PySem L2 PyProof.Rows
open Mi (Dv MO Sto Sl Rs bnd ME MT MA MS MF Fl MG MGs MI)
/-- an end: a statement's own, or an exception of the class c -/
inductive Fx where
  | fl (f : Fl)
  | ex (c : Nat)
inductive Rx where
  | ok (d : Dv)
  | ex (c : Nat)
abbrev MSX := Sl → Sto → Option (Fx × Sl × Sto)
abbrev MEX := Sl → Sto → Option (Rx × Sto)
abbrev MFX := List Dv → Sto → Option (Rx × Sto)
def xLift (m : MS) : MSX := fun δ G => match m δ G with
  | some (f, δ', G') => some (.fl f, δ', G')
  | none => none
def xSeq (a b : MSX) : MSX := fun δ G => match a δ G with
  | some (.fl .nx, δ1, G1) => b δ1 G1
  | r => r
def xIf (t : MT) (a b : MSX) : MSX := fun δ G => match t δ G with
  | some (true, G1) => a δ G1
  | some (false, G1) => b δ G1
  | none => none
def xRaise (c : Nat) : MSX := fun δ G => some (.ex c, δ, G)
def xExpr (e : MEX) : MSX := fun δ G => match e δ G with
  | some (.ok _, G1) => some (.fl .nx, δ, G1)
  | some (.ex c, G1) => some (.ex c, δ, G1)
  | none => none
def xRet (e : MEX) : MSX := fun δ G => match e δ G with
  | some (.ok d, G1) => some (.fl (.rt d), δ, G1)
  | some (.ex c, G1) => some (.ex c, δ, G1)
  | none => none
def xMeth (c : Nat) (m : String) (f : MFX) (o : ME) (a : MA) : MEX := fun δ G => match o δ G with
  | some (.ref h, G1) => match G1[h]? with
    | some (.ins c' fs) => if c' = c ∧ fs.lookup m = none then (match a δ G1 with
      | some (xs, G2) => f (.ref h :: xs) G2
      | none => none) else none
    | _ => none
  | _ => none
def xMethK (c : Nat) (m : String) (f : MFX) (ix : List Nat) (o : ME) (kw : MA) : MEX := fun δ G => match o δ G with
  | some (.ref h, G1) => match G1[h]? with
    | some (.ins c' fs) => if c' = c ∧ fs.lookup m = none then (match kw δ G1 with
      | some (ys, G2) => f (ix.map fun i => (.ref h :: ys).getD i .non) G2
      | none => none) else none
    | _ => none
  | _ => none
def xDef (n l : Nat) (b : MSX) : MFX := fun xs G => if xs.length = n then match b (xs.map some ++ List.replicate l none) G with
  | some (.fl .nx, _, G') => some (.ok .non, G')
  | some (.fl (.rt d), _, G') => some (.ok d, G')
  | some (.ex c, _, G') => some (.ex c, G')
  | _ => none else none
/-- try: b; except C: s -/
def mTry (c : Nat) (b : MSX) (s : MS) : MS := fun δ G => match b δ G with
  | some (.fl f, δ', G') => some (f, δ', G')
  | some (.ex c', δ', G') => if c' = c then s δ' G' else none
  | none => none
/-! ### readings -/
def KoX (K : PySem.W.Frag) (kx : Kx) (ρ : Rh) (H : Hp) (r : Fx) (δ' : Sl) (G' : Sto) (W : WX) (D : Ends) : Prop := match r with
  | .fl f => Ko K kx ρ H f δ' G' D
  | .ex c => ∀ ρ' σ' H', Gr ρ H ρ' H' → Rl K kx ρ' G' H' → Sr K ρ' H' δ' σ' → W (.ref (kx.ca c)) none σ' H'
theorem KoX.gr {K : PySem.W.Frag} {kx : Kx} {ρ ρ1 : Rh} {H H1 : Hp} {r : Fx} {δ' : Sl} {G' : Sto} {W : WX} {D : Ends} (g : Gr ρ H ρ1 H1) (k : KoX K kx ρ H r δ' G' W D) : KoX K kx ρ1 H1 r δ' G' W D := by
  cases r with
  | fl f => exact Ko.gr g k
  | ex c => exact fun ρ' σ' H' g' r s => k ρ' σ' H' (g.trans g') r s
def sX (K : PySem.W.Frag) (kx : Kx) (W : WX) (m : MSX) : TS := fun D σ H => ∃ (ρ : Rh) (G : Sto) (δ : Sl) (r : Fx) (δ' : Sl) (G' : Sto), Rl K kx ρ G H ∧ Sr K ρ H δ σ ∧ m δ G = some (r, δ', G') ∧ KoX K kx ρ H r δ' G' W D
def KeX (K : PySem.W.Frag) (kx : Kx) (ρ : Rh) (H : Hp) (r : Rx) (G' : Sto) (Q : VK) (E : XK) : Prop := match r with
  | .ok d => ∀ v ρ' H', Gr ρ H ρ' H' → Rl K kx ρ' G' H' → DR K ρ' H' d v → Q v H'
  | .ex c => ∀ ρ' H', Gr ρ H ρ' H' → Rl K kx ρ' G' H' → E (.ref (kx.ca c)) none H'
theorem KeX.gr {K : PySem.W.Frag} {kx : Kx} {ρ ρ1 : Rh} {H H1 : Hp} {r : Rx} {G' : Sto} {Q : VK} {E : XK} (g : Gr ρ H ρ1 H1) (q : KeX K kx ρ H r G' Q E) : KeX K kx ρ1 H1 r G' Q E := by
  cases r with
  | ok d => exact fun v ρ' H' g' r d => q v ρ' H' (g.trans g') r d
  | ex c => exact fun ρ' H' g' r => q ρ' H' (g.trans g') r
def tX (K : PySem.W.Frag) (kx : Kx) (W : WX) (m : MEX) : TE := fun σ H Q => ∃ (ρ : Rh) (G : Sto) (δ : Sl) (r : Rx) (G' : Sto), Rl K kx ρ G H ∧ Sr K ρ H δ σ ∧ m δ G = some (r, G') ∧ KeX K kx ρ H r G' Q (WE W σ)
/-- the def at f does what the mirror's function mf does, or raises what that raises -/
structure FnX (P : Program) (w : World) (K : PySem.W.Frag) (kx : Kx) (mg : Str → Option Value) (base : Heap) (k : Nat) (f : Addr) (fd : FuncData) (ps : List Str) (mf : MFX) : Prop where
  ar : ∀ ds G r, mf ds G = some r → ds.length = ps.length
  run : ∀ (A : Around) (outer : List Env) (s : Shared) (H : Hp) (args : Args) (us : List Value) (vs : List V) (Q : VK) (E : XK) (ρ : Rh) (G : Sto) (ds : List Dv) (r : Rx) (G' : Sto), A.guards = some [] → Room k A → Env0 P w K mg base A outer s H →
    BindsTo s fd args (ps.zip us) → Vals vs us → Rl K kx ρ G H → DRs K ρ H ds vs → mf ds G = some (r, G') → KeX K kx ρ H r G' Q E →
    codeAny (model P w) A (.call (.ref f) args) (CR (L2.CX P w) outer P w H s Q E) s
theorem FnX.mono {P : Program} {w : World} {K : PySem.W.Frag} {kx : Kx} {mg : Str → Option Value} {base : Heap} {j k : Nat} {f : Addr} {fd : FuncData} {ps : List Str} {mf : MFX} (F : FnX P w K kx mg base j f fd ps mf) (h : j ≤ k) : FnX P w K kx mg base k f fd ps mf :=
  ⟨F.ar, fun A outer s H args us vs Q E ρ G ds d G' hG hr => F.run A outer s H args us vs Q E ρ G ds d G' hG (hr.mono h)⟩
/-- a statement that lets nothing out does so in a context that would take something -/
theorem _root_.L2.PS.nox {X : Cx} {st : Stmt} {t : TS} (h : PS X.nox st t) : PS X st t := by
  constructor
  intro pins s σ H D inv read
  have ran := h.run pins s σ H D (inv.wish fun _ _ => False) read
  apply wpAny_mono ran
  · intro flow after ended
    exact ended.unwish
  · intro _ _ impossible
    exact impossible.elim
/-- a class of the text that is an exception's is met by an except clause that names it -/
theorem exm_self {K : PySem.W.Frag} {S : Addr} (below : PySem.W.subIn K (.ref S) (.type "BaseException") = some true) (own : (PySem.W.clsIn K S).isSome = true) (kind : PySem.W.typeIn K (.ref S) = some (.type "type")) (itself : PySem.W.subIn K (.ref S) (.ref S) = some true) : PySem.W.exmOne K (.ref S) (.ref S) = some true := by
  simp only [PySem.W.exmOne, PySem.W.kitCls, PySem.W.kitOne, below, own, kind, itself, beq_self_eq_true, Bool.and_self, if_true, Bool.true_and]
section
variable {X : Cx} {W : WX} {kx : Kx} {e a b c o : Expr} {ma mb mc me mo : ME} {mt : MT} {pos p apos pos' : Pos} {st : Stmt} {rest es : List Expr} {mas mks : MA} {ms : MS} {m1 m2 : MSX} {mx : MEX} {bs ta tb : List Stmt} {k cn : Nat} {f : Addr} {fd : FuncData} {ps : List Str} {mf : MFX} {x : Str}
/-! ### statements -/
theorem x_lift (h : PS X.nox st (sM X.K kx ms)) : PS X st (sX X.K kx W (xLift ms)) := h.nox.imp fun D σ H ⟨ρ, G, δ, r, δ', G', rl, sr, e, k⟩ => by
  unfold xLift at e
  split at e
  · rename_i f δ1 G1 e1
    cases e
    exact ⟨ρ, G, δ, f, _, _, rl, sr, e1, k⟩
  · cases e
theorem xs_lift (h : PSs X.nox bs (sM X.K kx ms)) : PSs X bs (sX X.K kx W (xLift ms)) := h.nox.imp fun D σ H ⟨ρ, G, δ, r, δ', G', rl, sr, e, k⟩ => by
  unfold xLift at e
  split at e
  · rename_i f δ1 G1 e1
    cases e
    exact ⟨ρ, G, δ, f, _, _, rl, sr, e1, k⟩
  · cases e
theorem x_one (h : PS X st (sX X.K kx W m1)) : PSs X [st] (sX X.K kx W m1) := pss_one h
theorem x_seq (h1 : PS X st (sX X.K kx W m1)) (h2 : PSs X bs (sX X.K kx W m2)) : PSs X (st :: bs) (sX X.K kx W (xSeq m1 m2)) := (pss_cons h1 h2).imp fun D σ H ⟨ρ, G, δ, f, δ', G', rl, sr, e, k⟩ => by
  unfold xSeq at e
  split at e
  · rename_i δ1 G1 ea
    exact ⟨ρ, G, δ, .fl .nx, δ1, G1, rl, sr, ea, fun ρ1 σ1 H1 g r s => ⟨ρ1, G1, δ1, f, δ', G', r, s, e, k.gr g⟩⟩
  · rename_i hne
    refine ⟨ρ, G, δ, f, δ', G', rl, sr, e, ?_⟩
    cases f with
    | ex c => exact k
    | fl f =>
      intro ρ1 σ1 H1 g r s
      have := k ρ1 σ1 H1 g r s
      cases f with
      | nx => exact absurd e (hne δ' G')
      | rt d => exact this
      | bk => exact this
      | ct => exact this
theorem x_if (hc : PT X.nox c (tMT X.K kx mt)) (ha : PSs X ta (sX X.K kx W m1)) (hb : PSs X tb (sX X.K kx W m2)) : PS X (.If c ta tb pos) (sX X.K kx W (xIf mt m1 m2)) := (ps_if hc.nox ha hb).imp fun D σ H ⟨ρ, G, δ, f, δ', G', rl, sr, e, k⟩ => by
  unfold xIf at e
  split at e
  · rename_i G1 e1
    refine ⟨ρ, G, δ, true, G1, rl, sr, e1, fun ρ1 H1 g1 r1 => ?_⟩
    dsimp only
    rw [if_pos rfl]
    exact ⟨ρ1, G1, δ, f, δ', G', r1, sr.gr g1, e, k.gr g1⟩
  · rename_i G1 e1
    refine ⟨ρ, G, δ, false, G1, rl, sr, e1, fun ρ1 H1 g1 r1 => ?_⟩
    dsimp only
    rw [if_neg (fun z => Bool.false_ne_true z)]
    exact ⟨ρ1, G1, δ, f, δ', G', r1, sr.gr g1, e, k.gr g1⟩
  · cases e
theorem x_expr (he : PE X e (tX X.K kx W mx)) (hs : swapsWith e none pos.line X.env = pure false := by rfl) : PS X (.Expr e pos) (sX X.K kx W (xExpr mx)) := (ps_expr he hs).imp fun D σ H ⟨ρ, G, δ, f, δ', G', rl, sr, e, k⟩ => by
  unfold xExpr at e
  split at e
  · rename_i d G1 e1
    cases e
    exact ⟨ρ, G, δ, .ok d, _, rl, sr, e1, fun v ρ1 H1 g1 r1 d1 => k ρ1 σ H1 g1 r1 (sr.gr g1)⟩
  · rename_i c G1 e1
    cases e
    exact ⟨ρ, G, δ, .ex c, _, rl, sr, e1, fun ρ1 H1 g1 r1 => k ρ1 σ H1 g1 r1 (sr.gr g1)⟩
  · cases e
theorem x_ret (he : PE X e (tX X.K kx W mx)) : PS X (.Return (some e) pos) (sX X.K kx W (xRet mx)) := (ps_ret he).imp fun D σ H ⟨ρ, G, δ, f, δ', G', rl, sr, e, k⟩ => by
  unfold xRet at e
  split at e
  · rename_i d G1 e1
    cases e
    exact ⟨ρ, G, δ, .ok d, _, rl, sr, e1, fun v ρ1 H1 g1 r1 d1 => k ρ1 σ H1 g1 r1 (sr.gr g1) v d1⟩
  · rename_i c G1 e1
    cases e
    exact ⟨ρ, G, δ, .ex c, _, rl, sr, e1, fun ρ1 H1 g1 r1 => k ρ1 σ H1 g1 r1 (sr.gr g1)⟩
  · cases e
/-! ### raise C() -/
def bmExc : List Value := [.type "Exception", .type "BaseException", .type "object"]
/-- C is an exception class of the program without own __init__, below Exception -/
structure Xc (K : PySem.W.Frag) (mg : Str → Option Value) (C : Addr) (x : Str) : Prop where
  g : mg x = some (.ref C)
  q : PySem.W.excIn K C bmExc "Exception.__new__" = true
  k : PySem.W.keepIn K (.ref C) = true
  s : PySem.W.subIn K (.ref C) (.type "BaseException") = some true
  t : PySem.W.typeIn K (.ref C) = some (.type "type")
  m : PySem.W.exmOne K (.ref C) (.ref C) = some true
theorem pmk_own0 {C : Addr} (T : Xc X.K X.mg C x) (hg : Gl X x) (hdb : (x == ("__debug__" : Str)) = false := by decide) : PMk X (.Call (.Name x p) [] [] pos) (fun _ H Q => Q (.ref C) none H) := by
  intro pins s σ H Q I h
  refine called_by I hg T.g hdb ?_
  refine PySem.W.callWith_K0 I.kIn T.k ?_
  show wpAny _ _ (call (.ref C) []) _ _ _
  obtain ⟨bm, N, nm, qn, bs, hdct, sn, sub, ab, col, dd, k0, k1, k2, k3, k5, mN, hC, hN, hni, TT⟩ := exc_obj I.kIn T.q
  refine wpAny_call_exc_subT PySem.F.excBase_Exception TT hC hN hni (fun h' e hm => ?_) (Nat.zero_le _)
  exact mk_of I hm (raises_own T.s T.t) h (I.hok.gone hm.new)
theorem x_raise (hc : X.calm = true) (tk : Takes X W) (T : Xc X.K X.mg (kx.ca cn) x) (hg : Gl X x := by rfl) (hdb : (x == ("__debug__" : Str)) = false := by decide) : PS X (.Raise (some (.Call (.Name x p) [] [] pos)) none pos') (sX X.K kx W (xRaise cn)) :=
  (ps_raise hc tk (pmk_own0 T hg hdb)).imp fun D σ H ⟨ρ, G, δ, f, δ', G', rl, sr, e, k⟩ => by
  cases e
  exact k ρ σ H Gr.refl rl sr
/-! ### calls of methods that may raise -/
theorem run_x {pins : List (Addr × Obj)} {σ : L2.St} {H : Hp} {s : Shared} {Q : VK} {us : List Value} {vs : List V} {kw : List (Str × Value)} {ws : List Value} {ρ : Rh} {G : Sto} {ds : List Dv} {r : Rx} {G' : Sto} (F : FnX X.prog X.w X.K kx X.mg X.base k f fd ps mf) (hG : X.A.guards = some []) (hr : Room k X.A) (tk : Takes X W)
    (I : Inv X pins σ H s) (hb : BindsTo s fd ⟨us, kw⟩ (ps.zip ws)) (rv : Vals vs ws) (rl : Rl X.K kx ρ G H) (dr : DRs X.K ρ H ds vs) (e : mf ds G = some (r, G'))
    (q : KeX X.K kx ρ H r G' Q (WE W σ)) :
    wpAny (model X.prog X.w) X.A (call (.ref f) us kw) (EP X pins σ Q) X.xe s := by
  refine wpAny_call (codeAny_mono (F.run X.A X.stack s H ⟨us, kw⟩ ws vs Q (WE W σ) ρ G ds r G' hG hr I.env0 hb rv rl dr e q) fun res s' h => ?_)
  match res, h with
  | .error e, out => exact passAt tk σ pins H s e s' I out
  | .ok (.ret u), back => exact I.after back
theorem x_meth {m : String} {pl : Sem Bool} (ho : PE X.nox o (tM X.K kx mo)) (hc : Cls X.K (kx.ca cn)) (hm : Meth X.K (kx.ca cn) (Str.ofString m) f) (F : FnX X.prog X.w X.K kx X.mg X.base k f fd ps mf) (hG : X.A.guards = some []) (hr : Room k X.A) (tk : Takes X W) (hb : Binds X.K fd ps []) (ha : PA X (e :: es) (tMA X.K kx mas))
    (hst : Es X e es := by rfl) (hpl : Np X pos es := by rfl)
    (ht : eval (.Call (.Attribute o (Str.ofString m) apos) (e :: es) [] pos) X.env = (do let ov ← eval o X.env; standAt apos.atName; let (f, first) ← holding [ov] (getMethod ov (Str.ofString m) pl); callWith pos f first (backTo pos (starEach (e :: es) X.env)) (backToKw pos (keywordEach [] X.env))) := by rfl) :
    PE X (.Call (.Attribute o (Str.ofString m) apos) (e :: es) [] pos) (tX X.K kx W (xMeth cn m mf mo mas)) := ⟨fun pins s σ H Q I h => by
  obtain ⟨ρ, G, δ, d, G', rl, sr, e0, q⟩ := h
  unfold xMeth at e0
  split at e0
  · rename_i h G1 e1
    refine PySem.W.methodCall_KW (pl := pl) (thn (ho.nox.run pins s σ H (fun v H1 => ∃ ρ1, Gr ρ H ρ1 H1 ∧ Rl X.K kx ρ1 G1 H1 ∧ DR X.K ρ1 H1 (.ref h) v) I ⟨ρ, G, δ, _, G1, rl, sr, e1, fun v ρ1 H1 g r d => ⟨ρ1, g, r, d⟩⟩) fun u s1 ⟨v, H1, I1, rx, ρ1, g1, r1, d1⟩ => ?_) ht
    split at e0
    · rename_i c' fs eh
      split at e0
      · rename_i hz
        obtain ⟨hz1, hz2⟩ := hz
        subst hz1
        split at e0
        · rename_i ds G2 e3
          cases d1 with
          | @ref _ ad ea =>
            obtain ⟨dx, fs', h1, fr⟩ := ins_at r1 eh ea
            obtain rfl : u = Value.ref ad := rx
            refine getmeth_ok I1 h1 hc hm ((flook_ok fr).2 hz2) ?_
            refine PySem.W.callWith_K (first := [.ref ad]) (h₀ := X.base) I.ok.mod.kin hm.kp (thn (ha.run pos pins s1 σ H1 (fun vs H2 => ∃ ρ2, Gr ρ1 H1 ρ2 H2 ∧ Rl X.K kx ρ2 G2 H2 ∧ DRs X.K ρ2 H2 ds vs) I1 ⟨ρ1, G1, δ, ds, G2, r1, sr.gr g1, e3, fun vs ρ2 H2 g r d => ⟨ρ2, g, r, d⟩⟩) fun us s2 ⟨vs, H2, I2, r, ρ2, g2, r2, d2⟩ => ⟨I2.kIn, ?_⟩) hst hpl
            have dd : DRs X.K ρ2 H2 (.ref h :: ds) (.ref ad :: vs) := .cons ((DR.ref ea).gr g2) d2
            have rr : Vals (V.ref ad :: vs) (Value.ref ad :: us) := .cons rfl r
            have hb' := hb s2 (Value.ref ad :: us) I2.kIn (lenOf (F.ar _ _ _ e0) dd rr)
            rw [List.append_nil] at hb'
            exact run_x F hG hr tk I2 hb' rr r2 dd e0 (q.gr (g1.trans g2))
        · cases e0
      · cases e0
    · cases e0
  · cases e0⟩
theorem x_meth0 {m : String} {pl : Sem Bool} (ho : PE X.nox o (tM X.K kx mo)) (hc : Cls X.K (kx.ca cn)) (hm : Meth X.K (kx.ca cn) (Str.ofString m) f) (F : FnX X.prog X.w X.K kx X.mg X.base k f fd ps mf) (hG : X.A.guards = some []) (hr : Room k X.A) (tk : Takes X W) (hb : Binds X.K fd ps [])
    (ht : eval (.Call (.Attribute o (Str.ofString m) apos) [] [] pos) X.env = (do let ov ← eval o X.env; standAt apos.atName; let (f, first) ← holding [ov] (getMethod ov (Str.ofString m) pl); callWith pos f first (backTo pos (starEach [] X.env)) (backToKw pos (keywordEach [] X.env))) := by rfl) :
    PE X (.Call (.Attribute o (Str.ofString m) apos) [] [] pos) (tX X.K kx W (xMeth cn m mf mo Mi.mNil)) := ⟨fun pins s σ H Q I h => by
  obtain ⟨ρ, G, δ, d, G', rl, sr, e0, q⟩ := h
  unfold xMeth at e0
  split at e0
  · rename_i h G1 e1
    refine PySem.W.methodCall_KW (pl := pl) (thn (ho.nox.run pins s σ H (fun v H1 => ∃ ρ1, Gr ρ H ρ1 H1 ∧ Rl X.K kx ρ1 G1 H1 ∧ DR X.K ρ1 H1 (.ref h) v) I ⟨ρ, G, δ, _, G1, rl, sr, e1, fun v ρ1 H1 g r d => ⟨ρ1, g, r, d⟩⟩) fun u s1 ⟨v, H1, I1, rx, ρ1, g1, r1, d1⟩ => ?_) ht
    split at e0
    · rename_i c' fs eh
      split at e0
      · rename_i hz
        obtain ⟨hz1, hz2⟩ := hz
        subst hz1
        have e4 : mf [.ref h] G1 = some (d, G') := e0
        cases d1 with
        | @ref _ ad ea =>
          obtain ⟨dx, fs', h1, fr⟩ := ins_at r1 eh ea
          obtain rfl : u = Value.ref ad := rx
          refine getmeth_ok I1 h1 hc hm ((flook_ok fr).2 hz2) ?_
          have dd : DRs X.K ρ1 H1 [.ref h] [.ref ad] := .cons (.ref ea) .nil
          have rr : Vals [V.ref ad] [Value.ref ad] := .cons rfl .nil
          have hb' := hb s1 [Value.ref ad] I1.kIn (lenOf (F.ar _ _ _ e4) dd rr)
          exact PySem.W.callWith_K0 (first := [.ref ad]) I1.kIn hm.kp (run_x (us := [.ref ad]) F hG hr tk I1 hb' rr r1 dd e4 (q.gr g1))
      · cases e0
    · cases e0
  · cases e0⟩
/-- o.m(k = v, ..) -/
theorem x_methK0 {kws : List Keyword} {ks : List Str} {ix : List Nat} {m : String} {pl : Sem Bool} (ho : PE X.nox o (tM X.K kx mo)) (hc : Cls X.K (kx.ca cn)) (hm : Meth X.K (kx.ca cn) (Str.ofString m) f) (F : FnX X.prog X.w X.K kx X.mg X.base k f fd ps mf) (hG : X.A.guards = some []) (hr : Room k X.A) (tk : Takes X W) (hb : KBm fd ps ks 1 ix) (hl : Len mks ks.length) (hkw : PK X kws (tMA X.K kx mks))
    (hall : Ka X pos kws := by rfl) (hks : Ks X pos kws ks := by rfl)
    (hpl : ((backTo pos (starEach [] X.env)).any (·.1) || (backToKw pos (keywordEach kws X.env)).any (·.1.isNone)) = false := by rfl)
    (ht : eval (.Call (.Attribute o (Str.ofString m) apos) [] kws pos) X.env = (do let ov ← eval o X.env; standAt apos.atName; let (f, first) ← holding [ov] (getMethod ov (Str.ofString m) pl); callWith pos f first (backTo pos (starEach [] X.env)) (backToKw pos (keywordEach kws X.env))) := by rfl) :
    PE X (.Call (.Attribute o (Str.ofString m) apos) [] kws pos) (tX X.K kx W (xMethK cn m mf ix mo mks)) := ⟨fun pins s σ H Q I h => by
  obtain ⟨ρ, G, δ, d, G', rl, sr, e0, q⟩ := h
  unfold xMethK at e0
  split at e0
  · rename_i h G1 e1
    refine PySem.W.methodCall_KW (pl := pl) (thn (ho.nox.run pins s σ H (fun v H1 => ∃ ρ1, Gr ρ H ρ1 H1 ∧ Rl X.K kx ρ1 G1 H1 ∧ DR X.K ρ1 H1 (.ref h) v) I ⟨ρ, G, δ, _, G1, rl, sr, e1, fun v ρ1 H1 g r d => ⟨ρ1, g, r, d⟩⟩) fun u s1 ⟨v, H1, I1, rx, ρ1, g1, r1, d1⟩ => ?_) ht
    split at e0
    · rename_i c' fs eh
      split at e0
      · rename_i hz
        obtain ⟨hz1, hz2⟩ := hz
        subst hz1
        split at e0
        · rename_i ds G2 e3
          cases d1 with
          | @ref _ ad ea =>
            obtain ⟨dx, fs', h1, fr⟩ := ins_at r1 eh ea
            obtain rfl : u = Value.ref ad := rx
            refine getmeth_ok I1 h1 hc hm ((flook_ok fr).2 hz2) ?_
            refine PySem.W.callWith_KW0 (first := [.ref ad]) (h₀ := X.base) I.ok.mod.kin hm.kp hall (thn (hkw.run pos pins s1 σ H1 (fun vs H2 => ∃ ρ2, Gr ρ1 H1 ρ2 H2 ∧ Rl X.K kx ρ2 G2 H2 ∧ DRs X.K ρ2 H2 ds vs) I1 ⟨ρ1, _, δ, ds, G2, r1, sr.gr g1, e3, fun vs ρ2 H2 g r d => ⟨ρ2, g, r, d⟩⟩) fun us s2 ⟨vs, H2, I2, r, ρ2, g2, r2, d2⟩ => ⟨I2.kIn, ?_⟩) hpl
            rw [hks]
            have hlen : us.length = ks.length := by rw [← r.length, ← d2.len]; exact hl _ _ _ _ e3
            have dd : DRs X.K ρ2 H2 (.ref h :: ds) (.ref ad :: vs) := .cons ((DR.ref ea).gr g2) d2
            have rr : Vals (V.ref ad :: vs) (Value.ref ad :: us) := .cons rfl r
            have hb' := hb s2 [Value.ref ad] us rfl hlen
            exact run_x (us := [.ref ad]) F hG hr tk I2 hb' (pick_vals rr ix) r2 (pick_dr dd ix) e0 (q.gr (g1.trans g2))
        · cases e0
      · cases e0
    · cases e0
  · cases e0⟩
/-! ### try -/
theorem takes0 {X : Cx} : Takes X fun _ _ _ _ => False := fun u s' ⟨_, _, _, _, _, _, _, _, _, _, _, _, _, _, _, _, z⟩ => False.elim z
theorem s_try {np : Pos} {b₀ : Stmt} {body suite : List Stmt} (hs : X.stack = X.env :: X.outer) (hf : X.env.frame = some X.env.locals) (T : Xc X.K X.mg (kx.ca cn) x)
    (hb : ∀ (W : WX) (pn : List (Addr × Obj)) (xe : Value → Shared → Prop), Takes (X.tr pn xe) W → PSs (X.tr pn xe) body (sX X.K kx W m1))
    (hsu : ∀ (a : Addr) (pn : List (Addr × Obj)), PSs (X.suite a pn) (b₀ :: suite) (sM X.K kx ms)) (hg : Gl X x := by rfl) (hdb : (x == ("__debug__" : Str)) = false := by decide) :
    PS X (.Try body [.ExceptHandler (some (.Name x np)) none (b₀ :: suite) pos'] [] [] pos) (sM X.K kx (mTry cn m1 ms)) :=
  (ps_try_only (ts := fun _ _ _ => sM X.K kx ms) (tb := fun W => sX X.K kx W m1) (c := .ref (kx.ca cn)) hs hf ⟨hg, hdb, .inl T.g⟩ takes0 (fun W pn xe tk _ => hb W pn xe tk) (fun a oe cls d pn _ _ => hsu a _)).imp fun D σ H ⟨ρ, G, δ, f, δ', G', rl, sr, e, k⟩ => by
  unfold mTry at e
  split at e
  · rename_i f1 δ1 G1 e1
    cases e
    exact ⟨ρ, G, δ, .fl _, _, _, rl, sr, e1, k⟩
  · rename_i c' δ1 G1 e1
    split at e
    · rename_i hcc
      subst hcc
      refine ⟨ρ, G, δ, .ex _, δ1, G1, rl, sr, e1, fun ρ1 σ1 H1 g1 r1 s1 => ⟨true, T.m, fun _ a _ => ⟨ρ1, G1, δ1, f, δ', G', r1, s1, e, k.gr g1⟩, fun z => absurd z (by decide)⟩⟩
    · cases e
  · cases e
end
/-- the same of a mirror's def that may raise -/
theorem xdef_args {n l : Nat} {mb : MSX} {ds : List Dv} {G : Sto} {r : Rx × Sto} (e : xDef n l mb ds G = some r) : ds.length = n := by
  unfold xDef at e
  exact Decidable.byContradiction fun z => by rw [if_neg z] at e; cases e
theorem xdef_body {n l : Nat} {mb : MSX} {ds : List Dv} {G G' : Sto} {r : Rx} (e : xDef n l mb ds G = some (r, G')) :
    ∃ fx δ', mb (ds.map some ++ List.replicate l none) G = some (fx, δ', G') ∧ ((fx = .fl .nx ∧ r = .ok .non) ∨ (∃ d, fx = .fl (.rt d) ∧ r = .ok d) ∨ ∃ c, fx = .ex c ∧ r = .ex c) := by
  have z := xdef_args e
  unfold xDef at e
  rw [if_pos z] at e
  split at e
  · rename_i δ' G2 eb
    cases e
    exact ⟨_, δ', eb, .inl ⟨rfl, rfl⟩⟩
  · rename_i d δ' G2 eb
    cases e
    exact ⟨_, δ', eb, .inr (.inl ⟨d, rfl, rfl⟩)⟩
  · rename_i c δ' G2 eb
    cases e
    exact ⟨_, δ', eb, .inr (.inr ⟨c, rfl, rfl⟩)⟩
  · cases e
/-- a def (or method) of the text that may raise -/
theorem fn_x {P : Program} {w : World} {K : PySem.W.Frag} {kx : Kx} {mg : Str → Option Value} {base : Heap} {k l : Nat} {x qual : Str} {st : Stmt} {f : Addr} {fd : FuncData} {N ps : List Str} {mb : MSX} (F : Fun K x qual st f fd) (S : FnScope N ps (defScope st)) (hN : N.length = ps.length + l)
    (hbody : ∀ (cdv : Value) (A : Around) (outer : List Env) (s : Shared) (H : Hp) (E : XK), Room k (A.deeper (envOfC qual (defScope st) s.heap.objs.size f cdv)) → A.guards = some [] →
      Takes (cxOf (L2.CX P w) P w K mg base N qual (defScope st) f cdv A outer s H E) (fun cls d _ H => E cls d H) →
      PSs (cxOf (L2.CX P w) P w K mg base N qual (defScope st) f cdv A outer s H E) (defBody st) (sX K kx (fun cls d _ H => E cls d H) mb)) :
    FnX P w K kx mg base (k + 1) f fd ps (xDef ps.length l mb) := by
  refine ⟨fun _ _ _ e => xdef_args e, fun A outer s H args us vs Q E ρ G ds r G' quiet hr env hb rv rl dr e q => ?_⟩
  have hl : vs.length = ps.length := dr.len ▸ xdef_args e
  obtain ⟨fx, δ', eb, out⟩ := xdef_body e
  refine entered F S hr env hb rv hl (fun cdv deep => hbody cdv A outer s H E deep quiet (takes_of rfl rfl rfl rfl)) ⟨ρ, G, _, fx, δ', G', rl, sr_start dr (by rw [hN, hl]), eb, ?_⟩
  rcases out with ⟨rfl, rfl⟩ | ⟨d, rfl, rfl⟩ | ⟨c, rfl, rfl⟩
  · exact fun ρ' σ' H' g r' _ => q _ ρ' H' g r' .non
  · exact fun ρ' σ' H' g r' _ v dv => q v ρ' H' g r' dv
  · exact fun ρ' σ' H' g r' _ => q ρ' H' g r'
/-! ### bundles -/
structure MetX (P : Program) (w : World) (K : PySem.W.Frag) (kx : Kx) (mg : Str → Option Value) (base : Heap) (k cn : Nat) (m qual : Str) (st : Stmt) (ps : List Str) (mf : MFX) : Prop where
  ex : ∃ f fd, Fun K m qual st f fd ∧ Cls K (kx.ca cn) ∧ Meth K (kx.ca cn) m f ∧ FnX P w K kx mg base k f fd ps mf ∧ Binds K fd ps []
abbrev BdyX (P : Program) (w : World) (K : PySem.W.Frag) (kx : Kx) (mg : Str → Option Value) (base : Heap) (k : Nat) (N : List Str) (qual : Str) (st : Stmt) (mb : MSX) : Prop :=
  ∀ (f : Addr) (cdv : Value) (A : Around) (outer : List Env) (s : Shared) (H : Hp) (E : XK), Room k (A.deeper (envOfC qual (defScope st) s.heap.objs.size f cdv)) → A.guards = some [] →
    Takes (cxOf (L2.CX P w) P w K mg base N qual (defScope st) f cdv A outer s H E) (fun cls d _ H => E cls d H) →
    PSs (cxOf (L2.CX P w) P w K mg base N qual (defScope st) f cdv A outer s H E) (defBody st) (sX K kx (fun cls d _ H => E cls d H) mb)
theorem mex_of {P : Program} {w : World} {K : PySem.W.Frag} {kx : Kx} {mg : Str → Option Value} {base : Heap} {k l cn : Nat} {m qual : Str} {st : Stmt} {N ps : List Str} {mb : MSX} (c : Cls K (kx.ca cn)) (D : Dfm K (kx.ca cn) m qual st) (S : FnScope N ps (defScope st)) (hN : N.length = ps.length + l) (hb : Bp m qual st ps)
    (b : BdyX P w K kx mg base k N qual st mb) : MetX P w K kx mg base (k + 1) cn m qual st ps (xDef ps.length l mb) := by
  obtain ⟨f, fd, F, hm⟩ := D.ex
  exact ⟨f, fd, F, c, hm, fn_x F S hN (b f), F.binds hb⟩
section
variable {X : Cx} {W : WX} {kx : Kx} {e o : Expr} {mo : ME} {pos p apos : Pos} {es : List Expr} {mas mks : MA} {k cn : Nat} {st : Stmt} {ps : List Str} {mf : MFX} {qual : Str}
theorem x_mt {m : String} {pl : Sem Bool} (c : MetX X.prog X.w X.K kx X.mg X.base k cn (Str.ofString m) qual st ps mf) (hG : X.A.guards = some []) (hr : Room k X.A) (tk : Takes X W) (ho : PE X.nox o (tM X.K kx mo)) (ha : PA X (e :: es) (tMA X.K kx mas))
    (hst : Es X e es := by rfl) (hpl : Np X pos es := by rfl)
    (ht : eval (.Call (.Attribute o (Str.ofString m) apos) (e :: es) [] pos) X.env = (do let ov ← eval o X.env; standAt apos.atName; let (f, first) ← holding [ov] (getMethod ov (Str.ofString m) pl); callWith pos f first (backTo pos (starEach (e :: es) X.env)) (backToKw pos (keywordEach [] X.env))) := by rfl) :
    PE X (.Call (.Attribute o (Str.ofString m) apos) (e :: es) [] pos) (tX X.K kx W (xMeth cn m mf mo mas)) := by
  obtain ⟨f, fd, F, hc, hm, G, b⟩ := c.ex
  exact x_meth ho hc hm G hG hr tk b ha hst hpl ht
theorem x_mt0 {m : String} {pl : Sem Bool} (c : MetX X.prog X.w X.K kx X.mg X.base k cn (Str.ofString m) qual st ps mf) (hG : X.A.guards = some []) (hr : Room k X.A) (tk : Takes X W) (ho : PE X.nox o (tM X.K kx mo))
    (ht : eval (.Call (.Attribute o (Str.ofString m) apos) [] [] pos) X.env = (do let ov ← eval o X.env; standAt apos.atName; let (f, first) ← holding [ov] (getMethod ov (Str.ofString m) pl); callWith pos f first (backTo pos (starEach [] X.env)) (backToKw pos (keywordEach [] X.env))) := by rfl) :
    PE X (.Call (.Attribute o (Str.ofString m) apos) [] [] pos) (tX X.K kx W (xMeth cn m mf mo Mi.mNil)) := by
  obtain ⟨f, fd, F, hc, hm, G, b⟩ := c.ex
  exact x_meth0 ho hc hm G hG hr tk b ht
theorem x_mtK0 {kws : List Keyword} {ks : List Str} {ix : List Nat} {m : String} {pl : Sem Bool} (c : MetX X.prog X.w X.K kx X.mg X.base k cn (Str.ofString m) qual st ps mf) (hG : X.A.guards = some []) (hr : Room k X.A) (tk : Takes X W) (hb : Bk (Str.ofString m) qual st ps ks 1 ix) (hl : Len mks ks.length) (ho : PE X.nox o (tM X.K kx mo)) (hkw : PK X kws (tMA X.K kx mks))
    (hall : Ka X pos kws := by rfl) (hks : Ks X pos kws ks := by rfl)
    (hpl : ((backTo pos (starEach [] X.env)).any (·.1) || (backToKw pos (keywordEach kws X.env)).any (·.1.isNone)) = false := by rfl)
    (ht : eval (.Call (.Attribute o (Str.ofString m) apos) [] kws pos) X.env = (do let ov ← eval o X.env; standAt apos.atName; let (f, first) ← holding [ov] (getMethod ov (Str.ofString m) pl); callWith pos f first (backTo pos (starEach [] X.env)) (backToKw pos (keywordEach kws X.env))) := by rfl) :
    PE X (.Call (.Attribute o (Str.ofString m) apos) [] kws pos) (tX X.K kx W (xMethK cn m mf ix mo mks)) := by
  obtain ⟨f, fd, F, hc, hm, G, b⟩ := c.ex
  exact x_methK0 ho hc hm G hG hr tk (F.kbm hb) hl hkw hall hks hpl ht
end
end Ms

/-! PyEq: a == b, instances of a class without an __eq__ of its own. -/
namespace Ms
open PySem L2 PyProof.Rows
open Mi (Dv MO Sto Sl Rs bnd ME MT MA MS MF Fl MG MGs MI)
/-- the class at C: right under object, without an __eq__ or a __ne__ of its own -/
structure EqC (K : PySem.W.Frag) (C : Addr) : Prop where
  ex : ∃ (nm q : Str) (N : Addr) (bs : List Value) (sn : List Str) (sub : List Value) (ab : Bool) (col : Option Bool) (dd : Option Addr) (k0 k1 k2 k3 k5 : Option Value),
    K.lookup C = some (excClassObj nm q C N bs [.type "object"] true sn sub ab col dd k0 k1 k2 k3 k5 "object.__new__") ∧ PySem.W.nsOkIn K N = true ∧ PySem.W.nsIn K N "__eq__" = some none ∧ PySem.W.nsIn K N "__ne__" = some none
theorem EqC.inst {K : PySem.W.Frag} {C x dx : Addr} {h : Heap} {mA : Str → Option Value} (c : EqC K C) (k : K.In h) (o : ObjM h x dx C mA) : h.CmpInst x C [.type "object"] := by
  rcases c.ex with ⟨nm, q, N, bs, sn, sub, ab, col, dd, k0, k1, k2, k3, k5, at_, ok, noEq, noNe⟩
  exact ⟨_, nm, q, N, bs, true, sn, sub, ab, col, dd, k0, k1, k2, k3, k5, _, _, o.obj, rfl, k _ _ at_, .of_isNs (PySem.W.isNs_of_in k ok), PySem.W.nsMap_none_of_in k ok noEq, PySem.W.nsMap_none_of_in k ok noNe⟩
/-- two instances of the class c -/
def bEqO (c : Nat) : Mi.B2 := fun x y G => match x, y with
  | .ref a, .ref b => match G[a]?, G[b]? with
    | some (.ins c1 _), some (.ins c2 _) => if c1 = c ∧ c2 = c then some (.bl (decide (a = b)), G) else none
    | _, _ => none
  | _, _ => none
def rEqO (C : Addr) : R2 := fun x y H Q => ∃ a b dx fs dy fs', x = .ref a ∧ y = .ref b ∧ H a = some (.ins C dx fs) ∧ H b = some (.ins C dy fs') ∧ Q (.bl (decide (a = b))) H
section
variable {X : Cx} {kx : Kx}
theorem op_eqO {C : Addr} (c : EqC X.K C) (hu : X.A.units + 64 < cLine) : OpR X (compareOp .Eq) (rEqO C) := fun pins s σ H x y v u Q inv rx ry ⟨a, b, dx, fs, dy, fs', ex, ey, ha, hb, done⟩ => by
  subst ex ey
  cases rx
  cases ry
  rcases ins_get inv.hok ha with ⟨_, oa, _⟩
  rcases ins_get inv.hok hb with ⟨_, ob, _⟩
  have ca := c.inst inv.kIn oa
  have cb := c.inst inv.kIn ob
  rcases s with ⟨hp, gs, dr, tk, os⟩
  by_cases same : a = b
  · subst same
    rw [decide_eq_true rfl] at done
    exact compareOp_eq_same PySem.F.cmp_object ca (by omega) ⟨.bl true, H, inv, rfl, done⟩
  · rw [decide_eq_false same] at done
    exact compareOp_eq_other PySem.F.cmp_object PySem.F.cmp_object ca cb same (by omega) ⟨.bl false, H, inv, rfl, done⟩
theorem b_eqO (c : Nat) : B2ok X kx (bEqO c) (rEqO (kx.ca c)) := by
  intro x y G d G' ρ H v w Q e rl dx dy k
  cases x with
  | ref a =>
    cases y with
    | ref b =>
      unfold bEqO at e
      dsimp only at e
      split at e
      · rename_i c1 f1 c2 f2 e1 e2
        split at e
        · rename_i hc
          obtain ⟨hc1, hc2⟩ := hc
          subst hc1
          subst hc2
          cases e
          cases dx with
          | @ref _ p ea =>
            cases dy with
            | @ref _ p2 eb =>
              obtain ⟨d1, g1, h1, _⟩ := ins_at rl e1 ea
              obtain ⟨d2, g2, h2, _⟩ := ins_at rl e2 eb
              refine ⟨p, p2, d1, g1, d2, g2, rfl, rfl, h1, h2, ?_⟩
              have q := k (.bl (decide (a = b))) ρ H Gr.refl rl (.bl _)
              have z : decide (p = p2) = decide (a = b) := by
                by_cases ab : a = b
                · subst ab
                  rw [ea] at eb
                  cases eb
                  rw [decide_eq_true rfl, decide_eq_true rfl]
                · rw [decide_eq_false ab, decide_eq_false]
                  intro pp
                  subst pp
                  exact ab ((List.getElem?_inj (List.getElem?_eq_some_iff.mp ea).1 rl.nd).mp (ea.trans eb.symm))
              rw [z]
              exact q
        · exact absurd e (fun z => nomatch z)
      · exact absurd e (fun z => nomatch z)
    | _ => exact absurd e (fun z => nomatch z)
  | _ => exact absurd e (fun z => nomatch z)
end
end Ms

/-! PyZl: zip of two lists that stay as they are. -/
namespace Ms
open PySem L2
open Mi (Dv MO Sto Sl Rs bnd ME MT MA MS MF Fl MG MGs MI)
def mZipL (a b : ME) : MI := fun δ G => bnd (a δ G) fun x G1 => bnd (b δ G1) fun y G2 => match Mi.lstOf G2 x, Mi.lstOf G2 y with
  | some xs, some ys => some ((List.zipWith (fun p q => .tup [p, q]) xs ys, fun G' => Mi.lstOf G' x = some xs ∧ Mi.lstOf G' y = some ys), G2)
  | _, _ => none
theorem i_zipL {X : Cx} {kx : Kx} {a b : Expr} {ma mb : ME} {elts : List Expr} {kk : Nat} {tpos p pos : Pos} (hm : X.mg "zip" = none) (ha : PE X a (tM X.K kx ma)) (hb : PE X b (tM X.K kx mb)) (hg : Gl X "zip" := by rfl)
    (hs : starEach [a, b] X.env = (false, eval a X.env) :: starEach [b] X.env := by rfl) (hs2 : starEach [b] X.env = (false, eval b X.env) :: starEach [] X.env := by rfl) (hpl : (backTo pos (starEach [b] X.env)).any (·.1) = false := by rfl) :
    PI X (.Tuple elts kk tpos) (.Call (.Name "zip" p) [a, b] [] pos) (tI X.K kx (mZipL ma mb)) :=
  (RZ.pi_zipA hg hm (pa_cons ha (pa_cons hb pa_nil hs2) hs) hs hpl).imp fun σ H R ⟨ρ, G, δ, ds, st, G', rl, sr, e, k⟩ => by
  obtain ⟨x, G1, e1, e⟩ := Mi.bnd_eq e
  obtain ⟨y, G2, e2, e⟩ := Mi.bnd_eq e
  refine ⟨ρ, G, δ, x, G1, rl, sr, e1, fun v ρ1 H1 g1 r1 d1 => ⟨ρ1, G1, δ, y, G2, r1, sr.gr g1, e2, fun w ρ2 H2 g2 r2 d2 => ?_⟩⟩
  split at e
  · rename_i xs ys el el2
    cases e
    obtain ⟨ad, vs, ev, h, r⟩ := lstOf_at r2 el (d1.gr g2)
    subst ev
    obtain ⟨bd, ws, ev2, h2, rT⟩ := lstOf_at r2 el2 d2
    subst ev2
    refine ⟨ad, bd, vs, ws, rfl, .inl ⟨h, h2, k _ ρ2 H2 (g1.trans g2) r2 ?_⟩⟩
    have dx := d1.gr g2
    have rx : ∀ ρ G H, Gw ρ2 H2 ρ H → Rl X.K kx ρ G H → Mi.lstOf G x = some xs → ∃ vs, SqL X.K H ad vs ∧ DRs X.K ρ H xs vs := fun ρ G H g r s => by
      obtain ⟨a, vs, e, h, q⟩ := lstOf_at r s (dx.gw g)
      cases e
      exact ⟨vs, h, q⟩
    have ry : ∀ ρ G H, Gw ρ2 H2 ρ H → Rl X.K kx ρ G H → Mi.lstOf G y = some ys → ∃ vs, SqL X.K H bd vs ∧ DRs X.K ρ H ys vs := fun ρ G H g r s => by
      obtain ⟨a, vs, e, h, q⟩ := lstOf_at r s (d2.gw g)
      cases e
      exact ⟨vs, h, q⟩
    refine ⟨fun ρ G H g r s => ?_, fun i ρ G H g r s hi => ?_, fun i d ρ G H z H' g r s hd hy => ?_⟩
    · obtain ⟨vs, h, dr⟩ := rx ρ G H g r s.1
      obtain ⟨ws, h2, dr2⟩ := ry ρ G H g r s.2
      refine ⟨vs, ws, h, h2, ?_⟩
      rw [List.length_zipWith, dr.len, dr2.len]
      omega
    · obtain ⟨vs, h, dr⟩ := rx ρ G H g r s.1
      obtain ⟨ws, h2, dr2⟩ := ry ρ G H g r s.2
      rw [List.length_zipWith, dr.len, dr2.len] at hi
      have i1 : i < vs.length := by omega
      have i2 : i < ws.length := by omega
      exact ⟨vs, ws, vs[i], ws[i], h, h2, List.getElem?_eq_getElem i1, List.getElem?_eq_getElem i2⟩
    · obtain ⟨T, u1, u2, ev, hN, eH, f1, f2⟩ := hy
      subst ev eH
      obtain ⟨vs, h, dr⟩ := rx ρ G H g r s.1
      obtain ⟨ws, h2, dr2⟩ := ry ρ G H g r s.2
      obtain ⟨p1, q1, hp, hq, rfl⟩ := zw_get xs ys i d hd
      obtain ⟨v1, hv1, dv1⟩ := dr.get hp
      obtain ⟨v2, hv2, dv2⟩ := dr2.get hq
      have t1 := f1 vs h
      rw [hv1] at t1
      cases t1
      have t2 := f2 ws h2
      rw [hv2] at t2
      cases t2
      obtain ⟨g3, r3⟩ := r.side (.tup [u1, u2]) hN
      exact ⟨g3, r3, .tup (SqT.of upd_same) (.cons (dv1.gr g3) (.cons (dv2.gr g3) .nil))⟩
  · cases e
end Ms

namespace Lw
open PySem L2 PyProof.Rows Ms
open Mi (Dv MO Sto Sl Rs bnd ME MT MA MS MF Fl MG MGs MI)
def topOf (i : Nat) : Stmt := PySem.Challenge.pw_trailkeep_k20_any_words_as_a_summary.main.body.getD i (.Pass ⟨0, 0, 0, 0⟩)
abbrev s_is_integer : Stmt := topOf 16
abbrev s_is_between : Stmt := topOf 17
abbrev s_need_sizes : Stmt := topOf 30
abbrev s_room_of : Stmt := topOf 31
abbrev s_root_blocks_of : Stmt := topOf 32
abbrev s_Disk_mk : Stmt := inClass (topOf 35) 0
abbrev s_Disk_burn : Stmt := inClass (topOf 35) 4
abbrev s_Disk_force : Stmt := inClass (topOf 35) 7
abbrev s_Disk_need_place : Stmt := inClass (topOf 35) 3
abbrev s_is_word : Stmt := topOf 18
abbrev s_are_words : Stmt := topOf 19
abbrev s_is_block : Stmt := topOf 20
abbrev s_Disk_write : Stmt := inClass (topOf 35) 6
abbrev s_law_many : Stmt := topOf 55
abbrev s_law_blank : Stmt := topOf 57
abbrev s_law_draw : Stmt := topOf 52
abbrev s_law_pick : Stmt := topOf 53
abbrev s_law_word : Stmt := topOf 60
abbrev s_law_content : Stmt := topOf 66
abbrev s_law_data : Stmt := topOf 62
abbrev s_law_deck : Stmt := topOf 51
abbrev s_law_sizes : Stmt := topOf 54
abbrev s_law_drawn_sizes : Stmt := topOf 61
abbrev s_law_forced : Stmt := topOf 59
abbrev s_law_place : Stmt := topOf 56
abbrev s_law_read : Stmt := topOf 58
abbrev s_law_from : Stmt := topOf 64
abbrev s_law_group_told : Stmt := topOf 63
abbrev s_law_keys : Stmt := topOf 65
abbrev s_law_some_keys : Stmt := topOf 67
abbrev s_law_some_summary : Stmt := topOf 68
abbrev s_Disk_read : Stmt := inClass (topOf 35) 5
abbrev s_is_data_of : Stmt := topOf 44
abbrev s_place_raw : Stmt := topOf 37
abbrev s_are_rising : Stmt := topOf 22
abbrev s_are_keys_of : Stmt := topOf 45
abbrev s_told_by : Stmt := topOf 46
abbrev s_group_at : Stmt := topOf 47
abbrev s_need_disk : Stmt := topOf 36
abbrev s_place_at : Stmt := topOf 38
abbrev s_judge_group : Stmt := topOf 49
abbrev s_law : Stmt := topOf 69
def ns_BLANK : List Int := List.replicate 32 (0 : Int)
def d_BLANK : Dv := .tup (ns_BLANK.map Dv.int)
structure Tx (K : PySem.W.Frag) (kx : Kx) (mg : Str → Option Value) : Prop where
  b_all : mg "all" = none
  b_any : mg "any" = none
  b_bool : mg "bool" = none
  b_enumerate : mg "enumerate" = none
  b_int : mg "int" = none
  b_isinstance : mg "isinstance" = none
  b_len : mg "len" = none
  b_list : mg "list" = none
  b_max : mg "max" = none
  b_min : mg "min" = none
  b_range : mg "range" = none
  b_repr : mg "repr" = none
  b_sorted : mg "sorted" = none
  b_tuple : mg "tuple" = none
  b_zip : mg "zip" = none
  c_BLANK : ∃ t, mg "BLANK" = some (.ref t) ∧ (V.ref t, d_BLANK) ∈ kx.cs
  c_CONTENT : ∃ t, mg "CONTENT" = some (.int 28 t)
  c_DATA : ∃ t, mg "DATA" = some (.int 2 t)
  c_FIRST_KEY : ∃ t, mg "FIRST_KEY" = some (.int 6 t)
  c_LEAST_BLOCKS : ∃ t, mg "LEAST_BLOCKS" = some (.int 4 t)
  c_LEAST_SEGMENTS : ∃ t, mg "LEAST_SEGMENTS" = some (.int 6 t)
  c_MOST_BLOCKS : ∃ t, mg "MOST_BLOCKS" = some (.int 24 t)
  c_MOST_KEYS : ∃ t, mg "MOST_KEYS" = some (.int 24 t)
  c_MOST_SEGMENTS : ∃ t, mg "MOST_SEGMENTS" = some (.int 40 t)
  c_MOST_WORD : ∃ t, mg "MOST_WORD" = some (.int 1000000000 t)
  c_ROOT_WORDS : ∃ t, mg "ROOT_WORDS" = some (.int 4 t)
  c_SPARE_SEGMENTS : ∃ t, mg "SPARE_SEGMENTS" = some (.int 4 t)
  c_SUMMARY : ∃ t, mg "SUMMARY" = some (.int 1 t)
  c_WORDS : ∃ t, mg "WORDS" = some (.int 32 t)
  cl_Disk : Cls K (kx.ca 0)
  a_Disk_blocks : Fok K kx [0] "blocks"
  a_Disk_k : Fok K kx [0] "k"
  a_Disk_left : Fok K kx [0] "left"
  a_Disk_n : Fok K kx [0] "n"
  a_Disk_newest : Fok K kx [0] "newest"
  a_Disk_queue : Fok K kx [0] "queue"
  a_Disk_r : Fok K kx [0] "r"
  a_Disk_s : Fok K kx [0] "s"
  i_Disk : C8.InsC K (kx.ca 0)
  n_Disk : mg "Disk" = some (.ref (kx.ca 0))
  f_is_integer : Dfn K mg "is_integer" s_is_integer
  f_is_between : Dfn K mg "is_between" s_is_between
  f_need_sizes : Dfn K mg "need_sizes" s_need_sizes
  f_room_of : Dfn K mg "room_of" s_room_of
  f_root_blocks_of : Dfn K mg "root_blocks_of" s_root_blocks_of
  f_Disk_mk : Dfk K mg (kx.ca 0) "Disk" "Disk.__init__" s_Disk_mk
  f_Disk_burn : Dfm K (kx.ca 0) "burn" "Disk.burn" s_Disk_burn
  f_Disk_force : Dfm K (kx.ca 0) "force" "Disk.force" s_Disk_force
  f_Disk_need_place : Dfm K (kx.ca 0) "need_place" "Disk.need_place" s_Disk_need_place
  f_is_word : Dfn K mg "is_word" s_is_word
  f_are_words : Dfn K mg "are_words" s_are_words
  f_is_block : Dfn K mg "is_block" s_is_block
  f_Disk_write : Dfm K (kx.ca 0) "write" "Disk.write" s_Disk_write
  f_law_many : Dfn K mg "_law_many" s_law_many
  f_law_blank : Dfn K mg "_law_blank" s_law_blank
  f_law_draw : Dfn K mg "_law_draw" s_law_draw
  f_law_pick : Dfn K mg "_law_pick" s_law_pick
  f_law_word : Dfn K mg "_law_word" s_law_word
  f_law_content : Dfn K mg "_law_content" s_law_content
  f_law_data : Dfn K mg "_law_data" s_law_data
  f_law_deck : Dfn K mg "_law_deck" s_law_deck
  f_law_sizes : Dfn K mg "_law_sizes" s_law_sizes
  f_law_drawn_sizes : Dfn K mg "_law_drawn_sizes" s_law_drawn_sizes
  f_law_forced : Dfn K mg "_law_forced" s_law_forced
  f_law_place : Dfn K mg "_law_place" s_law_place
  f_law_read : Dfn K mg "_law_read" s_law_read
  f_law_from : Dfn K mg "_law_from" s_law_from
  f_law_group_told : Dfn K mg "_law_group_told" s_law_group_told
  f_law_keys : Dfn K mg "_law_keys" s_law_keys
  f_law_some_keys : Dfn K mg "_law_some_keys" s_law_some_keys
  f_law_some_summary : Dfn K mg "_law_some_summary" s_law_some_summary
  f_Disk_read : Dfm K (kx.ca 0) "read" "Disk.read" s_Disk_read
  f_is_data_of : Dfn K mg "is_data_of" s_is_data_of
  f_place_raw : Dfn K mg "place_raw" s_place_raw
  f_are_rising : Dfn K mg "are_rising" s_are_rising
  f_are_keys_of : Dfn K mg "are_keys_of" s_are_keys_of
  f_told_by : Dfn K mg "told_by" s_told_by
  f_group_at : Dfn K mg "group_at" s_group_at
  f_need_disk : Dfn K mg "need_disk" s_need_disk
  f_place_at : Dfn K mg "place_at" s_place_at
  f_judge_group : Dfn K mg "judge_group" s_judge_group
  f_law : Dfn K mg "law" s_law
noncomputable def b_is_integer : MS :=
    Mi.mRet (Mi.mAnd (Mi.mIsI .int (Mi.mVar 0)) (Mi.mNot (Mi.mIsI .bool (Mi.mVar 0))))
noncomputable def m_is_integer : MF := Mi.mDef 1 0 b_is_integer
abbrev n_is_integer : List Str := ["thing"]
abbrev p_is_integer : List Str := ["thing"]
noncomputable def b_is_between : MS :=
    Mi.mRet (Mi.mAnd (Mi.mCall m_is_integer (Mi.mCons (Mi.mVar 0) Mi.mNil)) (Mi.mChain Mi.bLe Mi.bLe (Mi.mVar 1) (Mi.mVar 0) (Mi.mVar 2)))
noncomputable def m_is_between : MF := Mi.mDef 3 0 b_is_between
abbrev n_is_between : List Str := ["thing", "least", "most"]
abbrev p_is_between : List Str := ["thing", "least", "most"]
noncomputable def b_need_sizes : MS :=
    Mi.mSeq (Mi.mIfS (Mi.mTnot (Mi.mTb (Mi.mCall m_is_between (Mi.mCons (Mi.mVar 0) (Mi.mCons (Mi.mC (.int 6)) (Mi.mCons (Mi.mC (.int 40)) Mi.mNil)))))) Mi.mFail Mi.mSkip) (
    Mi.mIfS (Mi.mTnot (Mi.mTb (Mi.mCall m_is_between (Mi.mCons (Mi.mVar 1) (Mi.mCons (Mi.mC (.int 4)) (Mi.mCons (Mi.mC (.int 24)) Mi.mNil)))))) Mi.mFail Mi.mSkip)
noncomputable def m_need_sizes : MF := Mi.mDef 2 0 b_need_sizes
abbrev n_need_sizes : List Str := ["segments", "blocks"]
abbrev p_need_sizes : List Str := ["segments", "blocks"]
noncomputable def b_room_of : MS :=
    Mi.mRet (Mi.m2 (Mi.bMul false) (Mi.m2 Mi.bSub (Mi.mVar 0) (Mi.mC (.int 4))) (Mi.m2 Mi.bSub (Mi.mVar 1) (Mi.mC (.int 1))))
noncomputable def m_room_of : MF := Mi.mDef 2 0 b_room_of
abbrev n_room_of : List Str := ["segments", "blocks"]
abbrev p_room_of : List Str := ["segments", "blocks"]
noncomputable def b_root_blocks_of : MS :=
    Mi.mRet (Mi.m2 Mi.bDiv (Mi.m2 Mi.bSub (Mi.m2 (Mi.bAdd false) (Mi.m2 (Mi.bAdd false) (Mi.mCall m_room_of (Mi.mCons (Mi.mVar 0) (Mi.mCons (Mi.mVar 1) Mi.mNil))) (Mi.mC (.int 4))) (Mi.mC (.int 28))) (Mi.mC (.int 1))) (Mi.mC (.int 28)))
noncomputable def m_root_blocks_of : MF := Mi.mDef 2 0 b_root_blocks_of
abbrev n_root_blocks_of : List Str := ["segments", "blocks"]
abbrev p_root_blocks_of : List Str := ["segments", "blocks"]
noncomputable def b_Disk_mk : MS :=
    Mi.mSeq (Mi.mExpr (Mi.mCall m_need_sizes (Mi.mCons (Mi.mVar 1) (Mi.mCons (Mi.mVar 2) Mi.mNil)))) (
    Mi.mSeq (Mi.mSetF [0] (Mi.mVar 0) "s" (Mi.mVar 1)) (
    Mi.mSeq (Mi.mSetF [0] (Mi.mVar 0) "k" (Mi.mVar 2)) (
    Mi.mSeq (Mi.mSetF [0] (Mi.mVar 0) "n" (Mi.mCall m_room_of (Mi.mCons (Mi.mVar 1) (Mi.mCons (Mi.mVar 2) Mi.mNil)))) (
    Mi.mSeq (Mi.mSetF [0] (Mi.mVar 0) "r" (Mi.mCall m_root_blocks_of (Mi.mCons (Mi.mVar 1) (Mi.mCons (Mi.mVar 2) Mi.mNil)))) (
    Mi.mSeq (Mi.mSetF [0] (Mi.mVar 0) "blocks" (Mi.m2 (Mi.bMul true) (Mi.mLst false (Mi.mCons (Mi.mC d_BLANK) Mi.mNil)) (Mi.m2 (Mi.bAdd false) (Mi.m2 (Mi.bMul false) (Mi.mC (.int 2)) (Mi.mFld [0] (Mi.mVar 0) "r")) (Mi.m2 (Mi.bMul false) (Mi.mVar 1) (Mi.mVar 2))))) (
    Mi.mSeq (Mi.mSetF [0] (Mi.mVar 0) "queue" (Mi.mLst true Mi.mNil)) (
    Mi.mSeq (Mi.mSetF [0] (Mi.mVar 0) "newest" mDct0) (
    Mi.mSetF [0] (Mi.mVar 0) "left" (Mi.mC .non)))))))))
noncomputable def m_Disk_mk : MF := Mi.mDef 3 0 b_Disk_mk
abbrev n_Disk_mk : List Str := ["self", "segments", "blocks"]
abbrev p_Disk_mk : List Str := ["self", "segments", "blocks"]
noncomputable def b_Disk_burn : MS :=
    Mi.mIfS (Mi.mTb (Mi.mIsN true (Mi.mFld [0] (Mi.mVar 0) "left"))) (Mi.mSeq (Mi.mIfS (Mi.mTb (Mi.m2 (Mi.bEq false) (Mi.mFld [0] (Mi.mVar 0) "left") (Mi.mC (.int 0)))) Mi.mFail Mi.mSkip) (
    Mi.mAugF [0] (Mi.mVar 0) "left" Mi.bSub (Mi.mC (.int 1)))) Mi.mSkip
noncomputable def m_Disk_burn : MF := Mi.mDef 1 0 b_Disk_burn
abbrev n_Disk_burn : List Str := ["self"]
abbrev p_Disk_burn : List Str := ["self"]
noncomputable def qi_Disk_force_1 : MI :=
    Mi.iSeq (Mi.mFld [0] (Mi.mVar 0) "queue")
noncomputable def qb_Disk_force_1 : MS :=
    Mi.mSetI (Mi.mFld [0] (Mi.mVar 0) "blocks") (Mi.mVar 1) (Mi.mVar 2)
noncomputable def qf_Disk_force_1 : MS :=
    Mi.mFor qi_Disk_force_1 (Mi.gTup 2 (Mi.gCons (Mi.gNm 1) (Mi.gCons (Mi.gNm 2) Mi.gNil))) qb_Disk_force_1
noncomputable def b_Disk_force : MS :=
    Mi.mSeq (Mi.mExpr (Mi.mMeth 0 "burn" m_Disk_burn (Mi.mVar 0) Mi.mNil)) (
    Mi.mSeq qf_Disk_force_1 (
    Mi.mSeq (Mi.mSetF [0] (Mi.mVar 0) "queue" (Mi.mLst true Mi.mNil)) (
    Mi.mSetF [0] (Mi.mVar 0) "newest" mDct0)))
noncomputable def m_Disk_force : MF := Mi.mDef 1 2 b_Disk_force
abbrev n_Disk_force : List Str := ["self", "place", "block"]
abbrev p_Disk_force : List Str := ["self"]
noncomputable def b_Disk_need_place : MS :=
    Mi.mIfS (Mi.mTnot (Mi.mTb (Mi.mCall m_is_between (Mi.mCons (Mi.mVar 1) (Mi.mCons (Mi.mC (.int 0)) (Mi.mCons (Mi.m2 Mi.bSub (Mi.mB Mi.fLen (Mi.mCons (Mi.mFld [0] (Mi.mVar 0) "blocks") Mi.mNil)) (Mi.mC (.int 1))) Mi.mNil)))))) Mi.mFail Mi.mSkip
noncomputable def m_Disk_need_place : MF := Mi.mDef 2 0 b_Disk_need_place
abbrev n_Disk_need_place : List Str := ["self", "place"]
abbrev p_Disk_need_place : List Str := ["self", "place"]
noncomputable def b_is_word : MS :=
    Mi.mRet (Mi.mCall m_is_between (Mi.mCons (Mi.mVar 0) (Mi.mCons (Mi.mC (.int 0)) (Mi.mCons (Mi.mC (.int 1000000000)) Mi.mNil))))
noncomputable def m_is_word : MF := Mi.mDef 1 0 b_is_word
abbrev n_is_word : List Str := ["thing"]
abbrev p_is_word : List Str := ["thing"]
noncomputable def qi_are_words_1 : MI :=
    Mi.iSeq (Mi.mVar 0)
noncomputable def qe_are_words_1 : ME :=
    Mi.mCall m_is_word (Mi.mCons (Mi.mVar 2) Mi.mNil)
noncomputable def ql_are_words_1 : ME :=
    Mi.mLc false qi_are_words_1 (Mi.gNm 2) Mi.tYes qe_are_words_1 [2]
noncomputable def b_are_words : MS :=
    Mi.mRet (Mi.mAnd (Mi.mIsI .tuple (Mi.mVar 0)) (Mi.mAnd (Mi.m2 (Mi.bEq false) (Mi.mB Mi.fLen (Mi.mCons (Mi.mVar 0) Mi.mNil)) (Mi.mVar 1)) (Mi.mB Mi.fAll (Mi.mCons ql_are_words_1 Mi.mNil))))
noncomputable def m_are_words : MF := Mi.mDef 2 1 b_are_words
abbrev n_are_words : List Str := ["thing", "many", "word"]
abbrev p_are_words : List Str := ["thing", "many"]
noncomputable def b_is_block : MS :=
    Mi.mRet (Mi.mCall m_are_words (Mi.mCons (Mi.mVar 0) (Mi.mCons (Mi.mC (.int 32)) Mi.mNil)))
noncomputable def m_is_block : MF := Mi.mDef 1 0 b_is_block
abbrev n_is_block : List Str := ["thing"]
abbrev p_is_block : List Str := ["thing"]
noncomputable def b_Disk_write : MS :=
    Mi.mSeq (Mi.mExpr (Mi.mMeth 0 "need_place" m_Disk_need_place (Mi.mVar 0) (Mi.mCons (Mi.mVar 1) Mi.mNil))) (
    Mi.mSeq (Mi.mIfS (Mi.mTnot (Mi.mTb (Mi.mCall m_is_block (Mi.mCons (Mi.mVar 2) Mi.mNil)))) Mi.mFail Mi.mSkip) (
    Mi.mSeq (Mi.mExpr (Mi.mMeth 0 "burn" m_Disk_burn (Mi.mVar 0) Mi.mNil)) (
    Mi.mSeq (Mi.mExpr (Mi.mAppend (Mi.mFld [0] (Mi.mVar 0) "queue") (Mi.mTup (Mi.mCons (Mi.mVar 1) (Mi.mCons (Mi.mVar 2) Mi.mNil))))) (
    Mi.mSetK (Mi.mFld [0] (Mi.mVar 0) "newest") (Mi.mVar 1) (Mi.mVar 2)))))
noncomputable def m_Disk_write : MF := Mi.mDef 3 0 b_Disk_write
abbrev n_Disk_write : List Str := ["self", "place", "block"]
abbrev p_Disk_write : List Str := ["self", "place", "block"]
noncomputable def b_law_many : MS :=
    Mi.mRet (Mi.m2 (Mi.bAdd false) (Mi.m2 (Mi.bMul false) (Mi.mC (.int 2)) (Mi.m2 Mi.bSubs (Mi.mVar 0) (Mi.mC (.int 3)))) (Mi.m2 (Mi.bMul false) (Mi.m2 Mi.bSubs (Mi.mVar 0) (Mi.mC (.int 0))) (Mi.m2 Mi.bSubs (Mi.mVar 0) (Mi.mC (.int 1)))))
noncomputable def m_law_many : MF := Mi.mDef 1 0 b_law_many
abbrev n_law_many : List Str := ["sizes"]
abbrev p_law_many : List Str := ["sizes"]
noncomputable def b_law_blank : MS :=
    Mi.mRet (Mi.mDisp [(Mi.mC (.str "sizes"), Mi.mVar 0), (Mi.mC (.str "stand"), Mi.m2 (Mi.bMul true) (Mi.mLst false (Mi.mCons (Mi.m2 (Mi.bMul false) (Mi.mTup (Mi.mCons (Mi.mC (.int 0)) Mi.mNil)) (Mi.mC (.int 32))) Mi.mNil)) (Mi.mCall m_law_many (Mi.mCons (Mi.mVar 0) Mi.mNil))), (Mi.mC (.str "wait"), Mi.mLst false Mi.mNil), (Mi.mC (.str "fuse"), Mi.mC .non)])
noncomputable def m_law_blank : MF := Mi.mDef 1 0 b_law_blank
abbrev n_law_blank : List Str := ["sizes"]
abbrev p_law_blank : List Str := ["sizes"]
noncomputable def b_law_draw : MS :=
    Mi.mSeq (Mi.mSetK (Mi.mVar 0) (Mi.mC (.str "turn")) (Mi.m2 (Mi.bAdd false) (Mi.m2 Mi.bSubs (Mi.mVar 0) (Mi.mC (.str "turn"))) (Mi.mC (.int 1)))) (
    Mi.mSeq (Mi.mAsg (Mi.m2 (Mi.bAdd false) (Mi.m2 Mi.bSubs (Mi.mVar 0) (Mi.mC (.str "mixed"))) (Mi.m2 (Mi.bMul false) (Mi.mC (.int 53773)) (Mi.m2 Mi.bSubs (Mi.mVar 0) (Mi.mC (.str "turn"))))) (Mi.gNm 2)) (
    Mi.mSeq (Mi.mIfS (Mi.mTb (Mi.m2 (Mi.bEq true) (Mi.m2 Mi.bSubs (Mi.mVar 0) (Mi.mC (.str "cells"))) (Mi.mLst false Mi.mNil))) (Mi.mSeq (Mi.mAsg (Mi.mPop (Mi.m2 Mi.bSubs (Mi.mVar 0) (Mi.mC (.str "cells")))) (Mi.gNm 3)) (
    Mi.mSeq (Mi.mIfS (Mi.mTb (Mi.m2 Mi.bGe (Mi.mVar 3) (Mi.m2 Mi.bPow (Mi.mC (.int 10)) (Mi.mC (.int 18))))) (Mi.mSeq (Mi.mExpr (Mi.mAppend (Mi.m2 Mi.bSubs (Mi.mVar 0) (Mi.mC (.str "cells"))) (Mi.m2 Mi.bDiv (Mi.mVar 3) (Mi.mB Mi.fMax (Mi.mCons (Mi.mC (.int 2)) (Mi.mCons (Mi.mVar 1) Mi.mNil)))))) (
    Mi.mRet (Mi.m2 Mi.bMod (Mi.mB Mi.fInt (Mi.mCons (Mi.mVar 3) Mi.mNil)) (Mi.mVar 1)))) Mi.mSkip) (
    Mi.mAsg (Mi.m2 (Mi.bAdd false) (Mi.mVar 2) (Mi.m2 Mi.bMod (Mi.mB Mi.fInt (Mi.mCons (Mi.mVar 3) Mi.mNil)) (Mi.mC (.int 2147483423)))) (Mi.gNm 2)))) Mi.mSkip) (
    Mi.mSeq (Mi.mAsg (Mi.m2 Mi.bMod (Mi.mB Mi.fInt (Mi.mCons (Mi.m2 (Mi.bAdd false) (Mi.m2 (Mi.bMul false) (Mi.mVar 2) (Mi.mC (.int 39373))) (Mi.mC (.int 59))) Mi.mNil)) (Mi.mC (.int 2147483587))) (Mi.gNm 2)) (
    Mi.mSeq (Mi.mAsg (Mi.m2 Mi.bMod (Mi.mB Mi.fInt (Mi.mCons (Mi.m2 (Mi.bAdd false) (Mi.m2 (Mi.bAdd false) (Mi.m2 (Mi.bMul false) (Mi.mVar 2) (Mi.mVar 2)) (Mi.m2 (Mi.bMul false) (Mi.mC (.int 61161)) (Mi.m2 Mi.bSubs (Mi.mVar 0) (Mi.mC (.str "turn"))))) (Mi.mC (.int 59))) Mi.mNil)) (Mi.mC (.int 2147483549))) (Mi.gNm 2)) (
    Mi.mSeq (Mi.mAsg (Mi.m2 Mi.bMod (Mi.mB Mi.fInt (Mi.mCons (Mi.m2 (Mi.bMul false) (Mi.mVar 2) (Mi.mC (.int 40692))) Mi.mNil)) (Mi.mC (.int 2147483497))) (Mi.gNm 2)) (
    Mi.mRet (Mi.m2 Mi.bMod (Mi.mB Mi.fInt (Mi.mCons (Mi.m2 Mi.bDiv (Mi.mVar 2) (Mi.mC (.int 64))) Mi.mNil)) (Mi.mVar 1))))))))
noncomputable def m_law_draw : MF := Mi.mDef 2 2 b_law_draw
abbrev n_law_draw : List Str := ["deck", "below", "figure", "cell"]
abbrev p_law_draw : List Str := ["deck", "below"]
noncomputable def b_law_pick : MS :=
    Mi.mRet (Mi.m2 Mi.bSubs (Mi.mVar 1) (Mi.mCall m_law_draw (Mi.mCons (Mi.mVar 0) (Mi.mCons (Mi.mB Mi.fLen (Mi.mCons (Mi.mVar 1) Mi.mNil)) Mi.mNil))))
noncomputable def m_law_pick : MF := Mi.mDef 2 0 b_law_pick
abbrev n_law_pick : List Str := ["deck", "some"]
abbrev p_law_pick : List Str := ["deck", "some"]
noncomputable def b_law_word : MS :=
    Mi.mRet (Mi.mCall m_law_pick (Mi.mCons (Mi.mVar 0) (Mi.mCons (Mi.mLst false (Mi.mCons (Mi.mC (.int 0)) (Mi.mCons (Mi.mC (.int 1)) (Mi.mCons (Mi.mC (.int 2)) (Mi.mCons (Mi.mC (.int 3)) (Mi.mCons (Mi.mC (.int 5)) (Mi.mCons (Mi.m2 Mi.bPow (Mi.mC (.int 10)) (Mi.mC (.int 9))) (Mi.mCons (Mi.mCall m_law_draw (Mi.mCons (Mi.mVar 0) (Mi.mCons (Mi.mC (.int 100)) Mi.mNil))) (Mi.mCons (Mi.mCall m_law_draw (Mi.mCons (Mi.mVar 0) (Mi.mCons (Mi.m2 (Mi.bAdd false) (Mi.m2 Mi.bPow (Mi.mC (.int 10)) (Mi.mC (.int 9))) (Mi.mC (.int 1))) Mi.mNil))) Mi.mNil))))))))) Mi.mNil)))
noncomputable def m_law_word : MF := Mi.mDef 1 0 b_law_word
abbrev n_law_word : List Str := ["deck"]
abbrev p_law_word : List Str := ["deck"]
noncomputable def qi_law_content_1 : MI :=
    Mi.iRange1 (Mi.mC (.int 28))
noncomputable def qe_law_content_1 : ME :=
    Mi.mCall m_law_word (Mi.mCons (Mi.mVar 0) Mi.mNil)
noncomputable def ql_law_content_1 : ME :=
    Mi.mLc false qi_law_content_1 (Mi.gNm 1) Mi.tYes qe_law_content_1 [1]
noncomputable def b_law_content : MS :=
    Mi.mRet (Mi.mIf (Mi.mTb (Mi.m2 (Mi.bEq false) (Mi.mCall m_law_draw (Mi.mCons (Mi.mVar 0) (Mi.mCons (Mi.mC (.int 2)) Mi.mNil))) (Mi.mC (.int 0)))) (Mi.mB Mi.fTuple (Mi.mCons (Mi.m2 (Mi.bMul false) (Mi.mLst false (Mi.mCons (Mi.mCall m_law_word (Mi.mCons (Mi.mVar 0) Mi.mNil)) Mi.mNil)) (Mi.mC (.int 28))) Mi.mNil)) (Mi.mB Mi.fTuple (Mi.mCons ql_law_content_1 Mi.mNil)))
noncomputable def m_law_content : MF := Mi.mDef 1 1 b_law_content
abbrev n_law_content : List Str := ["deck", "i"]
abbrev p_law_content : List Str := ["deck"]
noncomputable def b_law_data : MS :=
    Mi.mRet (Mi.m2 (Mi.bAdd false) (Mi.m2 (Mi.bAdd false) (Mi.mTup (Mi.mCons (Mi.mVar 0) (Mi.mCons (Mi.mC (.int 2)) (Mi.mCons (Mi.mVar 1) Mi.mNil)))) (Mi.mVar 2)) (Mi.mTup (Mi.mCons (Mi.mVar 0) Mi.mNil)))
noncomputable def m_law_data : MF := Mi.mDef 3 0 b_law_data
abbrev n_law_data : List Str := ["number", "key", "content"]
abbrev p_law_data : List Str := ["number", "key", "content"]
noncomputable def qi_law_deck_1 : MI :=
    Mi.iSeq (Mi.mSlice false (Mi.mVar 0) none (some (Mi.mC (.int 63))))
noncomputable def qb_law_deck_1 : MS :=
    Mi.mAsg (Mi.m2 Mi.bMod (Mi.mB Mi.fInt (Mi.mCons (Mi.m2 (Mi.bAdd false) (Mi.m2 (Mi.bAdd false) (Mi.m2 (Mi.bMul false) (Mi.mVar 1) (Mi.mC (.int 40692))) (Mi.m2 Mi.bMod (Mi.mB Mi.fInt (Mi.mCons (Mi.mVar 2) Mi.mNil)) (Mi.mC (.int 2147483423)))) (Mi.mC (.int 59))) Mi.mNil)) (Mi.mC (.int 2147483549))) (Mi.gNm 1)
noncomputable def qf_law_deck_1 : MS :=
    Mi.mFor qi_law_deck_1 (Mi.gNm 2) qb_law_deck_1
noncomputable def qi_law_deck_2 : MI :=
    Mi.iSeq (Mi.mSlice false (Mi.mVar 0) none (some (Mi.mC (.int 63))))
noncomputable def qe_law_deck_1 : ME :=
    Mi.mB Mi.fInt (Mi.mCons (Mi.mVar 2) Mi.mNil)
noncomputable def ql_law_deck_1 : ME :=
    Mi.mLc false qi_law_deck_2 (Mi.gNm 2) Mi.tYes qe_law_deck_1 [2]
noncomputable def b_law_deck : MS :=
    Mi.mSeq (Mi.mAsg (Mi.mC (.int 13746626)) (Mi.gNm 1)) (
    Mi.mSeq qf_law_deck_1 (
    Mi.mRet (Mi.mDisp [(Mi.mC (.str "cells"), Mi.mRev true ql_law_deck_1), (Mi.mC (.str "mixed"), Mi.mVar 1), (Mi.mC (.str "turn"), Mi.mC (.int 0))])))
noncomputable def m_law_deck : MF := Mi.mDef 1 2 b_law_deck
abbrev n_law_deck : List Str := ["script", "mixed", "cell"]
abbrev p_law_deck : List Str := ["script"]
noncomputable def b_law_sizes : MS :=
    Mi.mSeq (Mi.mAsg (Mi.m2 (Mi.bMul false) (Mi.m2 Mi.bSub (Mi.mVar 0) (Mi.mC (.int 4))) (Mi.m2 Mi.bSub (Mi.mVar 1) (Mi.mC (.int 1)))) (Mi.gNm 2)) (
    Mi.mRet (Mi.mTup (Mi.mCons (Mi.mVar 0) (Mi.mCons (Mi.mVar 1) (Mi.mCons (Mi.mVar 2) (Mi.mCons (Mi.m2 Mi.bDiv (Mi.m2 (Mi.bAdd false) (Mi.m2 (Mi.bAdd false) (Mi.mVar 2) (Mi.mC (.int 4))) (Mi.mC (.int 27))) (Mi.mC (.int 28))) Mi.mNil))))))
noncomputable def m_law_sizes : MF := Mi.mDef 2 1 b_law_sizes
abbrev n_law_sizes : List Str := ["segments", "blocks", "room"]
abbrev p_law_sizes : List Str := ["segments", "blocks"]
noncomputable def b_law_drawn_sizes : MS :=
    Mi.mSeq (Mi.mIfS (Mi.mTb (Mi.m2 (Mi.bEq false) (Mi.mCall m_law_draw (Mi.mCons (Mi.mVar 0) (Mi.mCons (Mi.mC (.int 16)) Mi.mNil))) (Mi.mC (.int 0)))) (Mi.mRet (Mi.mCall m_law_sizes (Mi.mCons (Mi.m2 (Mi.bAdd false) (Mi.mC (.int 6)) (Mi.mCall m_law_draw (Mi.mCons (Mi.mVar 0) (Mi.mCons (Mi.mC (.int 35)) Mi.mNil)))) (Mi.mCons (Mi.m2 (Mi.bAdd false) (Mi.mC (.int 4)) (Mi.mCall m_law_draw (Mi.mCons (Mi.mVar 0) (Mi.mCons (Mi.mC (.int 21)) Mi.mNil)))) Mi.mNil)))) Mi.mSkip) (
    Mi.mRet (Mi.mCall m_law_sizes (Mi.mCons (Mi.m2 (Mi.bAdd false) (Mi.mC (.int 6)) (Mi.mCall m_law_draw (Mi.mCons (Mi.mVar 0) (Mi.mCons (Mi.mC (.int 4)) Mi.mNil)))) (Mi.mCons (Mi.m2 (Mi.bAdd false) (Mi.mC (.int 4)) (Mi.mCall m_law_draw (Mi.mCons (Mi.mVar 0) (Mi.mCons (Mi.mC (.int 5)) Mi.mNil)))) Mi.mNil))))
noncomputable def m_law_drawn_sizes : MF := Mi.mDef 1 0 b_law_drawn_sizes
abbrev n_law_drawn_sizes : List Str := ["deck"]
abbrev p_law_drawn_sizes : List Str := ["deck"]
noncomputable def qi_law_forced_1 : MI :=
    Mi.iSeq (Mi.m2 Mi.bSubs (Mi.mVar 0) (Mi.mC (.str "wait")))
noncomputable def qb_law_forced_1 : MS :=
    Mi.mSetI (Mi.mVar 1) (Mi.mVar 2) (Mi.mVar 3)
noncomputable def qf_law_forced_1 : MS :=
    Mi.mFor qi_law_forced_1 (Mi.gTup 2 (Mi.gCons (Mi.gNm 2) (Mi.gCons (Mi.gNm 3) Mi.gNil))) qb_law_forced_1
noncomputable def b_law_forced : MS :=
    Mi.mSeq (Mi.mAsg (Mi.m2 Mi.bSubs (Mi.mVar 0) (Mi.mC (.str "stand"))) (Mi.gNm 1)) (
    Mi.mSeq qf_law_forced_1 (
    Mi.mSetK (Mi.mVar 0) (Mi.mC (.str "wait")) (Mi.mLst false Mi.mNil)))
noncomputable def m_law_forced : MF := Mi.mDef 1 3 b_law_forced
abbrev n_law_forced : List Str := ["it", "stand", "place", "block"]
abbrev p_law_forced : List Str := ["it"]
noncomputable def b_law_place : MS :=
    Mi.mRet (Mi.m2 (Mi.bAdd false) (Mi.m2 (Mi.bAdd false) (Mi.m2 (Mi.bMul false) (Mi.mC (.int 2)) (Mi.m2 Mi.bSubs (Mi.mVar 0) (Mi.mC (.int 3)))) (Mi.m2 (Mi.bMul false) (Mi.mVar 1) (Mi.m2 Mi.bSubs (Mi.mVar 0) (Mi.mC (.int 1))))) (Mi.mVar 2))
noncomputable def m_law_place : MF := Mi.mDef 3 0 b_law_place
abbrev n_law_place : List Str := ["sizes", "segment", "offset"]
abbrev p_law_place : List Str := ["sizes", "segment", "offset"]
noncomputable def qi_law_read_1 : MI :=
    Mi.iSeq (Mi.mRev false (Mi.m2 Mi.bSubs (Mi.mVar 0) (Mi.mC (.str "wait"))))
noncomputable def qb_law_read_1 : MS :=
    Mi.mIfS (Mi.mTb (Mi.m2 (Mi.bEq false) (Mi.mVar 2) (Mi.mVar 1))) (Mi.mRet (Mi.mVar 3)) Mi.mSkip
noncomputable def qf_law_read_1 : MS :=
    Mi.mFor qi_law_read_1 (Mi.gTup 2 (Mi.gCons (Mi.gNm 2) (Mi.gCons (Mi.gNm 3) Mi.gNil))) qb_law_read_1
noncomputable def b_law_read : MS :=
    Mi.mSeq qf_law_read_1 (
    Mi.mRet (Mi.m2 Mi.bSubs (Mi.m2 Mi.bSubs (Mi.mVar 0) (Mi.mC (.str "stand"))) (Mi.mVar 1)))
noncomputable def m_law_read : MF := Mi.mDef 2 2 b_law_read
abbrev n_law_read : List Str := ["it", "place", "at", "block"]
abbrev p_law_read : List Str := ["it", "place"]
noncomputable def qi_law_from_1 : MI :=
    Mi.iRange2 (Mi.mVar 2) (Mi.m2 Mi.bSubs (Mi.mVar 3) (Mi.mC (.int 1)))
noncomputable def qe_law_from_1 : ME :=
    Mi.mCall m_law_read (Mi.mCons (Mi.mVar 0) (Mi.mCons (Mi.mCall m_law_place (Mi.mCons (Mi.mVar 3) (Mi.mCons (Mi.mVar 1) (Mi.mCons (Mi.mVar 4) Mi.mNil)))) Mi.mNil))
noncomputable def ql_law_from_1 : ME :=
    Mi.mLc false qi_law_from_1 (Mi.gNm 4) Mi.tYes qe_law_from_1 [4]
noncomputable def b_law_from : MS :=
    Mi.mSeq (Mi.mAsg (Mi.m2 Mi.bSubs (Mi.mVar 0) (Mi.mC (.str "sizes"))) (Mi.gNm 3)) (
    Mi.mRet ql_law_from_1)
noncomputable def m_law_from : MF := Mi.mDef 3 2 b_law_from
abbrev n_law_from : List Str := ["it", "segment", "offset", "sizes", "at"]
abbrev p_law_from : List Str := ["it", "segment", "offset"]
noncomputable def qt_law_group_told_1 : MT :=
    Mi.mTb (Mi.m2 Mi.bGe (Mi.mVar 12) (Mi.mVar 13))
noncomputable def qi_law_group_told_1 : MI :=
    mZipT (Mi.mVar 9) (Mi.mSlice false (Mi.mVar 9) (some (Mi.mC (.int 1))) none)
noncomputable def qe_law_group_told_1 : ME :=
    Mi.mC (.int 1)
noncomputable def ql_law_group_told_1 : ME :=
    Mi.mLc false qi_law_group_told_1 (Mi.gTup 2 (Mi.gCons (Mi.gNm 12) (Mi.gCons (Mi.gNm 13) Mi.gNil))) qt_law_group_told_1 qe_law_group_told_1 [12, 13]
noncomputable def qt_law_group_told_2 : MT :=
    Mi.mTb (Mi.m2 Mi.bGe (Mi.mVar 12) (Mi.mVar 3))
noncomputable def qi_law_group_told_2 : MI :=
    Mi.iSeq (Mi.mVar 9)
noncomputable def qe_law_group_told_2 : ME :=
    Mi.mVar 12
noncomputable def ql_law_group_told_2 : ME :=
    Mi.mLc false qi_law_group_told_2 (Mi.gNm 12) qt_law_group_told_2 qe_law_group_told_2 [12]
noncomputable def qi_law_group_told_3 : MI :=
    Mi.iSeq (Mi.mTup (Mi.mCons (Mi.mVar 7) (Mi.mCons (Mi.mVar 8) Mi.mNil)))
noncomputable def qb_law_group_told_1 : MS :=
    Mi.mIfS (Mi.mTor (Mi.mTb (Mi.m2 (Mi.bEq true) ql_law_group_told_1 (Mi.mLst false Mi.mNil))) (Mi.mTb (Mi.m2 (Mi.bEq true) ql_law_group_told_2 (Mi.mLst false Mi.mNil)))) (Mi.mRet (Mi.mTup (Mi.mCons (Mi.mC (.str "form")) Mi.mNil))) Mi.mSkip
noncomputable def qf_law_group_told_1 : MS :=
    Mi.mFor qi_law_group_told_3 (Mi.gNm 9) qb_law_group_told_1
noncomputable def qt_law_group_told_3 : MT :=
    Mi.mTb (Mi.m2 (bIn false) (Mi.mVar 12) (Mi.mVar 8))
noncomputable def qi_law_group_told_4 : MI :=
    Mi.iSeq (Mi.mVar 7)
noncomputable def qe_law_group_told_3 : ME :=
    Mi.mVar 12
noncomputable def ql_law_group_told_3 : ME :=
    Mi.mLc false qi_law_group_told_4 (Mi.gNm 12) qt_law_group_told_3 qe_law_group_told_3 [12]
noncomputable def qi_law_group_told_5 : MI :=
    iEnumT (Mi.mVar 7)
noncomputable def qb_law_group_told_2 : MS :=
    Mi.mIfS (Mi.mTor (Mi.mTb (Mi.m2 (Mi.bEq true) (Mi.mSlice false (Mi.m2 Mi.bSubs (Mi.mVar 1) (Mi.m2 (Mi.bAdd false) (Mi.mVar 10) (Mi.mC (.int 1)))) none (some (Mi.mC (.int 3)))) (Mi.mTup (Mi.mCons (Mi.mVar 4) (Mi.mCons (Mi.mC (.int 2)) (Mi.mCons (Mi.mVar 11) Mi.mNil)))))) (Mi.mTb (Mi.m2 (Mi.bEq true) (Mi.m2 Mi.bSubs (Mi.m2 Mi.bSubs (Mi.mVar 1) (Mi.m2 (Mi.bAdd false) (Mi.mVar 10) (Mi.mC (.int 1)))) (Mi.mC (.int 31))) (Mi.mVar 4)))) (Mi.mRet (Mi.mTup (Mi.mCons (Mi.mC (.str "block")) (Mi.mCons (Mi.mVar 10) Mi.mNil)))) Mi.mSkip
noncomputable def qf_law_group_told_2 : MS :=
    Mi.mFor qi_law_group_told_5 (Mi.gTup 2 (Mi.gCons (Mi.gNm 10) (Mi.gCons (Mi.gNm 11) Mi.gNil))) qb_law_group_told_2
noncomputable def b_law_group_told : MS :=
    Mi.mSeq (Mi.mAsg (Mi.mTup (Mi.mCons (Mi.m2 Mi.bSubs (Mi.mVar 1) (Mi.mC (.int 0))) (Mi.mCons (Mi.m2 Mi.bSubs (Mi.mVar 0) (Mi.mC (.int 2))) Mi.mNil))) (Mi.gTup 2 (Mi.gCons (Mi.gNm 2) (Mi.gCons (Mi.gNm 3) Mi.gNil)))) (
    Mi.mSeq (Mi.mAsg (Mi.m2 Mi.bSubs (Mi.mVar 2) (Mi.mC (.int 0))) (Mi.gNm 4)) (
    Mi.mSeq (Mi.mIfS (Mi.mTor (Mi.mTb (Mi.m2 (Mi.bEq true) (Mi.mVar 4) (Mi.m2 Mi.bSubs (Mi.mVar 2) (Mi.mC (.int 31))))) (Mi.mTb (Mi.m2 (Mi.bEq false) (Mi.mVar 4) (Mi.mC (.int 0))))) (Mi.mRet (Mi.mTup (Mi.mCons (Mi.mC (.str "torn")) Mi.mNil))) Mi.mSkip) (
    Mi.mSeq (Mi.mIfS (Mi.mTb (Mi.m2 (Mi.bEq true) (Mi.m2 Mi.bSubs (Mi.mVar 2) (Mi.mC (.int 1))) (Mi.mC (.int 1)))) (Mi.mRet (Mi.mTup (Mi.mCons (Mi.mC (.str "kind")) Mi.mNil))) Mi.mSkip) (
    Mi.mSeq (Mi.mPar 5 6 (Mi.mCons (Mi.m2 Mi.bSubs (Mi.mVar 2) (Mi.mC (.int 4))) (Mi.mCons (Mi.m2 Mi.bSubs (Mi.mVar 2) (Mi.mC (.int 5))) Mi.mNil))) (
    Mi.mSeq (Mi.mIfS (Mi.mTor (Mi.mTb (Mi.m2 Mi.bGe (Mi.m2 Mi.bSubs (Mi.mVar 2) (Mi.mC (.int 3))) (Mi.m2 Mi.bSubs (Mi.mVar 0) (Mi.mC (.int 0))))) (Mi.mTor (Mi.mTnot (Mi.mTb (Mi.mChain Mi.bLe Mi.bLe (Mi.mC (.int 1)) (Mi.m2 (Mi.bAdd false) (Mi.mVar 5) (Mi.mVar 6)) (Mi.mC (.int 24))))) (Mi.mTb (Mi.m2 Mi.bGt (Mi.m2 (Mi.bAdd false) (Mi.mVar 5) (Mi.mC (.int 1))) (Mi.mB Mi.fLen (Mi.mCons (Mi.mVar 1) Mi.mNil)))))) (Mi.mRet (Mi.mTup (Mi.mCons (Mi.mC (.str "form")) Mi.mNil))) Mi.mSkip) (
    Mi.mSeq (Mi.mAsg (Mi.mTup (Mi.mCons (Mi.mSlice false (Mi.mVar 2) (some (Mi.mC (.int 6))) (some (Mi.m2 (Mi.bAdd false) (Mi.mC (.int 6)) (Mi.mVar 5)))) (Mi.mCons (Mi.mSlice false (Mi.mVar 2) (some (Mi.m2 (Mi.bAdd false) (Mi.mC (.int 6)) (Mi.mVar 5))) (some (Mi.m2 (Mi.bAdd false) (Mi.m2 (Mi.bAdd false) (Mi.mC (.int 6)) (Mi.mVar 5)) (Mi.mVar 6)))) Mi.mNil))) (Mi.gTup 2 (Mi.gCons (Mi.gNm 7) (Mi.gCons (Mi.gNm 8) Mi.gNil)))) (
    Mi.mSeq qf_law_group_told_1 (
    Mi.mSeq (Mi.mIfS (Mi.mTor (Mi.mTb (Mi.m2 (Mi.bEq true) ql_law_group_told_3 (Mi.mLst false Mi.mNil))) (Mi.mTb (Mi.m2 Mi.bGt (Mi.mB fMaxTI (Mi.mCons (Mi.mSlice false (Mi.mVar 2) (some (Mi.m2 (Mi.bAdd false) (Mi.m2 (Mi.bAdd false) (Mi.mC (.int 6)) (Mi.mVar 5)) (Mi.mVar 6))) (some (Mi.mC (.int 31)))) Mi.mNil)) (Mi.mC (.int 0))))) (Mi.mRet (Mi.mTup (Mi.mCons (Mi.mC (.str "form")) Mi.mNil))) Mi.mSkip) (
    Mi.mSeq qf_law_group_told_2 (
    Mi.mRet (Mi.mTup (Mi.mCons (Mi.mC (.str "group")) (Mi.mCons (Mi.mVar 4) (Mi.mCons (Mi.m2 Mi.bSubs (Mi.mVar 2) (Mi.mC (.int 2))) (Mi.mCons (Mi.m2 Mi.bSubs (Mi.mVar 2) (Mi.mC (.int 3))) (Mi.mCons (Mi.mVar 7) (Mi.mCons (Mi.mVar 8) Mi.mNil)))))))))))))))))
noncomputable def m_law_group_told : MF := Mi.mDef 2 12 b_law_group_told
abbrev n_law_group_told : List Str := ["sizes", "blocks", "first", "room", "number", "many", "more", "puts", "drops", "keys", "j", "key", "x", "y"]
abbrev p_law_group_told : List Str := ["sizes", "blocks"]
noncomputable def qi_law_keys_1 : MI :=
    Mi.iRange1 (Mi.mB Mi.fMin (Mi.mCons (Mi.mVar 2) (Mi.mCons (Mi.mB Mi.fLen (Mi.mCons (Mi.mVar 3) Mi.mNil)) Mi.mNil)))
noncomputable def qb_law_keys_1 : MS :=
    Mi.mExpr (Mi.mAppend (Mi.mVar 4) (mPopAt (Mi.mVar 3) (Mi.mCall m_law_draw (Mi.mCons (Mi.mVar 0) (Mi.mCons (Mi.mB Mi.fLen (Mi.mCons (Mi.mVar 3) Mi.mNil)) Mi.mNil)))))
noncomputable def qf_law_keys_1 : MS :=
    Mi.mFor qi_law_keys_1 (Mi.gNm 5) qb_law_keys_1
noncomputable def b_law_keys : MS :=
    Mi.mSeq (Mi.mPar 3 4 (Mi.mCons (Mi.mB (Mi.fList true) (Mi.mCons (Mi.mVar 1) Mi.mNil)) (Mi.mCons (Mi.mLst true Mi.mNil) Mi.mNil))) (
    Mi.mSeq qf_law_keys_1 (
    Mi.mRet (Mi.mB Mi.fTuple (Mi.mCons (Mi.mB (fSorted false) (Mi.mCons (Mi.mVar 4) Mi.mNil)) Mi.mNil))))
noncomputable def m_law_keys : MF := Mi.mDef 3 3 b_law_keys
abbrev n_law_keys : List Str := ["deck", "some", "many", "left", "found", "go"]
abbrev p_law_keys : List Str := ["deck", "some", "many"]
noncomputable def b_law_some_keys : MS :=
    Mi.mSeq (Mi.mAsg (Mi.mB (Mi.fList true) (Mi.mCons (Mi.mCall m_law_keys (Mi.mCons (Mi.mVar 0) (Mi.mCons (Mi.m1 (Mi.uListR false) (Mi.m2 Mi.bSubs (Mi.mVar 1) (Mi.mC (.int 2)))) (Mi.mCons (Mi.mB Mi.fMin (Mi.mCons (Mi.mVar 2) (Mi.mCons (Mi.m2 Mi.bSubs (Mi.mVar 1) (Mi.mC (.int 2))) Mi.mNil))) Mi.mNil)))) Mi.mNil)) (Mi.gNm 3)) (
    Mi.mSeq (Mi.mAsg (Mi.m2 (Mi.bAdd true) (Mi.mVar 3) (Mi.m2 (Mi.bMul false) (Mi.mLst false (Mi.mCons (Mi.mCall m_law_draw (Mi.mCons (Mi.mVar 0) (Mi.mCons (Mi.m2 Mi.bSubs (Mi.mVar 1) (Mi.mC (.int 2))) Mi.mNil))) Mi.mNil)) (Mi.m2 Mi.bSub (Mi.mVar 2) (Mi.mB Mi.fLen (Mi.mCons (Mi.mVar 3) Mi.mNil))))) (Mi.gNm 3)) (
    Mi.mSeq (Mi.mAsg (Mi.mCall m_law_draw (Mi.mCons (Mi.mVar 0) (Mi.mCons (Mi.mC (.int 16)) Mi.mNil))) (Mi.gNm 4)) (
    Mi.mSeq (Mi.mIfS (Mi.mTand (Mi.mTb (Mi.m2 (Mi.bEq true) (Mi.mVar 3) (Mi.mLst false Mi.mNil))) (Mi.mTb (Mi.m2 Mi.bLt (Mi.mVar 4) (Mi.mC (.int 3))))) (Mi.mSeq (Mi.mAsg (Mi.mCall m_law_draw (Mi.mCons (Mi.mVar 0) (Mi.mCons (Mi.mB Mi.fLen (Mi.mCons (Mi.mVar 3) Mi.mNil)) Mi.mNil))) (Mi.gNm 5)) (
    Mi.mSetI (Mi.mVar 3) (Mi.mVar 5) (Mi.m2 Mi.bSubs (Mi.mLst false (Mi.mCons (Mi.m2 Mi.bSubs (Mi.mVar 1) (Mi.mC (.int 2))) (Mi.mCons (Mi.m2 Mi.bSubs (Mi.mVar 3) (Mi.mC (.int 0))) (Mi.mCons (Mi.m2 Mi.bSubs (Mi.mVar 3) (Mi.m1 Mi.uNeg (Mi.mC (.int 1)))) Mi.mNil)))) (Mi.mVar 4)))) (Mi.mIfS (Mi.mTand (Mi.mTb (Mi.m2 (Mi.bEq true) (Mi.mVar 3) (Mi.mLst false Mi.mNil))) (Mi.mTb (Mi.m2 (Mi.bEq false) (Mi.mVar 4) (Mi.mC (.int 3))))) (Mi.mAsg (Mi.mTup (Mi.mCons (Mi.m2 Mi.bSubs (Mi.mVar 3) (Mi.m1 Mi.uNeg (Mi.mC (.int 1)))) (Mi.mCons (Mi.m2 Mi.bSubs (Mi.mVar 3) (Mi.mC (.int 0))) Mi.mNil))) (Mi.gTup 2 (Mi.gCons (gSubI (Mi.mVar 3) (Mi.mC (.int 0))) (Mi.gCons (gSubI (Mi.mVar 3) (Mi.m1 Mi.uNeg (Mi.mC (.int 1)))) Mi.gNil)))) Mi.mSkip)) (
    Mi.mRet (Mi.mVar 3)))))
noncomputable def m_law_some_keys : MF := Mi.mDef 3 3 b_law_some_keys
abbrev n_law_some_keys : List Str := ["deck", "sizes", "many", "found", "way", "at"]
abbrev p_law_some_keys : List Str := ["deck", "sizes", "many"]
noncomputable def qt_law_some_summary_1 : MT :=
    Mi.mTor (Mi.mTb (Mi.m2 (bIn true) (Mi.mVar 12) (Mi.mVar 7))) (Mi.mTb (Mi.m2 (Mi.bEq false) (Mi.mCall m_law_draw (Mi.mCons (Mi.mVar 0) (Mi.mCons (Mi.mC (.int 12)) Mi.mNil))) (Mi.mC (.int 0))))
noncomputable def qi_law_some_summary_1 : MI :=
    Mi.iSeq (Mi.mCall m_law_some_keys (Mi.mCons (Mi.mVar 0) (Mi.mCons (Mi.mVar 1) (Mi.mCons (Mi.mVar 6) Mi.mNil))))
noncomputable def qe_law_some_summary_1 : ME :=
    Mi.mVar 12
noncomputable def ql_law_some_summary_1 : ME :=
    Mi.mLc false qi_law_some_summary_1 (Mi.gNm 12) qt_law_some_summary_1 qe_law_some_summary_1 [12]
noncomputable def qi_law_some_summary_2 : MI :=
    Mi.iRange1 (Mi.mCall m_law_pick (Mi.mCons (Mi.mVar 0) (Mi.mCons (Mi.mLst false (Mi.mCons (Mi.mC (.int 0)) (Mi.mCons (Mi.mC (.int 0)) (Mi.mCons (Mi.mC (.int 0)) (Mi.mCons (Mi.mC (.int 1)) (Mi.mCons (Mi.mC (.int 0)) (Mi.mCons (Mi.mC (.int 2)) Mi.mNil))))))) Mi.mNil)))
noncomputable def qb_law_some_summary_1 : MS :=
    Mi.mSeq (Mi.mAsg (Mi.mCall m_law_pick (Mi.mCons (Mi.mVar 0) (Mi.mCons (Mi.mLst false (Mi.mCons (Mi.mC (.int 0)) (Mi.mCons (Mi.mC (.int 1)) (Mi.mCons (Mi.mC (.int 3)) (Mi.mCons (Mi.mC (.int 4)) (Mi.mCons (Mi.mC (.int 5)) (Mi.mCons (Mi.mC (.int 6)) (Mi.mCons (Mi.mC (.int 7)) (Mi.mCons (Mi.mC (.int 30)) (Mi.mCons (Mi.mC (.int 31)) (Mi.mCons (Mi.mCall m_law_draw (Mi.mCons (Mi.mVar 0) (Mi.mCons (Mi.mC (.int 32)) Mi.mNil))) Mi.mNil))))))))))) Mi.mNil))) (Mi.gNm 11)) (
    Mi.mSetI (Mi.mVar 9) (Mi.mVar 11) (Mi.mCall m_law_pick (Mi.mCons (Mi.mVar 0) (Mi.mCons (Mi.mLst false (Mi.mCons (Mi.mC (.int 0)) (Mi.mCons (Mi.mC (.int 1)) (Mi.mCons (Mi.mC (.int 2)) (Mi.mCons (Mi.mIf (Mi.mTb (Mi.m2 Mi.bLt (Mi.m2 Mi.bSubs (Mi.mVar 9) (Mi.mVar 11)) (Mi.m2 Mi.bPow (Mi.mC (.int 10)) (Mi.mC (.int 9))))) (Mi.m2 (Mi.bAdd false) (Mi.m2 Mi.bSubs (Mi.mVar 9) (Mi.mVar 11)) (Mi.mC (.int 1))) (Mi.mC (.int 0))) (Mi.mCons (Mi.mB Mi.fMax (Mi.mCons (Mi.mC (.int 0)) (Mi.mCons (Mi.m2 Mi.bSub (Mi.m2 Mi.bSubs (Mi.mVar 9) (Mi.mVar 11)) (Mi.mC (.int 1))) Mi.mNil))) (Mi.mCons (Mi.m2 Mi.bPow (Mi.mC (.int 10)) (Mi.mC (.int 9))) Mi.mNil))))))) Mi.mNil))))
noncomputable def qf_law_some_summary_1 : MS :=
    Mi.mFor qi_law_some_summary_2 (Mi.gNm 10) qb_law_some_summary_1
noncomputable def b_law_some_summary : MS :=
    Mi.mSeq (Mi.mPar 3 4 (Mi.mCons (Mi.mCall m_law_pick (Mi.mCons (Mi.mVar 0) (Mi.mCons (Mi.mLst false (Mi.mCons (Mi.m2 (Mi.bAdd false) (Mi.mC (.int 1)) (Mi.mCall m_law_draw (Mi.mCons (Mi.mVar 0) (Mi.mCons (Mi.mC (.int 9)) Mi.mNil)))) (Mi.mCons (Mi.m2 (Mi.bAdd false) (Mi.mC (.int 1)) (Mi.mCall m_law_draw (Mi.mCons (Mi.mVar 0) (Mi.mCons (Mi.mC (.int 9)) Mi.mNil)))) (Mi.mCons (Mi.mC (.int 0)) (Mi.mCons (Mi.m2 Mi.bPow (Mi.mC (.int 10)) (Mi.mC (.int 9))) (Mi.mCons (Mi.m2 (Mi.bAdd false) (Mi.mC (.int 1)) (Mi.mCall m_law_draw (Mi.mCons (Mi.mVar 0) (Mi.mCons (Mi.m2 Mi.bPow (Mi.mC (.int 10)) (Mi.mC (.int 9))) Mi.mNil)))) Mi.mNil)))))) Mi.mNil))) (Mi.mCons (Mi.m2 Mi.bSub (Mi.m2 Mi.bSub (Mi.m2 Mi.bSubs (Mi.mVar 1) (Mi.mC (.int 1))) (Mi.mC (.int 1))) (Mi.mVar 2)) Mi.mNil))) (
    Mi.mSeq (Mi.mAsg (Mi.mCall m_law_pick (Mi.mCons (Mi.mVar 0) (Mi.mCons (Mi.mLst false (Mi.mCons (Mi.mC (.int 0)) (Mi.mCons (Mi.mB Mi.fMin (Mi.mCons (Mi.mVar 4) (Mi.mCons (Mi.mC (.int 1)) Mi.mNil))) (Mi.mCons (Mi.mB Mi.fMin (Mi.mCons (Mi.mVar 4) (Mi.mCons (Mi.mC (.int 2)) Mi.mNil))) (Mi.mCons (Mi.mVar 4) (Mi.mCons (Mi.mB Mi.fMin (Mi.mCons (Mi.mVar 4) (Mi.mCons (Mi.mC (.int 3)) Mi.mNil))) (Mi.mCons (Mi.mCall m_law_draw (Mi.mCons (Mi.mVar 0) (Mi.mCons (Mi.m2 (Mi.bAdd false) (Mi.mVar 4) (Mi.mC (.int 1))) Mi.mNil))) (Mi.mCons (Mi.m2 (Mi.bAdd false) (Mi.mVar 4) (Mi.mC (.int 1))) (Mi.mCons (Mi.m2 Mi.bSubs (Mi.mVar 1) (Mi.mC (.int 1))) (Mi.mCons (Mi.mCall m_law_draw (Mi.mCons (Mi.mVar 0) (Mi.mCons (Mi.mC (.int 4)) Mi.mNil))) Mi.mNil)))))))))) Mi.mNil))) (Mi.gNm 5)) (
    Mi.mSeq (Mi.mAsg (Mi.mCall m_law_pick (Mi.mCons (Mi.mVar 0) (Mi.mCons (Mi.mLst false (Mi.mCons (Mi.mC (.int 0)) (Mi.mCons (Mi.mC (.int 1)) (Mi.mCons (Mi.mC (.int 1)) (Mi.mCons (Mi.mC (.int 2)) (Mi.mCons (Mi.mCall m_law_draw (Mi.mCons (Mi.mVar 0) (Mi.mCons (Mi.mC (.int 4)) Mi.mNil))) (Mi.mCons (Mi.mC (.int 1)) (Mi.mCons (Mi.mC (.int 3)) (Mi.mCons (Mi.mB Mi.fMax (Mi.mCons (Mi.mC (.int 0)) (Mi.mCons (Mi.m2 Mi.bSub (Mi.mC (.int 24)) (Mi.mVar 5)) Mi.mNil))) (Mi.mCons (Mi.mB Mi.fMax (Mi.mCons (Mi.mC (.int 0)) (Mi.mCons (Mi.m2 Mi.bSub (Mi.mC (.int 25)) (Mi.mVar 5)) Mi.mNil))) Mi.mNil)))))))))) Mi.mNil))) (Mi.gNm 6)) (
    Mi.mSeq (Mi.mAsg (Mi.mCall m_law_some_keys (Mi.mCons (Mi.mVar 0) (Mi.mCons (Mi.mVar 1) (Mi.mCons (Mi.mVar 5) Mi.mNil)))) (Mi.gNm 7)) (
    Mi.mSeq (Mi.mAsg ql_law_some_summary_1 (Mi.gNm 8)) (
    Mi.mSeq (Mi.mAsg (Mi.mLst true (Mi.mCons (Mi.mVar 3) (Mi.mCons (Mi.mC (.int 1)) (Mi.mCons (Mi.mCall m_law_pick (Mi.mCons (Mi.mVar 0) (Mi.mCons (Mi.mLst false (Mi.mCons (Mi.mC (.int 0)) (Mi.mCons (Mi.mB Mi.fMax (Mi.mCons (Mi.mC (.int 0)) (Mi.mCons (Mi.m2 Mi.bSub (Mi.mVar 3) (Mi.mC (.int 1))) Mi.mNil))) (Mi.mCons (Mi.mC (.int 3)) (Mi.mCons (Mi.mVar 3) (Mi.mCons (Mi.m2 Mi.bPow (Mi.mC (.int 10)) (Mi.mC (.int 9))) Mi.mNil)))))) Mi.mNil))) (Mi.mCons (Mi.mCall m_law_pick (Mi.mCons (Mi.mVar 0) (Mi.mCons (Mi.mLst false (Mi.mCons (Mi.mC (.int 0)) (Mi.mCons (Mi.m2 Mi.bSub (Mi.m2 Mi.bSubs (Mi.mVar 1) (Mi.mC (.int 0))) (Mi.mC (.int 1))) (Mi.mCons (Mi.mC (.int 1)) (Mi.mCons (Mi.mC (.int 1)) (Mi.mCons (Mi.mC (.int 2)) (Mi.mCons (Mi.mC (.int 3)) (Mi.mCons (Mi.mC (.int 4)) (Mi.mCons (Mi.m2 Mi.bSubs (Mi.mVar 1) (Mi.mC (.int 0))) Mi.mNil))))))))) Mi.mNil))) (Mi.mCons (Mi.mB Mi.fLen (Mi.mCons (Mi.mVar 7) Mi.mNil)) (Mi.mCons (Mi.mB Mi.fLen (Mi.mCons (Mi.mVar 8) Mi.mNil)) Mi.mNil))))))) (Mi.gNm 9)) (
    Mi.mSeq (Mi.mAsg (Mi.mSlice true (Mi.m2 (Mi.bAdd false) (Mi.m2 (bAddL false) (Mi.mVar 9) (Mi.mVar 7)) (Mi.mVar 8)) none (some (Mi.mC (.int 31)))) (Mi.gNm 9)) (
    Mi.mSeq (Mi.mAsg (Mi.m2 (Mi.bAdd true) (Mi.m2 (Mi.bAdd false) (Mi.mVar 9) (Mi.m2 (Mi.bMul false) (Mi.mLst false (Mi.mCons (Mi.mC (.int 0)) Mi.mNil)) (Mi.m2 Mi.bSub (Mi.mC (.int 31)) (Mi.mB Mi.fLen (Mi.mCons (Mi.mVar 9) Mi.mNil))))) (Mi.mLst false (Mi.mCons (Mi.mVar 3) Mi.mNil))) (Mi.gNm 9)) (
    Mi.mSeq qf_law_some_summary_1 (
    Mi.mRet (Mi.mB Mi.fTuple (Mi.mCons (Mi.mVar 9) Mi.mNil)))))))))))
noncomputable def m_law_some_summary : MF := Mi.mDef 3 10 b_law_some_summary
abbrev n_law_some_summary : List Str := ["deck", "sizes", "offset", "number", "room", "many", "more", "puts", "drops", "words", "turn", "at", "key"]
abbrev p_law_some_summary : List Str := ["deck", "sizes", "offset"]
noncomputable def b_Disk_read : MS :=
    Mi.mSeq (Mi.mExpr (Mi.mMeth 0 "need_place" m_Disk_need_place (Mi.mVar 0) (Mi.mCons (Mi.mVar 1) Mi.mNil))) (
    Mi.mRet (Mi.mGet2 (Mi.mFld [0] (Mi.mVar 0) "newest") (Mi.mVar 1) (Mi.m2 Mi.bSubs (Mi.mFld [0] (Mi.mVar 0) "blocks") (Mi.mVar 1))))
noncomputable def m_Disk_read : MF := Mi.mDef 2 0 b_Disk_read
abbrev n_Disk_read : List Str := ["self", "place"]
abbrev p_Disk_read : List Str := ["self", "place"]
noncomputable def b_is_data_of : MS :=
    Mi.mRet (Mi.mAnd (Mi.m2 (Mi.bEq false) (Mi.mSlice false (Mi.mVar 0) none (some (Mi.mC (.int 3)))) (Mi.mTup (Mi.mCons (Mi.mVar 1) (Mi.mCons (Mi.mC (.int 2)) (Mi.mCons (Mi.mVar 2) Mi.mNil))))) (Mi.m2 (Mi.bEq false) (Mi.m2 Mi.bSubs (Mi.mVar 0) (Mi.m1 Mi.uNeg (Mi.mC (.int 1)))) (Mi.mVar 1)))
noncomputable def m_is_data_of : MF := Mi.mDef 3 0 b_is_data_of
abbrev n_is_data_of : List Str := ["block", "number", "key"]
abbrev p_is_data_of : List Str := ["block", "number", "key"]
noncomputable def b_place_raw : MS :=
    Mi.mRet (Mi.m2 (Mi.bAdd false) (Mi.m2 (Mi.bAdd false) (Mi.m2 (Mi.bMul false) (Mi.mC (.int 2)) (Mi.mFld [0] (Mi.mVar 0) "r")) (Mi.m2 (Mi.bMul false) (Mi.mVar 1) (Mi.mFld [0] (Mi.mVar 0) "k"))) (Mi.mVar 2))
noncomputable def m_place_raw : MF := Mi.mDef 3 0 b_place_raw
abbrev n_place_raw : List Str := ["disk", "segment", "offset"]
abbrev p_place_raw : List Str := ["disk", "segment", "offset"]
noncomputable def qi_are_rising_1 : MI :=
    Mi.iRange1 (Mi.m2 Mi.bSub (Mi.mB Mi.fLen (Mi.mCons (Mi.mVar 0) Mi.mNil)) (Mi.mC (.int 1)))
noncomputable def qe_are_rising_1 : ME :=
    Mi.m2 Mi.bLt (Mi.m2 Mi.bSubs (Mi.mVar 0) (Mi.mVar 1)) (Mi.m2 Mi.bSubs (Mi.mVar 0) (Mi.m2 (Mi.bAdd false) (Mi.mVar 1) (Mi.mC (.int 1))))
noncomputable def ql_are_rising_1 : ME :=
    Mi.mLc false qi_are_rising_1 (Mi.gNm 1) Mi.tYes qe_are_rising_1 [1]
noncomputable def b_are_rising : MS :=
    Mi.mRet (Mi.mB Mi.fAll (Mi.mCons ql_are_rising_1 Mi.mNil))
noncomputable def m_are_rising : MF := Mi.mDef 1 1 b_are_rising
abbrev n_are_rising : List Str := ["items", "at"]
abbrev p_are_rising : List Str := ["items"]
noncomputable def qi_are_keys_of_1 : MI :=
    Mi.iSeq (Mi.mVar 1)
noncomputable def qe_are_keys_of_1 : ME :=
    Mi.m2 Mi.bLt (Mi.mVar 2) (Mi.mFld [0] (Mi.mVar 0) "n")
noncomputable def ql_are_keys_of_1 : ME :=
    Mi.mLc false qi_are_keys_of_1 (Mi.gNm 2) Mi.tYes qe_are_keys_of_1 [2]
noncomputable def b_are_keys_of : MS :=
    Mi.mRet (Mi.mAnd (Mi.mB Mi.fAll (Mi.mCons ql_are_keys_of_1 Mi.mNil)) (Mi.mCall m_are_rising (Mi.mCons (Mi.mVar 1) Mi.mNil)))
noncomputable def m_are_keys_of : MF := Mi.mDef 2 1 b_are_keys_of
abbrev n_are_keys_of : List Str := ["disk", "words", "word"]
abbrev p_are_keys_of : List Str := ["disk", "words"]
noncomputable def qi_told_by_1 : MI :=
    Mi.iSeq (Mi.mVar 10)
noncomputable def qe_told_by_1 : ME :=
    Mi.m2 (bIn false) (Mi.mVar 11) (Mi.mVar 9)
noncomputable def ql_told_by_1 : ME :=
    Mi.mLc false qi_told_by_1 (Mi.gNm 11) Mi.tYes qe_told_by_1 [11]
noncomputable def qi_told_by_2 : MI :=
    Mi.iSeq (Mi.mSlice false (Mi.mVar 2) (some (Mi.mVar 8)) (some (Mi.m1 Mi.uNeg (Mi.mC (.int 1)))))
noncomputable def qe_told_by_2 : ME :=
    Mi.m2 Mi.bGt (Mi.mVar 12) (Mi.mC (.int 0))
noncomputable def ql_told_by_2 : ME :=
    Mi.mLc false qi_told_by_2 (Mi.gNm 12) Mi.tYes qe_told_by_2 [12]
noncomputable def b_told_by : MS :=
    Mi.mSeq (Mi.mAsg (Mi.mSlice false (Mi.mVar 2) (some (Mi.mC (.int 2))) (some (Mi.mC (.int 6)))) (Mi.gTup 4 (Mi.gCons (Mi.gNm 3) (Mi.gCons (Mi.gNm 4) (Mi.gCons (Mi.gNm 5) (Mi.gCons (Mi.gNm 6) Mi.gNil)))))) (
    Mi.mSeq (Mi.mIfS (Mi.mTnot (Mi.mTb (Mi.mChain Mi.bLe Mi.bLe (Mi.mC (.int 1)) (Mi.m2 (Mi.bAdd false) (Mi.mVar 5) (Mi.mVar 6)) (Mi.mC (.int 24))))) (Mi.mRet (Mi.mC .non)) Mi.mSkip) (
    Mi.mSeq (Mi.mIfS (Mi.mTor (Mi.mTb (Mi.m2 Mi.bGe (Mi.mVar 4) (Mi.mFld [0] (Mi.mVar 0) "s"))) (Mi.mTb (Mi.m2 Mi.bGt (Mi.m2 (Mi.bAdd false) (Mi.m2 (Mi.bAdd false) (Mi.mVar 1) (Mi.mC (.int 1))) (Mi.mVar 5)) (Mi.mFld [0] (Mi.mVar 0) "k")))) (Mi.mRet (Mi.mC .non)) Mi.mSkip) (
    Mi.mSeq (Mi.mAsg (Mi.m2 (Mi.bAdd false) (Mi.mC (.int 6)) (Mi.mVar 5)) (Mi.gNm 7)) (
    Mi.mSeq (Mi.mAsg (Mi.m2 (Mi.bAdd false) (Mi.mVar 7) (Mi.mVar 6)) (Mi.gNm 8)) (
    Mi.mSeq (Mi.mAsg (Mi.mTup (Mi.mCons (Mi.mSlice false (Mi.mVar 2) (some (Mi.mC (.int 6))) (some (Mi.mVar 7))) (Mi.mCons (Mi.mSlice false (Mi.mVar 2) (some (Mi.mVar 7)) (some (Mi.mVar 8))) Mi.mNil))) (Mi.gTup 2 (Mi.gCons (Mi.gNm 9) (Mi.gCons (Mi.gNm 10) Mi.gNil)))) (
    Mi.mSeq (Mi.mIfS (Mi.mTor (Mi.mTnot (Mi.mTb (Mi.mCall m_are_keys_of (Mi.mCons (Mi.mVar 0) (Mi.mCons (Mi.mVar 9) Mi.mNil))))) (Mi.mTnot (Mi.mTb (Mi.mCall m_are_keys_of (Mi.mCons (Mi.mVar 0) (Mi.mCons (Mi.mVar 10) Mi.mNil)))))) (Mi.mRet (Mi.mC .non)) Mi.mSkip) (
    Mi.mSeq (Mi.mIfS (Mi.mTb (Mi.mB Mi.fAny (Mi.mCons ql_told_by_1 Mi.mNil))) (Mi.mRet (Mi.mC .non)) Mi.mSkip) (
    Mi.mSeq (Mi.mIfS (Mi.mTb (Mi.mB Mi.fAny (Mi.mCons ql_told_by_2 Mi.mNil))) (Mi.mRet (Mi.mC .non)) Mi.mSkip) (
    Mi.mRet (Mi.mTup (Mi.mCons (Mi.mC (.str "group")) (Mi.mCons (Mi.m2 Mi.bSubs (Mi.mVar 2) (Mi.mC (.int 0))) (Mi.mCons (Mi.mVar 3) (Mi.mCons (Mi.mVar 4) (Mi.mCons (Mi.mVar 9) (Mi.mCons (Mi.mVar 10) Mi.mNil))))))))))))))))
noncomputable def m_told_by : MF := Mi.mDef 3 10 b_told_by
abbrev n_told_by : List Str := ["disk", "offset", "block", "ahead", "beyond", "many", "dropped", "middle", "end", "puts", "drops", "key", "word"]
abbrev p_told_by : List Str := ["disk", "offset", "block"]
noncomputable def qi_group_at_1 : MI :=
    iEnumT (Mi.m2 Mi.bSubs (Mi.mVar 5) (Mi.mC (.int 4)))
noncomputable def qb_group_at_1 : MS :=
    Mi.mSeq (Mi.mAsg (Mi.mMeth 0 "read" m_Disk_read (Mi.mVar 0) (Mi.mCons (Mi.mCall m_place_raw (Mi.mCons (Mi.mVar 0) (Mi.mCons (Mi.mVar 1) (Mi.mCons (Mi.m2 (Mi.bAdd false) (Mi.m2 (Mi.bAdd false) (Mi.mVar 2) (Mi.mC (.int 1))) (Mi.mVar 6)) Mi.mNil)))) Mi.mNil)) (Mi.gNm 8)) (
    Mi.mIfS (Mi.mTnot (Mi.mTb (Mi.mCall m_is_data_of (Mi.mCons (Mi.mVar 8) (Mi.mCons (Mi.mVar 4) (Mi.mCons (Mi.mVar 7) Mi.mNil)))))) (Mi.mRet (Mi.mTup (Mi.mCons (Mi.mC (.str "block")) (Mi.mCons (Mi.mVar 6) Mi.mNil)))) Mi.mSkip)
noncomputable def qf_group_at_1 : MS :=
    Mi.mFor qi_group_at_1 (Mi.gTup 2 (Mi.gCons (Mi.gNm 6) (Mi.gCons (Mi.gNm 7) Mi.gNil))) qb_group_at_1
noncomputable def b_group_at : MS :=
    Mi.mSeq (Mi.mAsg (Mi.mMeth 0 "read" m_Disk_read (Mi.mVar 0) (Mi.mCons (Mi.mCall m_place_raw (Mi.mCons (Mi.mVar 0) (Mi.mCons (Mi.mVar 1) (Mi.mCons (Mi.mVar 2) Mi.mNil)))) Mi.mNil)) (Mi.gNm 3)) (
    Mi.mSeq (Mi.mAsg (Mi.m2 Mi.bSubs (Mi.mVar 3) (Mi.mC (.int 0))) (Mi.gNm 4)) (
    Mi.mSeq (Mi.mIfS (Mi.mTor (Mi.mTb (Mi.m2 (Mi.bEq false) (Mi.mVar 4) (Mi.mC (.int 0)))) (Mi.mTb (Mi.m2 (Mi.bEq true) (Mi.m2 Mi.bSubs (Mi.mVar 3) (Mi.m1 Mi.uNeg (Mi.mC (.int 1)))) (Mi.mVar 4)))) (Mi.mRet (Mi.mTup (Mi.mCons (Mi.mC (.str "torn")) Mi.mNil))) Mi.mSkip) (
    Mi.mSeq (Mi.mIfS (Mi.mTb (Mi.m2 (Mi.bEq true) (Mi.m2 Mi.bSubs (Mi.mVar 3) (Mi.mC (.int 1))) (Mi.mC (.int 1)))) (Mi.mRet (Mi.mTup (Mi.mCons (Mi.mC (.str "kind")) Mi.mNil))) Mi.mSkip) (
    Mi.mSeq (Mi.mAsg (Mi.mCall m_told_by (Mi.mCons (Mi.mVar 0) (Mi.mCons (Mi.mVar 2) (Mi.mCons (Mi.mVar 3) Mi.mNil)))) (Mi.gNm 5)) (
    Mi.mSeq (Mi.mIfS (Mi.mTb (Mi.mIsN false (Mi.mVar 5))) (Mi.mRet (Mi.mTup (Mi.mCons (Mi.mC (.str "form")) Mi.mNil))) Mi.mSkip) (
    Mi.mSeq qf_group_at_1 (
    Mi.mRet (Mi.mVar 5))))))))
noncomputable def m_group_at : MF := Mi.mDef 3 6 b_group_at
abbrev n_group_at : List Str := ["disk", "segment", "offset", "summary", "number", "told", "at", "key", "block"]
abbrev p_group_at : List Str := ["disk", "segment", "offset"]
noncomputable def b_need_disk : MS :=
    Mi.mIfS (Mi.mTnot (Mi.mTb (mIsC 0 (Mi.mVar 0)))) Mi.mFail Mi.mSkip
noncomputable def m_need_disk : MF := Mi.mDef 1 0 b_need_disk
abbrev n_need_disk : List Str := ["disk"]
abbrev p_need_disk : List Str := ["disk"]
noncomputable def b_place_at : MS :=
    Mi.mSeq (Mi.mExpr (Mi.mCall m_need_disk (Mi.mCons (Mi.mVar 0) Mi.mNil))) (
    Mi.mSeq (Mi.mIfS (Mi.mTnot (Mi.mTb (Mi.mCall m_is_between (Mi.mCons (Mi.mVar 1) (Mi.mCons (Mi.mC (.int 0)) (Mi.mCons (Mi.m2 Mi.bSub (Mi.mFld [0] (Mi.mVar 0) "s") (Mi.mC (.int 1))) Mi.mNil)))))) Mi.mFail Mi.mSkip) (
    Mi.mSeq (Mi.mIfS (Mi.mTnot (Mi.mTb (Mi.mCall m_is_between (Mi.mCons (Mi.mVar 2) (Mi.mCons (Mi.mC (.int 0)) (Mi.mCons (Mi.m2 Mi.bSub (Mi.mFld [0] (Mi.mVar 0) "k") (Mi.mC (.int 1))) Mi.mNil)))))) Mi.mFail Mi.mSkip) (
    Mi.mRet (Mi.mCall m_place_raw (Mi.mCons (Mi.mVar 0) (Mi.mCons (Mi.mVar 1) (Mi.mCons (Mi.mVar 2) Mi.mNil)))))))
noncomputable def m_place_at : MF := Mi.mDef 3 0 b_place_at
abbrev n_place_at : List Str := ["disk", "segment", "offset"]
abbrev p_place_at : List Str := ["disk", "segment", "offset"]
noncomputable def b_judge_group : MS :=
    Mi.mSeq (Mi.mExpr (Mi.mCall m_place_at (Mi.mCons (Mi.mVar 0) (Mi.mCons (Mi.mVar 1) (Mi.mCons (Mi.mVar 2) Mi.mNil))))) (
    Mi.mRet (Mi.mCall m_group_at (Mi.mCons (Mi.mVar 0) (Mi.mCons (Mi.mVar 1) (Mi.mCons (Mi.mVar 2) Mi.mNil)))))
noncomputable def m_judge_group : MF := Mi.mDef 3 0 b_judge_group
abbrev n_judge_group : List Str := ["disk", "segment", "offset"]
abbrev p_judge_group : List Str := ["disk", "segment", "offset"]
noncomputable def qi_law_1 : MI :=
    Mi.iRange1 (Mi.mB Mi.fMin (Mi.mCons (Mi.m2 Mi.bSubs (Mi.mVar 8) (Mi.mC (.int 4))) (Mi.mCons (Mi.m2 Mi.bSub (Mi.m2 Mi.bSub (Mi.m2 Mi.bSubs (Mi.mVar 2) (Mi.mC (.int 1))) (Mi.mVar 7)) (Mi.mC (.int 1))) Mi.mNil)))
noncomputable def qb_law_1 : MS :=
    Mi.mSeq (Mi.mAsg (Mi.mCall m_law_data (Mi.mCons (Mi.m2 Mi.bSubs (Mi.mVar 8) (Mi.mC (.int 0))) (Mi.mCons (Mi.m2 Mi.bSubs (Mi.mVar 8) (Mi.m2 (Mi.bAdd false) (Mi.mC (.int 6)) (Mi.mVar 11))) (Mi.mCons (Mi.mCall m_law_content (Mi.mCons (Mi.mVar 1) Mi.mNil)) Mi.mNil)))) (Mi.gNm 12)) (
    Mi.mSeq (Mi.mIfS (Mi.mTand (Mi.mTru (Mi.mVar 10)) (Mi.mTb (Mi.m2 (Mi.bEq false) (Mi.mCall m_law_draw (Mi.mCons (Mi.mVar 1) (Mi.mCons (Mi.mC (.int 3)) Mi.mNil))) (Mi.mC (.int 0))))) (Mi.mSeq (Mi.mAsg (Mi.mCall m_law_pick (Mi.mCons (Mi.mVar 1) (Mi.mCons (Mi.mLst false (Mi.mCons (Mi.mC (.int 0)) (Mi.mCons (Mi.mC (.int 1)) (Mi.mCons (Mi.mC (.int 2)) (Mi.mCons (Mi.mC (.int 31)) Mi.mNil))))) Mi.mNil))) (Mi.gNm 13)) (
    Mi.mAsg (Mi.m2 (Mi.bAdd false) (Mi.m2 (Mi.bAdd false) (Mi.mSlice false (Mi.mVar 12) none (some (Mi.mVar 13))) (Mi.mTup (Mi.mCons (Mi.mCall m_law_word (Mi.mCons (Mi.mVar 1) Mi.mNil)) Mi.mNil))) (Mi.mSlice false (Mi.mVar 12) (some (Mi.m2 (Mi.bAdd false) (Mi.mVar 13) (Mi.mC (.int 1)))) none)) (Mi.gNm 12))) Mi.mSkip) (
    Mi.mExpr (Mi.mAppend (Mi.mVar 9) (Mi.mVar 12))))
noncomputable def qf_law_1 : MS :=
    Mi.mFor qi_law_1 (Mi.gNm 11) qb_law_1
noncomputable def qi_law_2 : MI :=
    Mi.iEnum (Mi.mVar 9)
noncomputable def qb_law_2 : MS :=
    Mi.mSeq (Mi.mAsg (Mi.mCall m_law_place (Mi.mCons (Mi.mVar 2) (Mi.mCons (Mi.mVar 6) (Mi.mCons (Mi.m2 (Mi.bAdd false) (Mi.mVar 7) (Mi.mVar 13)) Mi.mNil)))) (Mi.gNm 14)) (
    Mi.mSeq (Mi.mExpr (Mi.mMeth 0 "write" m_Disk_write (Mi.mVar 3) (Mi.mCons (Mi.mVar 14) (Mi.mCons (Mi.mVar 12) Mi.mNil)))) (
    Mi.mSetK (Mi.mVar 4) (Mi.mC (.str "wait")) (Mi.m2 (Mi.bAdd false) (Mi.m2 Mi.bSubs (Mi.mVar 4) (Mi.mC (.str "wait"))) (Mi.mLst false (Mi.mCons (Mi.mTup (Mi.mCons (Mi.mVar 14) (Mi.mCons (Mi.mVar 12) Mi.mNil))) Mi.mNil)))))
noncomputable def qf_law_2 : MS :=
    Mi.mFor qi_law_2 (Mi.gTup 2 (Mi.gCons (Mi.gNm 13) (Mi.gCons (Mi.gNm 12) Mi.gNil))) qb_law_2
noncomputable def qi_law_3 : MI :=
    Mi.iRange1 (Mi.mC (.int 10))
noncomputable def qb_law_3 : MS :=
    Mi.mSeq (Mi.mPar 6 7 (Mi.mCons (Mi.mCall m_law_draw (Mi.mCons (Mi.mVar 1) (Mi.mCons (Mi.m2 Mi.bSubs (Mi.mVar 2) (Mi.mC (.int 0))) Mi.mNil))) (Mi.mCons (Mi.mCall m_law_pick (Mi.mCons (Mi.mVar 1) (Mi.mCons (Mi.mLst false (Mi.mCons (Mi.mC (.int 0)) (Mi.mCons (Mi.mC (.int 0)) (Mi.mCons (Mi.mC (.int 1)) (Mi.mCons (Mi.mC (.int 0)) (Mi.mCons (Mi.m2 Mi.bSub (Mi.m2 Mi.bSubs (Mi.mVar 2) (Mi.mC (.int 1))) (Mi.mC (.int 1))) (Mi.mCons (Mi.mCall m_law_draw (Mi.mCons (Mi.mVar 1) (Mi.mCons (Mi.m2 Mi.bSubs (Mi.mVar 2) (Mi.mC (.int 1))) Mi.mNil))) Mi.mNil))))))) Mi.mNil))) Mi.mNil))) (
    Mi.mSeq (Mi.mAsg (Mi.mCall m_law_some_summary (Mi.mCons (Mi.mVar 1) (Mi.mCons (Mi.mVar 2) (Mi.mCons (Mi.mVar 7) Mi.mNil)))) (Mi.gNm 8)) (
    Mi.mSeq (Mi.mPar 9 10 (Mi.mCons (Mi.mLst true (Mi.mCons (Mi.mVar 8) Mi.mNil)) (Mi.mCons (Mi.m2 (Mi.bEq false) (Mi.mCall m_law_draw (Mi.mCons (Mi.mVar 1) (Mi.mCons (Mi.mC (.int 3)) Mi.mNil))) (Mi.mC (.int 0))) Mi.mNil))) (
    Mi.mSeq qf_law_1 (
    Mi.mSeq qf_law_2 (
    Mi.mSeq (Mi.mIfS (Mi.mTb (Mi.m2 (Mi.bEq false) (Mi.mCall m_law_draw (Mi.mCons (Mi.mVar 1) (Mi.mCons (Mi.mC (.int 4)) Mi.mNil))) (Mi.mC (.int 0)))) (Mi.mSeq (Mi.mExpr (Mi.mMeth 0 "force" m_Disk_force (Mi.mVar 3) Mi.mNil)) (
    Mi.mExpr (Mi.mCall m_law_forced (Mi.mCons (Mi.mVar 4) Mi.mNil)))) Mi.mSkip) (
    Mi.mSeq (Mi.mAsg (Mi.mCall m_law_group_told (Mi.mCons (Mi.mVar 2) (Mi.mCons (Mi.mCall m_law_from (Mi.mCons (Mi.mVar 4) (Mi.mCons (Mi.mVar 6) (Mi.mCons (Mi.mVar 7) Mi.mNil)))) Mi.mNil))) (Mi.gNm 15)) (
    Mi.mSeq (Mi.mAsg (Mi.mIf (Mi.mTb (Mi.m2 (Mi.bEq false) (Mi.m2 Mi.bMod (Mi.mB Mi.fInt (Mi.mCons (Mi.mVar 5) Mi.mNil)) (Mi.mC (.int 2))) (Mi.mC (.int 0)))) (Mi.mCall m_judge_group (Mi.mCons (Mi.mVar 3) (Mi.mCons (Mi.mVar 6) (Mi.mCons (Mi.mVar 7) Mi.mNil)))) (Mi.mCallK m_judge_group [2, 1, 0] Mi.mNil (Mi.mCons (Mi.mVar 7) (Mi.mCons (Mi.mVar 6) (Mi.mCons (Mi.mVar 3) Mi.mNil))))) (Mi.gNm 16)) (
    Mi.mIfS (Mi.mTb (Mi.mReprEq true (Mi.mVar 16) (Mi.mVar 15))) (Mi.mRet (Mi.mC (.bl false))) Mi.mSkip))))))))
noncomputable def qf_law_3 : MS :=
    Mi.mFor qi_law_3 (Mi.gNm 5) qb_law_3
noncomputable def b_law : MS :=
    Mi.mSeq (Mi.mAsg (Mi.mCall m_law_deck (Mi.mCons (Mi.mVar 0) Mi.mNil)) (Mi.gNm 1)) (
    Mi.mSeq (Mi.mAsg (Mi.mCall m_law_drawn_sizes (Mi.mCons (Mi.mVar 1) Mi.mNil)) (Mi.gNm 2)) (
    Mi.mSeq (Mi.mPar 3 4 (Mi.mCons (Mi.mMake 0 m_Disk_mk (Mi.mCons (Mi.m2 Mi.bSubs (Mi.mVar 2) (Mi.mC (.int 0))) (Mi.mCons (Mi.m2 Mi.bSubs (Mi.mVar 2) (Mi.mC (.int 1))) Mi.mNil))) (Mi.mCons (Mi.mCall m_law_blank (Mi.mCons (Mi.mVar 2) Mi.mNil)) Mi.mNil))) (
    Mi.mSeq qf_law_3 (
    Mi.mRet (Mi.mC (.bl true))))))
noncomputable def m_law : MF := Mi.mDef 1 16 b_law
abbrev n_law : List Str := ["script", "deck", "sizes", "disk", "it", "go", "segment", "offset", "summary", "blocks", "is_bent", "j", "block", "at", "place", "due", "told"]
abbrev p_law : List Str := ["script"]
end Lw

namespace Lw
open PySem L2 PyProof.Rows Ms
open Mi (Dv MO Sto Sl Rs bnd ME MT MA MS MF Fl MG MGs MI)
section
variable {P : Program} {w : World} {K : PySem.W.Frag} {kx : Kx} {mg : Str → Option Value} {base : Heap}
theorem sc_is_integer : FnScope n_is_integer p_is_integer (defScope s_is_integer) := ⟨rfl, rfl, rfl, by decide +kernel, rfl, by decide +kernel, by decide +kernel⟩
theorem d_is_integer (T : Tx K kx mg) : Bdy P w K kx mg base 0 n_is_integer "is_integer" s_is_integer b_is_integer := by
  intro f cdv A outer s H E hr hgd
  have hu := u1 hr
  have h64 := u64 hr
  have nd := sc_is_integer.nd
  exact s_one (s_ret (m_and (m_isI (t := .int) (by intro c z; cases z) T.b_isinstance T.b_int (by decide +kernel) (m_var 0)) (m_one (m_not (m_isI (t := .bool) (by intro c z; cases z) T.b_isinstance T.b_bool (by decide +kernel) (m_var 0))))))
theorem c_is_integer (T : Tx K kx mg) : Cal P w K kx mg base 1 "is_integer" s_is_integer p_is_integer m_is_integer := cal_of T.f_is_integer sc_is_integer rfl (fun _ _ _ _ _ _ us hl => match us, hl with | [_], _ => rfl) (d_is_integer T)
theorem sc_is_between : FnScope n_is_between p_is_between (defScope s_is_between) := ⟨rfl, rfl, rfl, by decide +kernel, rfl, by decide +kernel, by decide +kernel⟩
theorem d_is_between (T : Tx K kx mg) : Bdy P w K kx mg base 1 n_is_between "is_between" s_is_between b_is_between := by
  intro f cdv A outer s H E hr hgd
  have hu := u1 hr
  have h64 := u64 hr
  have nd := sc_is_between.nd
  exact s_one (s_ret (m_and (m_cl (c_is_integer T) hgd (hr.mono (by decide)) (m_cons (m_var 0) m_nil)) (m_one (m_chain op_le op_le b_cmp b_cmp (m_var 1) (m_var 0) (m_var 2)))))
theorem c_is_between (T : Tx K kx mg) : Cal P w K kx mg base 2 "is_between" s_is_between p_is_between m_is_between := cal_of T.f_is_between sc_is_between rfl (fun _ _ _ _ _ _ us hl => match us, hl with | [_, _, _], _ => rfl) (d_is_between T)
theorem sc_need_sizes : FnScope n_need_sizes p_need_sizes (defScope s_need_sizes) := ⟨rfl, rfl, rfl, by decide +kernel, rfl, by decide +kernel, by decide +kernel⟩
theorem d_need_sizes (T : Tx K kx mg) : Bdy P w K kx mg base 2 n_need_sizes "need_sizes" s_need_sizes b_need_sizes := by
  intro f cdv A outer s H E hr hgd
  have hu := u1 hr
  have h64 := u64 hr
  have nd := sc_need_sizes.nd
  exact s_seq (s_if (m_tnot (m_val (m_cl (c_is_between T) hgd (hr.mono (by decide)) (m_cons (m_var 0) (m_cons (m_globI T.c_LEAST_SEGMENTS) (m_cons (m_globI T.c_MOST_SEGMENTS) m_nil)))))) (s_one s_fail) s_nil) (
    s_one (s_if (m_tnot (m_val (m_cl (c_is_between T) hgd (hr.mono (by decide)) (m_cons (m_var 1) (m_cons (m_globI T.c_LEAST_BLOCKS) (m_cons (m_globI T.c_MOST_BLOCKS) m_nil)))))) (s_one s_fail) s_nil))
theorem c_need_sizes (T : Tx K kx mg) : Cal P w K kx mg base 3 "need_sizes" s_need_sizes p_need_sizes m_need_sizes := cal_of T.f_need_sizes sc_need_sizes rfl (fun _ _ _ _ _ _ us hl => match us, hl with | [_, _], _ => rfl) (d_need_sizes T)
theorem sc_room_of : FnScope n_room_of p_room_of (defScope s_room_of) := ⟨rfl, rfl, rfl, by decide +kernel, rfl, by decide +kernel, by decide +kernel⟩
theorem d_room_of (T : Tx K kx mg) : Bdy P w K kx mg base 0 n_room_of "room_of" s_room_of b_room_of := by
  intro f cdv A outer s H E hr hgd
  have hu := u1 hr
  have h64 := u64 hr
  have nd := sc_room_of.nd
  exact s_one (s_ret (m_op op_muls (b_mul false) (m_op op_sub b_sub (m_var 0) (m_globI T.c_SPARE_SEGMENTS)) (m_op op_sub b_sub (m_var 1) m_int)))
theorem c_room_of (T : Tx K kx mg) : Cal P w K kx mg base 1 "room_of" s_room_of p_room_of m_room_of := cal_of T.f_room_of sc_room_of rfl (fun _ _ _ _ _ _ us hl => match us, hl with | [_, _], _ => rfl) (d_room_of T)
theorem sc_root_blocks_of : FnScope n_root_blocks_of p_root_blocks_of (defScope s_root_blocks_of) := ⟨rfl, rfl, rfl, by decide +kernel, rfl, by decide +kernel, by decide +kernel⟩
theorem d_root_blocks_of (T : Tx K kx mg) : Bdy P w K kx mg base 1 n_root_blocks_of "root_blocks_of" s_root_blocks_of b_root_blocks_of := by
  intro f cdv A outer s H E hr hgd
  have hu := u1 hr
  have h64 := u64 hr
  have nd := sc_root_blocks_of.nd
  exact s_one (s_ret (m_op op_fdiv b_div (m_op op_sub b_sub (m_op op_adds (b_add false) (m_op op_adds (b_add false) (m_cl (c_room_of T) hgd (hr.mono (by decide)) (m_cons (m_var 0) (m_cons (m_var 1) m_nil))) (m_globI T.c_ROOT_WORDS)) (m_globI T.c_CONTENT)) m_int) (m_globI T.c_CONTENT)))
theorem c_root_blocks_of (T : Tx K kx mg) : Cal P w K kx mg base 2 "root_blocks_of" s_root_blocks_of p_root_blocks_of m_root_blocks_of := cal_of T.f_root_blocks_of sc_root_blocks_of rfl (fun _ _ _ _ _ _ us hl => match us, hl with | [_, _], _ => rfl) (d_root_blocks_of T)
theorem sc_Disk_mk : FnScope n_Disk_mk p_Disk_mk (defScope s_Disk_mk) := ⟨rfl, rfl, rfl, by decide +kernel, rfl, by decide +kernel, by decide +kernel⟩
theorem d_Disk_mk (T : Tx K kx mg) : Bdy P w K kx mg base 3 n_Disk_mk "Disk.__init__" s_Disk_mk b_Disk_mk := by
  intro f cdv A outer s H E hr hgd
  have hu := u1 hr
  have h64 := u64 hr
  have nd := sc_Disk_mk.nd
  exact s_seq (s_expr (m_cl (c_need_sizes T) hgd (hr.mono (by decide)) (m_cons (m_var 1) (m_cons (m_var 2) m_nil)))) (
    s_seq (s_setF T.a_Disk_s (m_var 0) (m_var 1)) (
    s_seq (s_setF T.a_Disk_k (m_var 0) (m_var 2)) (
    s_seq (s_setF T.a_Disk_n (m_var 0) (m_cl (c_room_of T) hgd (hr.mono (by decide)) (m_cons (m_var 1) (m_cons (m_var 2) m_nil)))) (
    s_seq (s_setF T.a_Disk_r (m_var 0) (m_cl (c_root_blocks_of T) hgd (hr.mono (by decide)) (m_cons (m_var 1) (m_cons (m_var 2) m_nil)))) (
    s_seq (s_setF T.a_Disk_blocks (m_var 0) (m_op op_muls (b_mul true) (m_lst false (m_cons (m_globT T.c_BLANK) m_nil)) (m_op op_adds (b_add false) (m_op op_muls (b_mul false) m_int (m_fld T.a_Disk_r (m_var 0))) (m_op op_muls (b_mul false) (m_var 1) (m_var 2))))) (
    s_seq (s_setF T.a_Disk_queue (m_var 0) (m_lst true m_nil)) (
    s_seq (s_setF T.a_Disk_newest (m_var 0) m_dct0) (
    s_one (s_setF T.a_Disk_left (m_var 0) m_non)))))))))
theorem c_Disk_mk (T : Tx K kx mg) : Mak P w K kx mg base 4 0 "Disk" "Disk.__init__" s_Disk_mk p_Disk_mk m_Disk_mk := mak_of T.f_Disk_mk sc_Disk_mk rfl (fun _ _ _ _ _ _ us hl => match us, hl with | [_, _, _], _ => rfl) (d_Disk_mk T)
theorem sc_Disk_burn : FnScope n_Disk_burn p_Disk_burn (defScope s_Disk_burn) := ⟨rfl, rfl, rfl, by decide +kernel, rfl, by decide +kernel, by decide +kernel⟩
theorem d_Disk_burn (T : Tx K kx mg) : Bdy P w K kx mg base 0 n_Disk_burn "Disk.burn" s_Disk_burn b_Disk_burn := by
  intro f cdv A outer s H E hr hgd
  have hu := u1 hr
  have h64 := u64 hr
  have nd := sc_Disk_burn.nd
  exact s_one (s_if (m_isNT (neg := true) rfl (m_fld T.a_Disk_left (m_var 0))) (s_seq (s_if (m_cmpT (op_eqs h64) b_eq (m_fld T.a_Disk_left (m_var 0)) m_int (nomark _)) (s_one s_fail) s_nil) (
    s_one (s_augF T.a_Disk_left in_sub b_subR (m_var 0) m_int))) s_nil)
theorem c_Disk_burn (T : Tx K kx mg) : Met P w K kx mg base 1 0 "burn" "Disk.burn" s_Disk_burn p_Disk_burn m_Disk_burn := met_of T.cl_Disk T.f_Disk_burn sc_Disk_burn rfl (fun _ _ _ _ _ _ us hl => match us, hl with | [_], _ => rfl) (d_Disk_burn T)
theorem sc_Disk_force : FnScope n_Disk_force p_Disk_force (defScope s_Disk_force) := ⟨rfl, rfl, rfl, by decide +kernel, rfl, by decide +kernel, by decide +kernel⟩
theorem d_Disk_force (T : Tx K kx mg) : Bdy P w K kx mg base 1 n_Disk_force "Disk.force" s_Disk_force b_Disk_force := by
  intro f cdv A outer s H E hr hgd
  have hu := u1 hr
  have h64 := u64 hr
  have nd := sc_Disk_force.nd
  exact s_seq (s_expr (m_mt0 (c_Disk_burn T) hgd (hr.mono (by decide)) (m_var 0))) (
    s_seq (s_for PassesOwn.never rfl (i_seq (m_fld T.a_Disk_queue (m_var 0))) (g_tup rfl (g_cons (g_name 1 nd) (g_cons (g_name 2 nd) g_nil))) (
    s_one (s_setI (m_fld T.a_Disk_blocks (m_var 0)) (m_var 1) (m_var 2)))) (
    s_seq (s_setF T.a_Disk_queue (m_var 0) (m_lst true m_nil)) (
    s_one (s_setF T.a_Disk_newest (m_var 0) m_dct0))))
theorem c_Disk_force (T : Tx K kx mg) : Met P w K kx mg base 2 0 "force" "Disk.force" s_Disk_force p_Disk_force m_Disk_force := met_of T.cl_Disk T.f_Disk_force sc_Disk_force rfl (fun _ _ _ _ _ _ us hl => match us, hl with | [_], _ => rfl) (d_Disk_force T)
theorem sc_Disk_need_place : FnScope n_Disk_need_place p_Disk_need_place (defScope s_Disk_need_place) := ⟨rfl, rfl, rfl, by decide +kernel, rfl, by decide +kernel, by decide +kernel⟩
theorem d_Disk_need_place (T : Tx K kx mg) : Bdy P w K kx mg base 2 n_Disk_need_place "Disk.need_place" s_Disk_need_place b_Disk_need_place := by
  intro f cdv A outer s H E hr hgd
  have hu := u1 hr
  have h64 := u64 hr
  have nd := sc_Disk_need_place.nd
  exact s_one (s_if (m_tnot (m_val (m_cl (c_is_between T) hgd (hr.mono (by decide)) (m_cons (m_var 1) (m_cons m_int (m_cons (m_op op_sub b_sub (m_callB call_len_seq f_len T.b_len (by decide +kernel) (m_cons (m_fld T.a_Disk_blocks (m_var 0)) m_nil)) m_int) m_nil)))))) (s_one s_fail) s_nil)
theorem c_Disk_need_place (T : Tx K kx mg) : Met P w K kx mg base 3 0 "need_place" "Disk.need_place" s_Disk_need_place p_Disk_need_place m_Disk_need_place := met_of T.cl_Disk T.f_Disk_need_place sc_Disk_need_place rfl (fun _ _ _ _ _ _ us hl => match us, hl with | [_, _], _ => rfl) (d_Disk_need_place T)
theorem sc_is_word : FnScope n_is_word p_is_word (defScope s_is_word) := ⟨rfl, rfl, rfl, by decide +kernel, rfl, by decide +kernel, by decide +kernel⟩
theorem d_is_word (T : Tx K kx mg) : Bdy P w K kx mg base 2 n_is_word "is_word" s_is_word b_is_word := by
  intro f cdv A outer s H E hr hgd
  have hu := u1 hr
  have h64 := u64 hr
  have nd := sc_is_word.nd
  exact s_one (s_ret (m_cl (c_is_between T) hgd (hr.mono (by decide)) (m_cons (m_var 0) (m_cons m_int (m_cons (m_globI T.c_MOST_WORD) m_nil)))))
theorem c_is_word (T : Tx K kx mg) : Cal P w K kx mg base 3 "is_word" s_is_word p_is_word m_is_word := cal_of T.f_is_word sc_is_word rfl (fun _ _ _ _ _ _ us hl => match us, hl with | [_], _ => rfl) (d_is_word T)
theorem sc_are_words : FnScope n_are_words p_are_words (defScope s_are_words) := ⟨rfl, rfl, rfl, by decide +kernel, rfl, by decide +kernel, by decide +kernel⟩
theorem d_are_words (T : Tx K kx mg) : Bdy P w K kx mg base 3 n_are_words "are_words" s_are_words b_are_words := by
  intro f cdv A outer s H E hr hgd
  have hu := u1 hr
  have h64 := u64 hr
  have nd := sc_are_words.nd
  exact s_one (s_ret (m_and (m_isI (t := .tuple) (by intro c z; cases z) T.b_isinstance T.b_tuple (by decide +kernel) (m_var 0)) (m_and (m_cmp (op_eqs h64) b_eq (m_callB call_len_seq f_len T.b_len (by decide +kernel) (m_cons (m_var 0) m_nil)) (m_var 1) (nomark _)) (m_one (m_callB (cr_all rfl) f_all T.b_all (by decide +kernel) (m_cons (m_lc false (own := [("word", 2)]) rfl nd (i_seq (m_var 0)) (blkOk_by (N := n_are_words) (sc := defScope s_are_words) (by decide +kernel)) (by decide) (fun _ _ _ _ _ => g_name 2 nd) (fun _ _ _ _ _ => mt_yes) (fun _ _ _ _ _ => m_cl (c_is_word T) hgd (hr.mono (by decide)) (m_cons (m_var 2) m_nil))) m_nil))))))
theorem c_are_words (T : Tx K kx mg) : Cal P w K kx mg base 4 "are_words" s_are_words p_are_words m_are_words := cal_of T.f_are_words sc_are_words rfl (fun _ _ _ _ _ _ us hl => match us, hl with | [_, _], _ => rfl) (d_are_words T)
theorem sc_is_block : FnScope n_is_block p_is_block (defScope s_is_block) := ⟨rfl, rfl, rfl, by decide +kernel, rfl, by decide +kernel, by decide +kernel⟩
theorem d_is_block (T : Tx K kx mg) : Bdy P w K kx mg base 4 n_is_block "is_block" s_is_block b_is_block := by
  intro f cdv A outer s H E hr hgd
  have hu := u1 hr
  have h64 := u64 hr
  have nd := sc_is_block.nd
  exact s_one (s_ret (m_cl (c_are_words T) hgd (hr.mono (by decide)) (m_cons (m_var 0) (m_cons (m_globI T.c_WORDS) m_nil))))
theorem c_is_block (T : Tx K kx mg) : Cal P w K kx mg base 5 "is_block" s_is_block p_is_block m_is_block := cal_of T.f_is_block sc_is_block rfl (fun _ _ _ _ _ _ us hl => match us, hl with | [_], _ => rfl) (d_is_block T)
theorem sc_Disk_write : FnScope n_Disk_write p_Disk_write (defScope s_Disk_write) := ⟨rfl, rfl, rfl, by decide +kernel, rfl, by decide +kernel, by decide +kernel⟩
theorem d_Disk_write (T : Tx K kx mg) : Bdy P w K kx mg base 5 n_Disk_write "Disk.write" s_Disk_write b_Disk_write := by
  intro f cdv A outer s H E hr hgd
  have hu := u1 hr
  have h64 := u64 hr
  have nd := sc_Disk_write.nd
  exact s_seq (s_expr (m_mt (c_Disk_need_place T) hgd (hr.mono (by decide)) (m_var 0) (m_cons (m_var 1) m_nil))) (
    s_seq (s_if (m_tnot (m_val (m_cl (c_is_block T) hgd (hr.mono (by decide)) (m_cons (m_var 2) m_nil)))) (s_one s_fail) s_nil) (
    s_seq (s_expr (m_mt0 (c_Disk_burn T) hgd (hr.mono (by decide)) (m_var 0))) (
    s_seq (s_expr (m_append (m_fld T.a_Disk_queue (m_var 0)) (m_tup (m_cons (m_var 1) (m_cons (m_var 2) m_nil))))) (
    s_one (s_setK hu (m_fld T.a_Disk_newest (m_var 0)) (m_var 1) (m_var 2))))))
theorem c_Disk_write (T : Tx K kx mg) : Met P w K kx mg base 6 0 "write" "Disk.write" s_Disk_write p_Disk_write m_Disk_write := met_of T.cl_Disk T.f_Disk_write sc_Disk_write rfl (fun _ _ _ _ _ _ us hl => match us, hl with | [_, _, _], _ => rfl) (d_Disk_write T)
theorem sc_law_many : FnScope n_law_many p_law_many (defScope s_law_many) := ⟨rfl, rfl, rfl, by decide +kernel, rfl, by decide +kernel, by decide +kernel⟩
theorem d_law_many (T : Tx K kx mg) : Bdy P w K kx mg base 0 n_law_many "_law_many" s_law_many b_law_many := by
  intro f cdv A outer s H E hr hgd
  have hu := u1 hr
  have h64 := u64 hr
  have nd := sc_law_many.nd
  exact s_one (s_ret (m_op op_adds (b_add false) (m_op op_muls (b_mul false) m_int (m_sub hu (m_var 0) m_int)) (m_op op_muls (b_mul false) (m_sub hu (m_var 0) m_int) (m_sub hu (m_var 0) m_int))))
theorem c_law_many (T : Tx K kx mg) : Cal P w K kx mg base 1 "_law_many" s_law_many p_law_many m_law_many := cal_of T.f_law_many sc_law_many rfl (fun _ _ _ _ _ _ us hl => match us, hl with | [_], _ => rfl) (d_law_many T)
theorem sc_law_blank : FnScope n_law_blank p_law_blank (defScope s_law_blank) := ⟨rfl, rfl, rfl, by decide +kernel, rfl, by decide +kernel, by decide +kernel⟩
theorem d_law_blank (T : Tx K kx mg) : Bdy P w K kx mg base 1 n_law_blank "_law_blank" s_law_blank b_law_blank := by
  intro f cdv A outer s H E hr hgd
  have hu := u1 hr
  have h64 := u64 hr
  have nd := sc_law_blank.nd
  exact s_one (s_ret (m_disp (m_pcons m_str (m_var 0) (m_pcons m_str (m_op op_muls (b_mul true) (m_lst false (m_cons (m_op op_muls (b_mul false) (m_tup (m_cons m_int m_nil)) m_int) m_nil)) (m_cl (c_law_many T) hgd (hr.mono (by decide)) (m_cons (m_var 0) m_nil))) (m_pcons m_str (m_lst false m_nil) (m_pcons m_str m_non m_pnil))))))
theorem c_law_blank (T : Tx K kx mg) : Cal P w K kx mg base 2 "_law_blank" s_law_blank p_law_blank m_law_blank := cal_of T.f_law_blank sc_law_blank rfl (fun _ _ _ _ _ _ us hl => match us, hl with | [_], _ => rfl) (d_law_blank T)
theorem sc_law_draw : FnScope n_law_draw p_law_draw (defScope s_law_draw) := ⟨rfl, rfl, rfl, by decide +kernel, rfl, by decide +kernel, by decide +kernel⟩
theorem d_law_draw (T : Tx K kx mg) : Bdy P w K kx mg base 0 n_law_draw "_law_draw" s_law_draw b_law_draw := by
  intro f cdv A outer s H E hr hgd
  have hu := u1 hr
  have h64 := u64 hr
  have nd := sc_law_draw.nd
  exact s_seq (s_setK hu (m_var 0) m_str (m_op op_adds (b_add false) (m_sub hu (m_var 0) m_str) m_int)) (
    s_seq (s_set 2 nd (m_op op_adds (b_add false) (m_sub hu (m_var 0) m_str) (m_op op_muls (b_mul false) m_int (m_sub hu (m_var 0) m_str)))) (
    s_seq (s_if (m_cmpT (op_nes h64) b_ne (m_sub hu (m_var 0) m_str) (m_lst false m_nil) (nomark _)) (s_seq (s_set 3 nd (m_pop (m_sub hu (m_var 0) m_str))) (
    s_seq (s_if (m_cmpT op_ge b_cmp (m_var 3) (m_op op_pow b_pow m_int m_int) (nomark _)) (s_seq (s_expr (m_append (m_sub hu (m_var 0) m_str) (m_op op_fdiv b_div (m_var 3) (m_callB (call_max2 rfl) f_max T.b_max (by decide +kernel) (m_cons m_int (m_cons (m_var 1) m_nil)))))) (
    s_one (s_ret (m_op op_mod b_mod (m_callT call_int1 f_int T.b_int (by decide +kernel) (m_cons (m_var 3) m_nil)) (m_var 1))))) s_nil) (
    s_one (s_set 2 nd (m_op op_adds (b_add false) (m_var 2) (m_op op_mod b_mod (m_callT call_int1 f_int T.b_int (by decide +kernel) (m_cons (m_var 3) m_nil)) m_int)))))) s_nil) (
    s_seq (s_set 2 nd (m_op op_mod b_mod (m_callT call_int1 f_int T.b_int (by decide +kernel) (m_cons (m_op op_adds (b_add false) (m_op op_muls (b_mul false) (m_var 2) m_int) m_int) m_nil)) m_int)) (
    s_seq (s_set 2 nd (m_op op_mod b_mod (m_callT call_int1 f_int T.b_int (by decide +kernel) (m_cons (m_op op_adds (b_add false) (m_op op_adds (b_add false) (m_op op_muls (b_mul false) (m_var 2) (m_var 2)) (m_op op_muls (b_mul false) m_int (m_sub hu (m_var 0) m_str))) m_int) m_nil)) m_int)) (
    s_seq (s_set 2 nd (m_op op_mod b_mod (m_callT call_int1 f_int T.b_int (by decide +kernel) (m_cons (m_op op_muls (b_mul false) (m_var 2) m_int) m_nil)) m_int)) (
    s_one (s_ret (m_op op_mod b_mod (m_callT call_int1 f_int T.b_int (by decide +kernel) (m_cons (m_op op_fdiv b_div (m_var 2) m_int) m_nil)) (m_var 1)))))))))
theorem c_law_draw (T : Tx K kx mg) : Cal P w K kx mg base 1 "_law_draw" s_law_draw p_law_draw m_law_draw := cal_of T.f_law_draw sc_law_draw rfl (fun _ _ _ _ _ _ us hl => match us, hl with | [_, _], _ => rfl) (d_law_draw T)
theorem sc_law_pick : FnScope n_law_pick p_law_pick (defScope s_law_pick) := ⟨rfl, rfl, rfl, by decide +kernel, rfl, by decide +kernel, by decide +kernel⟩
theorem d_law_pick (T : Tx K kx mg) : Bdy P w K kx mg base 1 n_law_pick "_law_pick" s_law_pick b_law_pick := by
  intro f cdv A outer s H E hr hgd
  have hu := u1 hr
  have h64 := u64 hr
  have nd := sc_law_pick.nd
  exact s_one (s_ret (m_sub hu (m_var 1) (m_cl (c_law_draw T) hgd (hr.mono (by decide)) (m_cons (m_var 0) (m_cons (m_callB call_len_seq f_len T.b_len (by decide +kernel) (m_cons (m_var 1) m_nil)) m_nil)))))
theorem c_law_pick (T : Tx K kx mg) : Cal P w K kx mg base 2 "_law_pick" s_law_pick p_law_pick m_law_pick := cal_of T.f_law_pick sc_law_pick rfl (fun _ _ _ _ _ _ us hl => match us, hl with | [_, _], _ => rfl) (d_law_pick T)
theorem sc_law_word : FnScope n_law_word p_law_word (defScope s_law_word) := ⟨rfl, rfl, rfl, by decide +kernel, rfl, by decide +kernel, by decide +kernel⟩
theorem d_law_word (T : Tx K kx mg) : Bdy P w K kx mg base 2 n_law_word "_law_word" s_law_word b_law_word := by
  intro f cdv A outer s H E hr hgd
  have hu := u1 hr
  have h64 := u64 hr
  have nd := sc_law_word.nd
  exact s_one (s_ret (m_cl (c_law_pick T) hgd (hr.mono (by decide)) (m_cons (m_var 0) (m_cons (m_lst false (m_cons m_int (m_cons m_int (m_cons m_int (m_cons m_int (m_cons m_int (m_cons (m_op op_pow b_pow m_int m_int) (m_cons (m_cl (c_law_draw T) hgd (hr.mono (by decide)) (m_cons (m_var 0) (m_cons m_int m_nil))) (m_cons (m_cl (c_law_draw T) hgd (hr.mono (by decide)) (m_cons (m_var 0) (m_cons (m_op op_adds (b_add false) (m_op op_pow b_pow m_int m_int) m_int) m_nil))) m_nil))))))))) m_nil))))
theorem c_law_word (T : Tx K kx mg) : Cal P w K kx mg base 3 "_law_word" s_law_word p_law_word m_law_word := cal_of T.f_law_word sc_law_word rfl (fun _ _ _ _ _ _ us hl => match us, hl with | [_], _ => rfl) (d_law_word T)
theorem sc_law_content : FnScope n_law_content p_law_content (defScope s_law_content) := ⟨rfl, rfl, rfl, by decide +kernel, rfl, by decide +kernel, by decide +kernel⟩
theorem d_law_content (T : Tx K kx mg) : Bdy P w K kx mg base 3 n_law_content "_law_content" s_law_content b_law_content := by
  intro f cdv A outer s H E hr hgd
  have hu := u1 hr
  have h64 := u64 hr
  have nd := sc_law_content.nd
  exact s_one (s_ret (m_if (m_cmpT (op_eqs h64) b_eq (m_cl (c_law_draw T) hgd (hr.mono (by decide)) (m_cons (m_var 0) (m_cons m_int m_nil))) m_int (nomark _)) (m_callT call_tuple_of f_tuple T.b_tuple (by decide +kernel) (m_cons (m_op op_muls (b_mul false) (m_lst false (m_cons (m_cl (c_law_word T) hgd (hr.mono (by decide)) (m_cons (m_var 0) m_nil)) m_nil)) m_int) m_nil)) (m_callT call_tuple_of f_tuple T.b_tuple (by decide +kernel) (m_cons (m_lc false (own := [("i", 1)]) rfl nd (i_range1 T.b_range m_int) (blkOk_by (N := n_law_content) (sc := defScope s_law_content) (by decide +kernel)) (by decide) (fun _ _ _ _ _ => g_name 1 nd) (fun _ _ _ _ _ => mt_yes) (fun _ _ _ _ _ => m_cl (c_law_word T) hgd (hr.mono (by decide)) (m_cons (m_var 0) m_nil))) m_nil))))
theorem c_law_content (T : Tx K kx mg) : Cal P w K kx mg base 4 "_law_content" s_law_content p_law_content m_law_content := cal_of T.f_law_content sc_law_content rfl (fun _ _ _ _ _ _ us hl => match us, hl with | [_], _ => rfl) (d_law_content T)
theorem sc_law_data : FnScope n_law_data p_law_data (defScope s_law_data) := ⟨rfl, rfl, rfl, by decide +kernel, rfl, by decide +kernel, by decide +kernel⟩
theorem d_law_data (T : Tx K kx mg) : Bdy P w K kx mg base 0 n_law_data "_law_data" s_law_data b_law_data := by
  intro f cdv A outer s H E hr hgd
  have hu := u1 hr
  have h64 := u64 hr
  have nd := sc_law_data.nd
  exact s_one (s_ret (m_op op_adds (b_add false) (m_op op_adds (b_add false) (m_tup (m_cons (m_var 0) (m_cons m_int (m_cons (m_var 1) m_nil)))) (m_var 2)) (m_tup (m_cons (m_var 0) m_nil))))
theorem c_law_data (T : Tx K kx mg) : Cal P w K kx mg base 1 "_law_data" s_law_data p_law_data m_law_data := cal_of T.f_law_data sc_law_data rfl (fun _ _ _ _ _ _ us hl => match us, hl with | [_, _, _], _ => rfl) (d_law_data T)
theorem sc_law_deck : FnScope n_law_deck p_law_deck (defScope s_law_deck) := ⟨rfl, rfl, rfl, by decide +kernel, rfl, by decide +kernel, by decide +kernel⟩
theorem d_law_deck (T : Tx K kx mg) : Bdy P w K kx mg base 0 n_law_deck "_law_deck" s_law_deck b_law_deck := by
  intro f cdv A outer s H E hr hgd
  have hu := u1 hr
  have h64 := u64 hr
  have nd := sc_law_deck.nd
  exact s_seq (s_set 1 nd m_int) (
    s_seq (s_for PassesOwn.never rfl (i_seq (m_slice false (m_var 0) mo_none (mo_some m_int))) (g_name 2 nd) (
    s_one (s_set 1 nd (m_op op_mod b_mod (m_callT call_int1 f_int T.b_int (by decide +kernel) (m_cons (m_op op_adds (b_add false) (m_op op_adds (b_add false) (m_op op_muls (b_mul false) (m_var 1) m_int) (m_op op_mod b_mod (m_callT call_int1 f_int T.b_int (by decide +kernel) (m_cons (m_var 2) m_nil)) m_int)) m_int) m_nil)) m_int)))) (
    s_one (s_ret (m_disp (m_pcons m_str (m_rev true (m_lc false (own := [("cell", 2)]) rfl nd (i_seq (m_slice false (m_var 0) mo_none (mo_some m_int))) (blkOk_by (N := n_law_deck) (sc := defScope s_law_deck) (by decide +kernel)) (by decide) (fun _ _ _ _ _ => g_name 2 nd) (fun _ _ _ _ _ => mt_yes) (fun _ _ _ _ _ => m_callT call_int1 f_int T.b_int (by decide +kernel) (m_cons (m_var 2) m_nil)))) (m_pcons m_str (m_var 1) (m_pcons m_str m_int m_pnil)))))))
theorem c_law_deck (T : Tx K kx mg) : Cal P w K kx mg base 1 "_law_deck" s_law_deck p_law_deck m_law_deck := cal_of T.f_law_deck sc_law_deck rfl (fun _ _ _ _ _ _ us hl => match us, hl with | [_], _ => rfl) (d_law_deck T)
theorem sc_law_sizes : FnScope n_law_sizes p_law_sizes (defScope s_law_sizes) := ⟨rfl, rfl, rfl, by decide +kernel, rfl, by decide +kernel, by decide +kernel⟩
theorem d_law_sizes (T : Tx K kx mg) : Bdy P w K kx mg base 0 n_law_sizes "_law_sizes" s_law_sizes b_law_sizes := by
  intro f cdv A outer s H E hr hgd
  have hu := u1 hr
  have h64 := u64 hr
  have nd := sc_law_sizes.nd
  exact s_seq (s_set 2 nd (m_op op_muls (b_mul false) (m_op op_sub b_sub (m_var 0) m_int) (m_op op_sub b_sub (m_var 1) m_int))) (
    s_one (s_ret (m_tup (m_cons (m_var 0) (m_cons (m_var 1) (m_cons (m_var 2) (m_cons (m_op op_fdiv b_div (m_op op_adds (b_add false) (m_op op_adds (b_add false) (m_var 2) m_int) m_int) m_int) m_nil)))))))
theorem c_law_sizes (T : Tx K kx mg) : Cal P w K kx mg base 1 "_law_sizes" s_law_sizes p_law_sizes m_law_sizes := cal_of T.f_law_sizes sc_law_sizes rfl (fun _ _ _ _ _ _ us hl => match us, hl with | [_, _], _ => rfl) (d_law_sizes T)
theorem sc_law_drawn_sizes : FnScope n_law_drawn_sizes p_law_drawn_sizes (defScope s_law_drawn_sizes) := ⟨rfl, rfl, rfl, by decide +kernel, rfl, by decide +kernel, by decide +kernel⟩
theorem d_law_drawn_sizes (T : Tx K kx mg) : Bdy P w K kx mg base 1 n_law_drawn_sizes "_law_drawn_sizes" s_law_drawn_sizes b_law_drawn_sizes := by
  intro f cdv A outer s H E hr hgd
  have hu := u1 hr
  have h64 := u64 hr
  have nd := sc_law_drawn_sizes.nd
  exact s_seq (s_if (m_cmpT (op_eqs h64) b_eq (m_cl (c_law_draw T) hgd (hr.mono (by decide)) (m_cons (m_var 0) (m_cons m_int m_nil))) m_int (nomark _)) (s_one (s_ret (m_cl (c_law_sizes T) hgd (hr.mono (by decide)) (m_cons (m_op op_adds (b_add false) m_int (m_cl (c_law_draw T) hgd (hr.mono (by decide)) (m_cons (m_var 0) (m_cons m_int m_nil)))) (m_cons (m_op op_adds (b_add false) m_int (m_cl (c_law_draw T) hgd (hr.mono (by decide)) (m_cons (m_var 0) (m_cons m_int m_nil)))) m_nil))))) s_nil) (
    s_one (s_ret (m_cl (c_law_sizes T) hgd (hr.mono (by decide)) (m_cons (m_op op_adds (b_add false) m_int (m_cl (c_law_draw T) hgd (hr.mono (by decide)) (m_cons (m_var 0) (m_cons m_int m_nil)))) (m_cons (m_op op_adds (b_add false) m_int (m_cl (c_law_draw T) hgd (hr.mono (by decide)) (m_cons (m_var 0) (m_cons m_int m_nil)))) m_nil)))))
theorem c_law_drawn_sizes (T : Tx K kx mg) : Cal P w K kx mg base 2 "_law_drawn_sizes" s_law_drawn_sizes p_law_drawn_sizes m_law_drawn_sizes := cal_of T.f_law_drawn_sizes sc_law_drawn_sizes rfl (fun _ _ _ _ _ _ us hl => match us, hl with | [_], _ => rfl) (d_law_drawn_sizes T)
theorem sc_law_forced : FnScope n_law_forced p_law_forced (defScope s_law_forced) := ⟨rfl, rfl, rfl, by decide +kernel, rfl, by decide +kernel, by decide +kernel⟩
theorem d_law_forced (T : Tx K kx mg) : Bdy P w K kx mg base 0 n_law_forced "_law_forced" s_law_forced b_law_forced := by
  intro f cdv A outer s H E hr hgd
  have hu := u1 hr
  have h64 := u64 hr
  have nd := sc_law_forced.nd
  exact s_seq (s_set 1 nd (m_sub hu (m_var 0) m_str)) (
    s_seq (s_for PassesOwn.never rfl (i_seq (m_sub hu (m_var 0) m_str)) (g_tup rfl (g_cons (g_name 2 nd) (g_cons (g_name 3 nd) g_nil))) (
    s_one (s_setI (m_var 1) (m_var 2) (m_var 3)))) (
    s_one (s_setK hu (m_var 0) m_str (m_lst false m_nil))))
theorem c_law_forced (T : Tx K kx mg) : Cal P w K kx mg base 1 "_law_forced" s_law_forced p_law_forced m_law_forced := cal_of T.f_law_forced sc_law_forced rfl (fun _ _ _ _ _ _ us hl => match us, hl with | [_], _ => rfl) (d_law_forced T)
theorem sc_law_place : FnScope n_law_place p_law_place (defScope s_law_place) := ⟨rfl, rfl, rfl, by decide +kernel, rfl, by decide +kernel, by decide +kernel⟩
theorem d_law_place (T : Tx K kx mg) : Bdy P w K kx mg base 0 n_law_place "_law_place" s_law_place b_law_place := by
  intro f cdv A outer s H E hr hgd
  have hu := u1 hr
  have h64 := u64 hr
  have nd := sc_law_place.nd
  exact s_one (s_ret (m_op op_adds (b_add false) (m_op op_adds (b_add false) (m_op op_muls (b_mul false) m_int (m_sub hu (m_var 0) m_int)) (m_op op_muls (b_mul false) (m_var 1) (m_sub hu (m_var 0) m_int))) (m_var 2)))
theorem c_law_place (T : Tx K kx mg) : Cal P w K kx mg base 1 "_law_place" s_law_place p_law_place m_law_place := cal_of T.f_law_place sc_law_place rfl (fun _ _ _ _ _ _ us hl => match us, hl with | [_, _, _], _ => rfl) (d_law_place T)
theorem sc_law_read : FnScope n_law_read p_law_read (defScope s_law_read) := ⟨rfl, rfl, rfl, by decide +kernel, rfl, by decide +kernel, by decide +kernel⟩
theorem d_law_read (T : Tx K kx mg) : Bdy P w K kx mg base 0 n_law_read "_law_read" s_law_read b_law_read := by
  intro f cdv A outer s H E hr hgd
  have hu := u1 hr
  have h64 := u64 hr
  have nd := sc_law_read.nd
  exact s_seq (s_for PassesOwn.never rfl (i_seq (m_rev false (m_sub hu (m_var 0) m_str))) (g_tup rfl (g_cons (g_name 2 nd) (g_cons (g_name 3 nd) g_nil))) (
    s_one (s_if (m_cmpT (op_eqs h64) b_eq (m_var 2) (m_var 1) (nomark _)) (s_one (s_ret (m_var 3))) s_nil))) (
    s_one (s_ret (m_sub hu (m_sub hu (m_var 0) m_str) (m_var 1))))
theorem c_law_read (T : Tx K kx mg) : Cal P w K kx mg base 1 "_law_read" s_law_read p_law_read m_law_read := cal_of T.f_law_read sc_law_read rfl (fun _ _ _ _ _ _ us hl => match us, hl with | [_, _], _ => rfl) (d_law_read T)
theorem sc_law_from : FnScope n_law_from p_law_from (defScope s_law_from) := ⟨rfl, rfl, rfl, by decide +kernel, rfl, by decide +kernel, by decide +kernel⟩
theorem d_law_from (T : Tx K kx mg) : Bdy P w K kx mg base 1 n_law_from "_law_from" s_law_from b_law_from := by
  intro f cdv A outer s H E hr hgd
  have hu := u1 hr
  have h64 := u64 hr
  have nd := sc_law_from.nd
  exact s_seq (s_set 3 nd (m_sub hu (m_var 0) m_str)) (
    s_one (s_ret (m_lc false (own := [("at", 4)]) rfl nd (i_range2 T.b_range (m_var 2) (m_sub hu (m_var 3) m_int)) (blkOk_by (N := n_law_from) (sc := defScope s_law_from) (by decide +kernel)) (by decide) (fun _ _ _ _ _ => g_name 4 nd) (fun _ _ _ _ _ => mt_yes) (fun _ _ _ _ _ => m_cl (c_law_read T) hgd (hr.mono (by decide)) (m_cons (m_var 0) (m_cons (m_cl (c_law_place T) hgd (hr.mono (by decide)) (m_cons (m_var 3) (m_cons (m_var 1) (m_cons (m_var 4) m_nil)))) m_nil))))))
theorem c_law_from (T : Tx K kx mg) : Cal P w K kx mg base 2 "_law_from" s_law_from p_law_from m_law_from := cal_of T.f_law_from sc_law_from rfl (fun _ _ _ _ _ _ us hl => match us, hl with | [_, _, _], _ => rfl) (d_law_from T)
theorem sc_law_group_told : FnScope n_law_group_told p_law_group_told (defScope s_law_group_told) := ⟨rfl, rfl, rfl, by decide +kernel, rfl, by decide +kernel, by decide +kernel⟩
theorem d_law_group_told (T : Tx K kx mg) : Bdy P w K kx mg base 0 n_law_group_told "_law_group_told" s_law_group_told b_law_group_told := by
  intro f cdv A outer s H E hr hgd
  have hu := u1 hr
  have h64 := u64 hr
  have nd := sc_law_group_told.nd
  exact s_seq (s_asg (m_tup (m_cons (m_sub hu (m_var 1) m_int) (m_cons (m_sub hu (m_var 0) m_int) m_nil))) (g_tup rfl (g_cons (g_name 2 nd) (g_cons (g_name 3 nd) g_nil)))) (
    s_seq (s_set 4 nd (m_sub hu (m_var 2) m_int)) (
    s_seq (s_if ((m_tor (m_cmpT (op_nes h64) b_ne (m_var 4) (m_sub hu (m_var 2) m_int) (nomark _)) (m_tor1 (m_cmpT (op_eqs h64) b_eq (m_var 4) m_int (nomark _)))).pt) (s_one (s_ret (m_tup (m_cons m_str m_nil)))) s_nil) (
    s_seq (s_if (m_cmpT (op_nes h64) b_ne (m_sub hu (m_var 2) m_int) m_int (nomark _)) (s_one (s_ret (m_tup (m_cons m_str m_nil)))) s_nil) (
    s_seq (s_par 5 6 rfl nd (m_cons (m_sub hu (m_var 2) m_int) (m_cons (m_sub hu (m_var 2) m_int) m_nil))) (
    s_seq (s_if ((m_tor (m_cmpT op_ge b_cmp (m_sub hu (m_var 2) m_int) (m_sub hu (m_var 0) m_int) (nomark _)) (m_tor (m_tnot (m_chainT op_le op_le b_cmp b_cmp m_int (m_op op_adds (b_add false) (m_var 5) (m_var 6)) m_int)) (m_tor1 (m_cmpT op_gt b_cmp (m_op op_adds (b_add false) (m_var 5) m_int) (m_callB call_len_seq f_len T.b_len (by decide +kernel) (m_cons (m_var 1) m_nil)) (nomark _))))).pt) (s_one (s_ret (m_tup (m_cons m_str m_nil)))) s_nil) (
    s_seq (s_asg (m_tup (m_cons (m_slice false (m_var 2) (mo_some m_int) (mo_some (m_op op_adds (b_add false) m_int (m_var 5)))) (m_cons (m_slice false (m_var 2) (mo_some (m_op op_adds (b_add false) m_int (m_var 5))) (mo_some (m_op op_adds (b_add false) (m_op op_adds (b_add false) m_int (m_var 5)) (m_var 6)))) m_nil))) (g_tup rfl (g_cons (g_name 7 nd) (g_cons (g_name 8 nd) g_nil)))) (
    s_seq (s_for PassesOwn.never rfl (i_seq (m_tup (m_cons (m_var 7) (m_cons (m_var 8) m_nil)))) (g_name 9 nd) (
    s_one (s_if ((m_tor (m_cmpT (op_nes h64) b_ne (m_lc false (own := [("x", 12), ("y", 13)]) rfl nd (i_zipT T.b_zip (m_var 9) (m_slice false (m_var 9) (mo_some m_int) mo_none)) (blkOk_by (N := n_law_group_told) (sc := defScope s_law_group_told) (by decide +kernel)) (by decide) (fun _ _ _ _ _ => g_tup rfl (g_cons (g_name 12 nd) (g_cons (g_name 13 nd) g_nil))) (fun _ _ _ _ _ => pts_one (m_cmpT op_ge b_cmp (m_var 12) (m_var 13) (nomark _))) (fun _ _ _ _ _ => m_int)) (m_lst false m_nil) (nomark _)) (m_tor1 (m_cmpT (op_nes h64) b_ne (m_lc false (own := [("x", 12)]) rfl nd (i_seq (m_var 9)) (blkOk_by (N := n_law_group_told) (sc := defScope s_law_group_told) (by decide +kernel)) (by decide) (fun _ _ _ _ _ => g_name 12 nd) (fun _ _ _ _ _ => pts_one (m_cmpT op_ge b_cmp (m_var 12) (m_var 3) (nomark _))) (fun _ _ _ _ _ => m_var 12)) (m_lst false m_nil) (nomark _)))).pt) (s_one (s_ret (m_tup (m_cons m_str m_nil)))) s_nil))) (
    s_seq (s_if ((m_tor (m_cmpT (op_nes h64) b_ne (m_lc false (own := [("x", 12)]) rfl nd (i_seq (m_var 7)) (blkOk_by (N := n_law_group_told) (sc := defScope s_law_group_told) (by decide +kernel)) (by decide) (fun _ _ _ _ _ => g_name 12 nd) (fun _ _ _ _ _ => pts_one (m_cmpT op_in_seq (b_in false) (m_var 12) (m_var 8) rfl)) (fun _ _ _ _ _ => m_var 12)) (m_lst false m_nil) (nomark _)) (m_tor1 (m_cmpT op_gt b_cmp (m_callB (cr_maxTI rfl hr) f_maxTI T.b_max (by decide +kernel) (m_cons (m_slice false (m_var 2) (mo_some (m_op op_adds (b_add false) (m_op op_adds (b_add false) m_int (m_var 5)) (m_var 6))) (mo_some m_int)) m_nil)) m_int (nomark _)))).pt) (s_one (s_ret (m_tup (m_cons m_str m_nil)))) s_nil) (
    s_seq (s_for PassesOwn.never rfl (i_enumT T.b_enumerate (m_var 7)) (g_tup rfl (g_cons (g_name 10 nd) (g_cons (g_name 11 nd) g_nil))) (
    s_one (s_if ((m_tor (m_cmpT (op_nes h64) b_ne (m_slice false (m_sub hu (m_var 1) (m_op op_adds (b_add false) (m_var 10) m_int)) mo_none (mo_some m_int)) (m_tup (m_cons (m_var 4) (m_cons m_int (m_cons (m_var 11) m_nil)))) (nomark _)) (m_tor1 (m_cmpT (op_nes h64) b_ne (m_sub hu (m_sub hu (m_var 1) (m_op op_adds (b_add false) (m_var 10) m_int)) m_int) (m_var 4) (nomark _)))).pt) (s_one (s_ret (m_tup (m_cons m_str (m_cons (m_var 10) m_nil))))) s_nil))) (
    s_one (s_ret (m_tup (m_cons m_str (m_cons (m_var 4) (m_cons (m_sub hu (m_var 2) m_int) (m_cons (m_sub hu (m_var 2) m_int) (m_cons (m_var 7) (m_cons (m_var 8) m_nil))))))))))))))))))
theorem c_law_group_told (T : Tx K kx mg) : Cal P w K kx mg base 1 "_law_group_told" s_law_group_told p_law_group_told m_law_group_told := cal_of T.f_law_group_told sc_law_group_told rfl (fun _ _ _ _ _ _ us hl => match us, hl with | [_, _], _ => rfl) (d_law_group_told T)
theorem sc_law_keys : FnScope n_law_keys p_law_keys (defScope s_law_keys) := ⟨rfl, rfl, rfl, by decide +kernel, rfl, by decide +kernel, by decide +kernel⟩
theorem d_law_keys (T : Tx K kx mg) : Bdy P w K kx mg base 1 n_law_keys "_law_keys" s_law_keys b_law_keys := by
  intro f cdv A outer s H E hr hgd
  have hu := u1 hr
  have h64 := u64 hr
  have nd := sc_law_keys.nd
  exact s_seq (s_par 3 4 rfl nd (m_cons (m_callT call_list_of (f_list true) T.b_list (by decide +kernel) (m_cons (m_var 1) m_nil)) (m_cons (m_lst true m_nil) m_nil))) (
    s_seq (s_for PassesOwn.never rfl (i_range1 T.b_range (m_callB (call_min2 rfl) f_min T.b_min (by decide +kernel) (m_cons (m_var 2) (m_cons (m_callB call_len_seq f_len T.b_len (by decide +kernel) (m_cons (m_var 3) m_nil)) m_nil)))) (g_name 5 nd) (
    s_one (s_expr (m_append (m_var 4) (m_popAt (m_var 3) (m_cl (c_law_draw T) hgd (hr.mono (by decide)) (m_cons (m_var 0) (m_cons (m_callB call_len_seq f_len T.b_len (by decide +kernel) (m_cons (m_var 3) m_nil)) m_nil)))))))) (
    s_one (s_ret (m_callT call_tuple_of f_tuple T.b_tuple (by decide +kernel) (m_cons (m_callB cr_sortedI (f_sorted false) T.b_sorted (by decide +kernel) (m_cons (m_var 4) m_nil)) m_nil)))))
theorem c_law_keys (T : Tx K kx mg) : Cal P w K kx mg base 2 "_law_keys" s_law_keys p_law_keys m_law_keys := cal_of T.f_law_keys sc_law_keys rfl (fun _ _ _ _ _ _ us hl => match us, hl with | [_, _, _], _ => rfl) (d_law_keys T)
theorem sc_law_some_keys : FnScope n_law_some_keys p_law_some_keys (defScope s_law_some_keys) := ⟨rfl, rfl, rfl, by decide +kernel, rfl, by decide +kernel, by decide +kernel⟩
theorem d_law_some_keys (T : Tx K kx mg) : Bdy P w K kx mg base 2 n_law_some_keys "_law_some_keys" s_law_some_keys b_law_some_keys := by
  intro f cdv A outer s H E hr hgd
  have hu := u1 hr
  have h64 := u64 hr
  have nd := sc_law_some_keys.nd
  exact s_seq (s_set 3 nd (m_callT call_list_of (f_list true) T.b_list (by decide +kernel) (m_cons (m_cl (c_law_keys T) hgd (hr.mono (by decide)) (m_cons (m_var 0) (m_cons (m_listR1 false rfl T.b_list T.b_range (m_sub hu (m_var 1) m_int)) (m_cons (m_callB (call_min2 rfl) f_min T.b_min (by decide +kernel) (m_cons (m_var 2) (m_cons (m_sub hu (m_var 1) m_int) m_nil))) m_nil)))) m_nil))) (
    s_seq (s_set 3 nd (m_op op_adds (b_add true) (m_var 3) (m_op op_muls (b_mul false) (m_lst false (m_cons (m_cl (c_law_draw T) hgd (hr.mono (by decide)) (m_cons (m_var 0) (m_cons (m_sub hu (m_var 1) m_int) m_nil))) m_nil)) (m_op op_sub b_sub (m_var 2) (m_callB call_len_seq f_len T.b_len (by decide +kernel) (m_cons (m_var 3) m_nil)))))) (
    s_seq (s_set 4 nd (m_cl (c_law_draw T) hgd (hr.mono (by decide)) (m_cons (m_var 0) (m_cons m_int m_nil)))) (
    s_seq (s_if ((m_tand (m_cmpT (op_nes h64) b_ne (m_var 3) (m_lst false m_nil) (nomark _)) (m_tand1 (m_cmpT op_lt b_cmp (m_var 4) m_int (nomark _)))).pt) (s_seq (s_set 5 nd (m_cl (c_law_draw T) hgd (hr.mono (by decide)) (m_cons (m_var 0) (m_cons (m_callB call_len_seq f_len T.b_len (by decide +kernel) (m_cons (m_var 3) m_nil)) m_nil)))) (
    s_one (s_setI (m_var 3) (m_var 5) (m_sub hu (m_lst false (m_cons (m_sub hu (m_var 1) m_int) (m_cons (m_sub hu (m_var 3) m_int) (m_cons (m_sub hu (m_var 3) (m_neg m_int)) m_nil)))) (m_var 4))))) (s_one (s_if ((m_tand (m_cmpT (op_nes h64) b_ne (m_var 3) (m_lst false m_nil) (nomark _)) (m_tand1 (m_cmpT (op_eqs h64) b_eq (m_var 4) m_int (nomark _)))).pt) (s_one (s_asg (m_tup (m_cons (m_sub hu (m_var 3) (m_neg m_int)) (m_cons (m_sub hu (m_var 3) m_int) m_nil))) (g_tup rfl (g_cons (g_subI (m_var 3) m_int) (g_cons (g_subI (m_var 3) (m_neg m_int)) g_nil))))) s_nil))) (
    s_one (s_ret (m_var 3))))))
theorem c_law_some_keys (T : Tx K kx mg) : Cal P w K kx mg base 3 "_law_some_keys" s_law_some_keys p_law_some_keys m_law_some_keys := cal_of T.f_law_some_keys sc_law_some_keys rfl (fun _ _ _ _ _ _ us hl => match us, hl with | [_, _, _], _ => rfl) (d_law_some_keys T)
theorem sc_law_some_summary : FnScope n_law_some_summary p_law_some_summary (defScope s_law_some_summary) := ⟨rfl, rfl, rfl, by decide +kernel, rfl, by decide +kernel, by decide +kernel⟩
theorem d_law_some_summary (T : Tx K kx mg) : Bdy P w K kx mg base 3 n_law_some_summary "_law_some_summary" s_law_some_summary b_law_some_summary := by
  intro f cdv A outer s H E hr hgd
  have hu := u1 hr
  have h64 := u64 hr
  have nd := sc_law_some_summary.nd
  exact s_seq (s_par 3 4 rfl nd (m_cons (m_cl (c_law_pick T) hgd (hr.mono (by decide)) (m_cons (m_var 0) (m_cons (m_lst false (m_cons (m_op op_adds (b_add false) m_int (m_cl (c_law_draw T) hgd (hr.mono (by decide)) (m_cons (m_var 0) (m_cons m_int m_nil)))) (m_cons (m_op op_adds (b_add false) m_int (m_cl (c_law_draw T) hgd (hr.mono (by decide)) (m_cons (m_var 0) (m_cons m_int m_nil)))) (m_cons m_int (m_cons (m_op op_pow b_pow m_int m_int) (m_cons (m_op op_adds (b_add false) m_int (m_cl (c_law_draw T) hgd (hr.mono (by decide)) (m_cons (m_var 0) (m_cons (m_op op_pow b_pow m_int m_int) m_nil)))) m_nil)))))) m_nil))) (m_cons (m_op op_sub b_sub (m_op op_sub b_sub (m_sub hu (m_var 1) m_int) m_int) (m_var 2)) m_nil))) (
    s_seq (s_set 5 nd (m_cl (c_law_pick T) hgd (hr.mono (by decide)) (m_cons (m_var 0) (m_cons (m_lst false (m_cons m_int (m_cons (m_callB (call_min2 rfl) f_min T.b_min (by decide +kernel) (m_cons (m_var 4) (m_cons m_int m_nil))) (m_cons (m_callB (call_min2 rfl) f_min T.b_min (by decide +kernel) (m_cons (m_var 4) (m_cons m_int m_nil))) (m_cons (m_var 4) (m_cons (m_callB (call_min2 rfl) f_min T.b_min (by decide +kernel) (m_cons (m_var 4) (m_cons m_int m_nil))) (m_cons (m_cl (c_law_draw T) hgd (hr.mono (by decide)) (m_cons (m_var 0) (m_cons (m_op op_adds (b_add false) (m_var 4) m_int) m_nil))) (m_cons (m_op op_adds (b_add false) (m_var 4) m_int) (m_cons (m_sub hu (m_var 1) m_int) (m_cons (m_cl (c_law_draw T) hgd (hr.mono (by decide)) (m_cons (m_var 0) (m_cons m_int m_nil))) m_nil)))))))))) m_nil)))) (
    s_seq (s_set 6 nd (m_cl (c_law_pick T) hgd (hr.mono (by decide)) (m_cons (m_var 0) (m_cons (m_lst false (m_cons m_int (m_cons m_int (m_cons m_int (m_cons m_int (m_cons (m_cl (c_law_draw T) hgd (hr.mono (by decide)) (m_cons (m_var 0) (m_cons m_int m_nil))) (m_cons m_int (m_cons m_int (m_cons (m_callB (call_max2 rfl) f_max T.b_max (by decide +kernel) (m_cons m_int (m_cons (m_op op_sub b_sub m_int (m_var 5)) m_nil))) (m_cons (m_callB (call_max2 rfl) f_max T.b_max (by decide +kernel) (m_cons m_int (m_cons (m_op op_sub b_sub m_int (m_var 5)) m_nil))) m_nil)))))))))) m_nil)))) (
    s_seq (s_set 7 nd (m_cl (c_law_some_keys T) hgd (hr.mono (by decide)) (m_cons (m_var 0) (m_cons (m_var 1) (m_cons (m_var 5) m_nil))))) (
    s_seq (s_setLc 8 false (own := [("key", 12)]) rfl nd rfl rfl rfl (i_seq (m_cl (c_law_some_keys T) hgd (hr.mono (by decide)) (m_cons (m_var 0) (m_cons (m_var 1) (m_cons (m_var 6) m_nil))))) (blkOk_by (N := n_law_some_summary) (sc := defScope s_law_some_summary) (by decide +kernel)) (by decide) (fun _ _ _ _ _ => g_name 12 nd) (fun _ _ _ _ _ => pts_one ((m_tor (m_cmpT op_notIn_seq (b_in true) (m_var 12) (m_var 7) rfl) (m_tor1 (m_cmpT (op_eqs h64) b_eq (m_cl (c_law_draw T) hgd (hr.mono (by decide)) (m_cons (m_var 0) (m_cons m_int m_nil))) m_int (nomark _)))).pt)) (fun _ _ _ _ _ => m_var 12)) (
    s_seq (s_set 9 nd (m_lst true (m_cons (m_var 3) (m_cons m_int (m_cons (m_cl (c_law_pick T) hgd (hr.mono (by decide)) (m_cons (m_var 0) (m_cons (m_lst false (m_cons m_int (m_cons (m_callB (call_max2 rfl) f_max T.b_max (by decide +kernel) (m_cons m_int (m_cons (m_op op_sub b_sub (m_var 3) m_int) m_nil))) (m_cons m_int (m_cons (m_var 3) (m_cons (m_op op_pow b_pow m_int m_int) m_nil)))))) m_nil))) (m_cons (m_cl (c_law_pick T) hgd (hr.mono (by decide)) (m_cons (m_var 0) (m_cons (m_lst false (m_cons m_int (m_cons (m_op op_sub b_sub (m_sub hu (m_var 1) m_int) m_int) (m_cons m_int (m_cons m_int (m_cons m_int (m_cons m_int (m_cons m_int (m_cons (m_sub hu (m_var 1) m_int) m_nil))))))))) m_nil))) (m_cons (m_callB call_len_seq f_len T.b_len (by decide +kernel) (m_cons (m_var 7) m_nil)) (m_cons (m_callB call_len_seq f_len T.b_len (by decide +kernel) (m_cons (m_var 8) m_nil)) m_nil)))))))) (
    s_seq (s_set 9 nd (m_slice true (m_op op_adds (b_add false) (m_op op_adds (b_addL false) (m_var 9) (m_var 7)) (m_var 8)) mo_none (mo_some m_int))) (
    s_seq (s_set 9 nd (m_op op_adds (b_add true) (m_op op_adds (b_add false) (m_var 9) (m_op op_muls (b_mul false) (m_lst false (m_cons m_int m_nil)) (m_op op_sub b_sub m_int (m_callB call_len_seq f_len T.b_len (by decide +kernel) (m_cons (m_var 9) m_nil))))) (m_lst false (m_cons (m_var 3) m_nil)))) (
    s_seq (s_for PassesOwn.never rfl (i_range1 T.b_range (m_cl (c_law_pick T) hgd (hr.mono (by decide)) (m_cons (m_var 0) (m_cons (m_lst false (m_cons m_int (m_cons m_int (m_cons m_int (m_cons m_int (m_cons m_int (m_cons m_int m_nil))))))) m_nil)))) (g_name 10 nd) (
    s_seq (s_set 11 nd (m_cl (c_law_pick T) hgd (hr.mono (by decide)) (m_cons (m_var 0) (m_cons (m_lst false (m_cons m_int (m_cons m_int (m_cons m_int (m_cons m_int (m_cons m_int (m_cons m_int (m_cons m_int (m_cons m_int (m_cons m_int (m_cons (m_cl (c_law_draw T) hgd (hr.mono (by decide)) (m_cons (m_var 0) (m_cons m_int m_nil))) m_nil))))))))))) m_nil)))) (
    s_one (s_setI (m_var 9) (m_var 11) (m_cl (c_law_pick T) hgd (hr.mono (by decide)) (m_cons (m_var 0) (m_cons (m_lst false (m_cons m_int (m_cons m_int (m_cons m_int (m_cons (m_if (m_cmpT op_lt b_cmp (m_sub hu (m_var 9) (m_var 11)) (m_op op_pow b_pow m_int m_int) (nomark _)) (m_op op_adds (b_add false) (m_sub hu (m_var 9) (m_var 11)) m_int) m_int) (m_cons (m_callB (call_max2 rfl) f_max T.b_max (by decide +kernel) (m_cons m_int (m_cons (m_op op_sub b_sub (m_sub hu (m_var 9) (m_var 11)) m_int) m_nil))) (m_cons (m_op op_pow b_pow m_int m_int) m_nil))))))) m_nil))))))) (
    s_one (s_ret (m_callT call_tuple_of f_tuple T.b_tuple (by decide +kernel) (m_cons (m_var 9) m_nil))))))))))))
theorem c_law_some_summary (T : Tx K kx mg) : Cal P w K kx mg base 4 "_law_some_summary" s_law_some_summary p_law_some_summary m_law_some_summary := cal_of T.f_law_some_summary sc_law_some_summary rfl (fun _ _ _ _ _ _ us hl => match us, hl with | [_, _, _], _ => rfl) (d_law_some_summary T)
theorem sc_Disk_read : FnScope n_Disk_read p_Disk_read (defScope s_Disk_read) := ⟨rfl, rfl, rfl, by decide +kernel, rfl, by decide +kernel, by decide +kernel⟩
theorem d_Disk_read (T : Tx K kx mg) : Bdy P w K kx mg base 3 n_Disk_read "Disk.read" s_Disk_read b_Disk_read := by
  intro f cdv A outer s H E hr hgd
  have hu := u1 hr
  have h64 := u64 hr
  have nd := sc_Disk_read.nd
  exact s_seq (s_expr (m_mt (c_Disk_need_place T) hgd (hr.mono (by decide)) (m_var 0) (m_cons (m_var 1) m_nil))) (
    s_one (s_ret (m_get2 hu (m_fld T.a_Disk_newest (m_var 0)) (m_var 1) (m_sub hu (m_fld T.a_Disk_blocks (m_var 0)) (m_var 1)))))
theorem c_Disk_read (T : Tx K kx mg) : Met P w K kx mg base 4 0 "read" "Disk.read" s_Disk_read p_Disk_read m_Disk_read := met_of T.cl_Disk T.f_Disk_read sc_Disk_read rfl (fun _ _ _ _ _ _ us hl => match us, hl with | [_, _], _ => rfl) (d_Disk_read T)
theorem sc_is_data_of : FnScope n_is_data_of p_is_data_of (defScope s_is_data_of) := ⟨rfl, rfl, rfl, by decide +kernel, rfl, by decide +kernel, by decide +kernel⟩
theorem d_is_data_of (T : Tx K kx mg) : Bdy P w K kx mg base 0 n_is_data_of "is_data_of" s_is_data_of b_is_data_of := by
  intro f cdv A outer s H E hr hgd
  have hu := u1 hr
  have h64 := u64 hr
  have nd := sc_is_data_of.nd
  exact s_one (s_ret (m_and (m_cmp (op_eqs h64) b_eq (m_slice false (m_var 0) mo_none (mo_some m_int)) (m_tup (m_cons (m_var 1) (m_cons (m_globI T.c_DATA) (m_cons (m_var 2) m_nil)))) (nomark _)) (m_one (m_cmp (op_eqs h64) b_eq (m_sub hu (m_var 0) (m_neg m_int)) (m_var 1) (nomark _)))))
theorem c_is_data_of (T : Tx K kx mg) : Cal P w K kx mg base 1 "is_data_of" s_is_data_of p_is_data_of m_is_data_of := cal_of T.f_is_data_of sc_is_data_of rfl (fun _ _ _ _ _ _ us hl => match us, hl with | [_, _, _], _ => rfl) (d_is_data_of T)
theorem sc_place_raw : FnScope n_place_raw p_place_raw (defScope s_place_raw) := ⟨rfl, rfl, rfl, by decide +kernel, rfl, by decide +kernel, by decide +kernel⟩
theorem d_place_raw (T : Tx K kx mg) : Bdy P w K kx mg base 0 n_place_raw "place_raw" s_place_raw b_place_raw := by
  intro f cdv A outer s H E hr hgd
  have hu := u1 hr
  have h64 := u64 hr
  have nd := sc_place_raw.nd
  exact s_one (s_ret (m_op op_adds (b_add false) (m_op op_adds (b_add false) (m_op op_muls (b_mul false) m_int (m_fld T.a_Disk_r (m_var 0))) (m_op op_muls (b_mul false) (m_var 1) (m_fld T.a_Disk_k (m_var 0)))) (m_var 2)))
theorem c_place_raw (T : Tx K kx mg) : Cal P w K kx mg base 1 "place_raw" s_place_raw p_place_raw m_place_raw := cal_of T.f_place_raw sc_place_raw rfl (fun _ _ _ _ _ _ us hl => match us, hl with | [_, _, _], _ => rfl) (d_place_raw T)
theorem sc_are_rising : FnScope n_are_rising p_are_rising (defScope s_are_rising) := ⟨rfl, rfl, rfl, by decide +kernel, rfl, by decide +kernel, by decide +kernel⟩
theorem d_are_rising (T : Tx K kx mg) : Bdy P w K kx mg base 0 n_are_rising "are_rising" s_are_rising b_are_rising := by
  intro f cdv A outer s H E hr hgd
  have hu := u1 hr
  have h64 := u64 hr
  have nd := sc_are_rising.nd
  exact s_one (s_ret (m_callB (cr_all rfl) f_all T.b_all (by decide +kernel) (m_cons (m_lc false (own := [("at", 1)]) rfl nd (i_range1 T.b_range (m_op op_sub b_sub (m_callB call_len_seq f_len T.b_len (by decide +kernel) (m_cons (m_var 0) m_nil)) m_int)) (blkOk_by (N := n_are_rising) (sc := defScope s_are_rising) (by decide +kernel)) (by decide) (fun _ _ _ _ _ => g_name 1 nd) (fun _ _ _ _ _ => mt_yes) (fun _ _ _ _ _ => m_cmp op_lt b_cmp (m_sub hu (m_var 0) (m_var 1)) (m_sub hu (m_var 0) (m_op op_adds (b_add false) (m_var 1) m_int)) (nomark _))) m_nil)))
theorem c_are_rising (T : Tx K kx mg) : Cal P w K kx mg base 1 "are_rising" s_are_rising p_are_rising m_are_rising := cal_of T.f_are_rising sc_are_rising rfl (fun _ _ _ _ _ _ us hl => match us, hl with | [_], _ => rfl) (d_are_rising T)
theorem sc_are_keys_of : FnScope n_are_keys_of p_are_keys_of (defScope s_are_keys_of) := ⟨rfl, rfl, rfl, by decide +kernel, rfl, by decide +kernel, by decide +kernel⟩
theorem d_are_keys_of (T : Tx K kx mg) : Bdy P w K kx mg base 1 n_are_keys_of "are_keys_of" s_are_keys_of b_are_keys_of := by
  intro f cdv A outer s H E hr hgd
  have hu := u1 hr
  have h64 := u64 hr
  have nd := sc_are_keys_of.nd
  exact s_one (s_ret (m_and (m_callB (cr_all rfl) f_all T.b_all (by decide +kernel) (m_cons (m_lc false (own := [("word", 2)]) rfl nd (i_seq (m_var 1)) (blkOk_by (N := n_are_keys_of) (sc := defScope s_are_keys_of) (by decide +kernel)) (by decide) (fun _ _ _ _ _ => g_name 2 nd) (fun _ _ _ _ _ => mt_yes) (fun _ _ _ _ _ => m_cmp op_lt b_cmp (m_var 2) (m_fld T.a_Disk_n (m_var 0)) (nomark _))) m_nil)) (m_one (m_cl (c_are_rising T) hgd (hr.mono (by decide)) (m_cons (m_var 1) m_nil)))))
theorem c_are_keys_of (T : Tx K kx mg) : Cal P w K kx mg base 2 "are_keys_of" s_are_keys_of p_are_keys_of m_are_keys_of := cal_of T.f_are_keys_of sc_are_keys_of rfl (fun _ _ _ _ _ _ us hl => match us, hl with | [_, _], _ => rfl) (d_are_keys_of T)
theorem sc_told_by : FnScope n_told_by p_told_by (defScope s_told_by) := ⟨rfl, rfl, rfl, by decide +kernel, rfl, by decide +kernel, by decide +kernel⟩
theorem d_told_by (T : Tx K kx mg) : Bdy P w K kx mg base 2 n_told_by "told_by" s_told_by b_told_by := by
  intro f cdv A outer s H E hr hgd
  have hu := u1 hr
  have h64 := u64 hr
  have nd := sc_told_by.nd
  exact s_seq (s_asg (m_slice false (m_var 2) (mo_some m_int) (mo_some (m_globI T.c_FIRST_KEY))) (g_tup rfl (g_cons (g_name 3 nd) (g_cons (g_name 4 nd) (g_cons (g_name 5 nd) (g_cons (g_name 6 nd) g_nil)))))) (
    s_seq (s_if (m_tnot (m_chainT op_le op_le b_cmp b_cmp m_int (m_op op_adds (b_add false) (m_var 5) (m_var 6)) (m_globI T.c_MOST_KEYS))) (s_one (s_ret m_non)) s_nil) (
    s_seq (s_if ((m_tor (m_cmpT op_ge b_cmp (m_var 4) (m_fld T.a_Disk_s (m_var 0)) (nomark _)) (m_tor1 (m_cmpT op_gt b_cmp (m_op op_adds (b_add false) (m_op op_adds (b_add false) (m_var 1) m_int) (m_var 5)) (m_fld T.a_Disk_k (m_var 0)) (nomark _)))).pt) (s_one (s_ret m_non)) s_nil) (
    s_seq (s_set 7 nd (m_op op_adds (b_add false) (m_globI T.c_FIRST_KEY) (m_var 5))) (
    s_seq (s_set 8 nd (m_op op_adds (b_add false) (m_var 7) (m_var 6))) (
    s_seq (s_asg (m_tup (m_cons (m_slice false (m_var 2) (mo_some (m_globI T.c_FIRST_KEY)) (mo_some (m_var 7))) (m_cons (m_slice false (m_var 2) (mo_some (m_var 7)) (mo_some (m_var 8))) m_nil))) (g_tup rfl (g_cons (g_name 9 nd) (g_cons (g_name 10 nd) g_nil)))) (
    s_seq (s_if ((m_tor (m_tnot (m_val (m_cl (c_are_keys_of T) hgd (hr.mono (by decide)) (m_cons (m_var 0) (m_cons (m_var 9) m_nil))))) (m_tor1 (m_tnot (m_val (m_cl (c_are_keys_of T) hgd (hr.mono (by decide)) (m_cons (m_var 0) (m_cons (m_var 10) m_nil))))))).pt) (s_one (s_ret m_non)) s_nil) (
    s_seq (s_if (m_val (m_callB (cr_any rfl) f_any T.b_any (by decide +kernel) (m_cons (m_lc false (own := [("key", 11)]) rfl nd (i_seq (m_var 10)) (blkOk_by (N := n_told_by) (sc := defScope s_told_by) (by decide +kernel)) (by decide) (fun _ _ _ _ _ => g_name 11 nd) (fun _ _ _ _ _ => mt_yes) (fun _ _ _ _ _ => m_cmp op_in_seq (b_in false) (m_var 11) (m_var 9) rfl)) m_nil))) (s_one (s_ret m_non)) s_nil) (
    s_seq (s_if (m_val (m_callB (cr_any rfl) f_any T.b_any (by decide +kernel) (m_cons (m_lc false (own := [("word", 12)]) rfl nd (i_seq (m_slice false (m_var 2) (mo_some (m_var 8)) (mo_some (m_neg m_int)))) (blkOk_by (N := n_told_by) (sc := defScope s_told_by) (by decide +kernel)) (by decide) (fun _ _ _ _ _ => g_name 12 nd) (fun _ _ _ _ _ => mt_yes) (fun _ _ _ _ _ => m_cmp op_gt b_cmp (m_var 12) m_int (nomark _))) m_nil))) (s_one (s_ret m_non)) s_nil) (
    s_one (s_ret (m_tup (m_cons m_str (m_cons (m_sub hu (m_var 2) m_int) (m_cons (m_var 3) (m_cons (m_var 4) (m_cons (m_var 9) (m_cons (m_var 10) m_nil)))))))))))))))))
theorem c_told_by (T : Tx K kx mg) : Cal P w K kx mg base 3 "told_by" s_told_by p_told_by m_told_by := cal_of T.f_told_by sc_told_by rfl (fun _ _ _ _ _ _ us hl => match us, hl with | [_, _, _], _ => rfl) (d_told_by T)
theorem sc_group_at : FnScope n_group_at p_group_at (defScope s_group_at) := ⟨rfl, rfl, rfl, by decide +kernel, rfl, by decide +kernel, by decide +kernel⟩
theorem d_group_at (T : Tx K kx mg) : Bdy P w K kx mg base 4 n_group_at "group_at" s_group_at b_group_at := by
  intro f cdv A outer s H E hr hgd
  have hu := u1 hr
  have h64 := u64 hr
  have nd := sc_group_at.nd
  exact s_seq (s_set 3 nd (m_mt (c_Disk_read T) hgd (hr.mono (by decide)) (m_var 0) (m_cons (m_cl (c_place_raw T) hgd (hr.mono (by decide)) (m_cons (m_var 0) (m_cons (m_var 1) (m_cons (m_var 2) m_nil)))) m_nil))) (
    s_seq (s_set 4 nd (m_sub hu (m_var 3) m_int)) (
    s_seq (s_if ((m_tor (m_cmpT (op_eqs h64) b_eq (m_var 4) m_int (nomark _)) (m_tor1 (m_cmpT (op_nes h64) b_ne (m_sub hu (m_var 3) (m_neg m_int)) (m_var 4) (nomark _)))).pt) (s_one (s_ret (m_tup (m_cons m_str m_nil)))) s_nil) (
    s_seq (s_if (m_cmpT (op_nes h64) b_ne (m_sub hu (m_var 3) m_int) (m_globI T.c_SUMMARY) (nomark _)) (s_one (s_ret (m_tup (m_cons m_str m_nil)))) s_nil) (
    s_seq (s_set 5 nd (m_cl (c_told_by T) hgd (hr.mono (by decide)) (m_cons (m_var 0) (m_cons (m_var 2) (m_cons (m_var 3) m_nil))))) (
    s_seq (s_if (m_isNT (neg := false) rfl (m_var 5)) (s_one (s_ret (m_tup (m_cons m_str m_nil)))) s_nil) (
    s_seq (s_for PassesOwn.never rfl (i_enumT T.b_enumerate (m_sub hu (m_var 5) m_int)) (g_tup rfl (g_cons (g_name 6 nd) (g_cons (g_name 7 nd) g_nil))) (
    s_seq (s_set 8 nd (m_mt (c_Disk_read T) hgd (hr.mono (by decide)) (m_var 0) (m_cons (m_cl (c_place_raw T) hgd (hr.mono (by decide)) (m_cons (m_var 0) (m_cons (m_var 1) (m_cons (m_op op_adds (b_add false) (m_op op_adds (b_add false) (m_var 2) m_int) (m_var 6)) m_nil)))) m_nil))) (
    s_one (s_if (m_tnot (m_val (m_cl (c_is_data_of T) hgd (hr.mono (by decide)) (m_cons (m_var 8) (m_cons (m_var 4) (m_cons (m_var 7) m_nil)))))) (s_one (s_ret (m_tup (m_cons m_str (m_cons (m_var 6) m_nil))))) s_nil)))) (
    s_one (s_ret (m_var 5)))))))))
theorem c_group_at (T : Tx K kx mg) : Cal P w K kx mg base 5 "group_at" s_group_at p_group_at m_group_at := cal_of T.f_group_at sc_group_at rfl (fun _ _ _ _ _ _ us hl => match us, hl with | [_, _, _], _ => rfl) (d_group_at T)
theorem sc_need_disk : FnScope n_need_disk p_need_disk (defScope s_need_disk) := ⟨rfl, rfl, rfl, by decide +kernel, rfl, by decide +kernel, by decide +kernel⟩
theorem d_need_disk (T : Tx K kx mg) : Bdy P w K kx mg base 0 n_need_disk "need_disk" s_need_disk b_need_disk := by
  intro f cdv A outer s H E hr hgd
  have hu := u1 hr
  have h64 := u64 hr
  have nd := sc_need_disk.nd
  exact s_one (s_if (m_tnot (m_val (m_isC T.i_Disk T.b_isinstance T.n_Disk (m_var 0)))) (s_one s_fail) s_nil)
theorem c_need_disk (T : Tx K kx mg) : Cal P w K kx mg base 1 "need_disk" s_need_disk p_need_disk m_need_disk := cal_of T.f_need_disk sc_need_disk rfl (fun _ _ _ _ _ _ us hl => match us, hl with | [_], _ => rfl) (d_need_disk T)
theorem sc_place_at : FnScope n_place_at p_place_at (defScope s_place_at) := ⟨rfl, rfl, rfl, by decide +kernel, rfl, by decide +kernel, by decide +kernel⟩
theorem d_place_at (T : Tx K kx mg) : Bdy P w K kx mg base 2 n_place_at "place_at" s_place_at b_place_at := by
  intro f cdv A outer s H E hr hgd
  have hu := u1 hr
  have h64 := u64 hr
  have nd := sc_place_at.nd
  exact s_seq (s_expr (m_cl (c_need_disk T) hgd (hr.mono (by decide)) (m_cons (m_var 0) m_nil))) (
    s_seq (s_if (m_tnot (m_val (m_cl (c_is_between T) hgd (hr.mono (by decide)) (m_cons (m_var 1) (m_cons m_int (m_cons (m_op op_sub b_sub (m_fld T.a_Disk_s (m_var 0)) m_int) m_nil)))))) (s_one s_fail) s_nil) (
    s_seq (s_if (m_tnot (m_val (m_cl (c_is_between T) hgd (hr.mono (by decide)) (m_cons (m_var 2) (m_cons m_int (m_cons (m_op op_sub b_sub (m_fld T.a_Disk_k (m_var 0)) m_int) m_nil)))))) (s_one s_fail) s_nil) (
    s_one (s_ret (m_cl (c_place_raw T) hgd (hr.mono (by decide)) (m_cons (m_var 0) (m_cons (m_var 1) (m_cons (m_var 2) m_nil))))))))
theorem c_place_at (T : Tx K kx mg) : Cal P w K kx mg base 3 "place_at" s_place_at p_place_at m_place_at := cal_of T.f_place_at sc_place_at rfl (fun _ _ _ _ _ _ us hl => match us, hl with | [_, _, _], _ => rfl) (d_place_at T)
theorem sc_judge_group : FnScope n_judge_group p_judge_group (defScope s_judge_group) := ⟨rfl, rfl, rfl, by decide +kernel, rfl, by decide +kernel, by decide +kernel⟩
theorem d_judge_group (T : Tx K kx mg) : Bdy P w K kx mg base 5 n_judge_group "judge_group" s_judge_group b_judge_group := by
  intro f cdv A outer s H E hr hgd
  have hu := u1 hr
  have h64 := u64 hr
  have nd := sc_judge_group.nd
  exact s_seq (s_expr (m_cl (c_place_at T) hgd (hr.mono (by decide)) (m_cons (m_var 0) (m_cons (m_var 1) (m_cons (m_var 2) m_nil))))) (
    s_one (s_ret (m_cl (c_group_at T) hgd (hr.mono (by decide)) (m_cons (m_var 0) (m_cons (m_var 1) (m_cons (m_var 2) m_nil))))))
theorem c_judge_group (T : Tx K kx mg) : Cal P w K kx mg base 6 "judge_group" s_judge_group p_judge_group m_judge_group := cal_of T.f_judge_group sc_judge_group rfl (fun _ _ _ _ _ _ us hl => match us, hl with | [_, _, _], _ => rfl) (d_judge_group T)
theorem sc_law : FnScope n_law p_law (defScope s_law) := ⟨rfl, rfl, rfl, by decide +kernel, rfl, by decide +kernel, by decide +kernel⟩
theorem d_law (T : Tx K kx mg) : Bdy P w K kx mg base 6 n_law "law" s_law b_law := by
  intro f cdv A outer s H E hr hgd
  have hu := u1 hr
  have h64 := u64 hr
  have nd := sc_law.nd
  exact s_seq (s_set 1 nd (m_cl (c_law_deck T) hgd (hr.mono (by decide)) (m_cons (m_var 0) m_nil))) (
    s_seq (s_set 2 nd (m_cl (c_law_drawn_sizes T) hgd (hr.mono (by decide)) (m_cons (m_var 1) m_nil))) (
    s_seq (s_par 3 4 rfl nd (m_cons (m_mk (c_Disk_mk T) hgd (hr.mono (by decide)) (m_cons (m_sub hu (m_var 2) m_int) (m_cons (m_sub hu (m_var 2) m_int) m_nil))) (m_cons (m_cl (c_law_blank T) hgd (hr.mono (by decide)) (m_cons (m_var 2) m_nil)) m_nil))) (
    s_seq (s_for PassesOwn.never rfl (i_range1 T.b_range m_int) (g_name 5 nd) (
    s_seq (s_par 6 7 rfl nd (m_cons (m_cl (c_law_draw T) hgd (hr.mono (by decide)) (m_cons (m_var 1) (m_cons (m_sub hu (m_var 2) m_int) m_nil))) (m_cons (m_cl (c_law_pick T) hgd (hr.mono (by decide)) (m_cons (m_var 1) (m_cons (m_lst false (m_cons m_int (m_cons m_int (m_cons m_int (m_cons m_int (m_cons (m_op op_sub b_sub (m_sub hu (m_var 2) m_int) m_int) (m_cons (m_cl (c_law_draw T) hgd (hr.mono (by decide)) (m_cons (m_var 1) (m_cons (m_sub hu (m_var 2) m_int) m_nil))) m_nil))))))) m_nil))) m_nil))) (
    s_seq (s_set 8 nd (m_cl (c_law_some_summary T) hgd (hr.mono (by decide)) (m_cons (m_var 1) (m_cons (m_var 2) (m_cons (m_var 7) m_nil))))) (
    s_seq (s_par 9 10 rfl nd (m_cons (m_lst true (m_cons (m_var 8) m_nil)) (m_cons (m_cmp (op_eqs h64) b_eq (m_cl (c_law_draw T) hgd (hr.mono (by decide)) (m_cons (m_var 1) (m_cons m_int m_nil))) m_int (nomark _)) m_nil))) (
    s_seq (s_for PassesOwn.never rfl (i_range1 T.b_range (m_callB (call_min2 rfl) f_min T.b_min (by decide +kernel) (m_cons (m_sub hu (m_var 8) m_int) (m_cons (m_op op_sub b_sub (m_op op_sub b_sub (m_sub hu (m_var 2) m_int) (m_var 7)) m_int) m_nil)))) (g_name 11 nd) (
    s_seq (s_set 12 nd (m_cl (c_law_data T) hgd (hr.mono (by decide)) (m_cons (m_sub hu (m_var 8) m_int) (m_cons (m_sub hu (m_var 8) (m_op op_adds (b_add false) m_int (m_var 11))) (m_cons (m_cl (c_law_content T) hgd (hr.mono (by decide)) (m_cons (m_var 1) m_nil)) m_nil))))) (
    s_seq (s_if ((m_tand (m_truth (m_var 10)) (m_tand1 (m_cmpT (op_eqs h64) b_eq (m_cl (c_law_draw T) hgd (hr.mono (by decide)) (m_cons (m_var 1) (m_cons m_int m_nil))) m_int (nomark _)))).pt) (s_seq (s_set 13 nd (m_cl (c_law_pick T) hgd (hr.mono (by decide)) (m_cons (m_var 1) (m_cons (m_lst false (m_cons m_int (m_cons m_int (m_cons m_int (m_cons m_int m_nil))))) m_nil)))) (
    s_one (s_set 12 nd (m_op op_adds (b_add false) (m_op op_adds (b_add false) (m_slice false (m_var 12) mo_none (mo_some (m_var 13))) (m_tup (m_cons (m_cl (c_law_word T) hgd (hr.mono (by decide)) (m_cons (m_var 1) m_nil)) m_nil))) (m_slice false (m_var 12) (mo_some (m_op op_adds (b_add false) (m_var 13) m_int)) mo_none))))) s_nil) (
    s_one (s_expr (m_append (m_var 9) (m_var 12))))))) (
    s_seq (s_for PassesOwn.never rfl (i_enum T.b_enumerate (m_var 9)) (g_tup rfl (g_cons (g_name 13 nd) (g_cons (g_name 12 nd) g_nil))) (
    s_seq (s_set 14 nd (m_cl (c_law_place T) hgd (hr.mono (by decide)) (m_cons (m_var 2) (m_cons (m_var 6) (m_cons (m_op op_adds (b_add false) (m_var 7) (m_var 13)) m_nil))))) (
    s_seq (s_expr (m_mt (c_Disk_write T) hgd (hr.mono (by decide)) (m_var 3) (m_cons (m_var 14) (m_cons (m_var 12) m_nil)))) (
    s_one (s_setK hu (m_var 4) m_str (m_op op_adds (b_add false) (m_sub hu (m_var 4) m_str) (m_lst false (m_cons (m_tup (m_cons (m_var 14) (m_cons (m_var 12) m_nil))) m_nil)))))))) (
    s_seq (s_if (m_cmpT (op_eqs h64) b_eq (m_cl (c_law_draw T) hgd (hr.mono (by decide)) (m_cons (m_var 1) (m_cons m_int m_nil))) m_int (nomark _)) (s_seq (s_expr (m_mt0 (c_Disk_force T) hgd (hr.mono (by decide)) (m_var 3))) (
    s_one (s_expr (m_cl (c_law_forced T) hgd (hr.mono (by decide)) (m_cons (m_var 4) m_nil))))) s_nil) (
    s_seq (s_set 15 nd (m_cl (c_law_group_told T) hgd (hr.mono (by decide)) (m_cons (m_var 2) (m_cons (m_cl (c_law_from T) hgd (hr.mono (by decide)) (m_cons (m_var 4) (m_cons (m_var 6) (m_cons (m_var 7) m_nil)))) m_nil)))) (
    s_seq (s_set 16 nd (m_if (m_cmpT (op_eqs h64) b_eq (m_op op_mod b_mod (m_callT call_int1 f_int T.b_int (by decide +kernel) (m_cons (m_var 5) m_nil)) m_int) m_int (nomark _)) (m_cl (c_judge_group T) hgd (hr.mono (by decide)) (m_cons (m_var 3) (m_cons (m_var 6) (m_cons (m_var 7) m_nil)))) (m_clK0 (c_judge_group T) hgd (hr.mono (by decide)) (ks := ["offset", "segment", "disk"]) (ix := [2, 1, 0]) (fun _ _ _ _ _ _ us ws h1 h2 => match us, ws, h1, h2 with | [], [_, _, _], _, _ => rfl) (len_cons (len_cons (len_cons len_nil))) (mk_cons (m_var 7) (mk_cons (m_var 6) (mk_cons (m_var 3) mk_nil)))))) (
    s_one (s_if (m_reprNeT hgd h64 T.b_repr (m_var 16) (m_var 15)) (s_one (s_ret m_bl)) s_nil))))))))))) (
    s_one (s_ret m_bl)))))
theorem c_law (T : Tx K kx mg) : Cal P w K kx mg base 7 "law" s_law p_law m_law := cal_of T.f_law sc_law rfl (fun _ _ _ _ _ _ us hl => match us, hl with | [_], _ => rfl) (d_law T)
end
def lv : List (Str × PySem.W.WData) := [("MOST_WORD", .int 1000000000), ("BLANK", .tuple (ns_BLANK.map PySem.W.WData.int))]
theorem all_mk {l : PySem.W.OpenLaw} {w : World} {K : PySem.W.Frag} {h : Heap} {mg : Str → Option Value} {fa C0 f0 f1 f2 f3 f4 f5 f6 f7 f8 f9 f10 f11 f12 f13 f14 f15 f16 f17 f18 f19 f20 f21 f22 f23 f24 f25 f26 f27 f28 f29 f30 f31 f32 f33 f34 f35 f36 f37 f38 f39 f40 f41 : Addr} {lw : List (Str × PySem.W.WData)} (hlw : lw = lv) (kin : K.In h) (hns : h.Ns mainGlobals mg) (hfa : mg "law" = some (.ref fa)) (L0 : PySem.W.LooseAre lw mg h)
    {od0 od1 od2 od3 od4 od5 od6 od7 od8 od9 od10 od11 od12 od13 od14 od15 od16 od17 od18 od19 od20 od21 od22 od23 od24 od25 od26 od27 od28 od29 od30 od31 od32 od33 od34 od35 od36 od37 od38 od39 od40 od41 an0 an1 an2 an3 an4 an5 an6 an7 an8 an9 an10 an11 an12 an13 an14 an15 an16 an17 an18 an19 an20 an21 an22 an23 an24 an25 an26 an27 an28 an29 an30 an31 an32 an33 an34 an35 an36 an37 an38 an39 an40 an41 : Option Addr} {sl0 sl1 sl2 sl3 sl4 sl5 sl6 sl7 sl8 sl9 sl10 sl11 sl12 sl13 sl14 sl15 sl16 sl17 sl18 sl19 sl20 sl21 sl22 sl23 sl24 sl25 sl26 sl27 sl28 sl29 sl30 sl31 sl32 sl33 sl34 sl35 sl36 sl37 sl38 sl39 sl40 sl41 : Array (Option Value)} {oc0 oc1 oc2 oc3 oc4 oc5 oc6 oc7 oc8 oc9 oc10 oc11 oc12 oc13 oc14 oc15 oc16 oc17 oc18 oc19 oc20 oc21 oc22 oc23 oc24 oc25 oc26 oc27 oc28 oc29 oc30 oc31 oc32 oc33 oc34 oc35 oc36 oc37 oc38 oc39 oc40 oc41 kV0 kV1 kV2 kV3 kV4 kV5 kV6 kV7 kV8 kV9 kV10 kV11 kV12 kV13 kV14 kV15 kV16 kV17 kV18 kV19 kV20 kV21 kV22 kV23 kV24 kV25 kV26 kV27 kV28 kV29 kV30 kV31 kV32 kV33 kV34 kV35 kV36 kV37 kV38 kV39 kV40 kV41 dc0 dc1 dc2 dc3 dc4 dc5 dc6 dc7 dc8 dc9 dc10 dc11 dc12 dc13 dc14 dc15 dc16 dc17 dc18 dc19 dc20 dc21 dc22 dc23 dc24 dc25 dc26 dc27 dc28 dc29 dc30 dc31 dc32 dc33 dc34 dc35 dc36 dc37 dc38 dc39 dc40 dc41 pm0 pm1 pm2 pm3 pm4 pm5 pm6 pm7 pm8 pm9 pm10 pm11 pm12 pm13 pm14 pm15 pm16 pm17 pm18 pm19 pm20 pm21 pm22 pm23 pm24 pm25 pm26 pm27 pm28 pm29 pm30 pm31 pm32 pm33 pm34 pm35 pm36 pm37 pm38 pm39 pm40 pm41 cd0 cd1 cd2 cd3 cd4 cd5 cd6 cd7 cd8 cd9 cd10 cd11 cd12 cd13 cd14 cd15 cd16 cd17 cd18 cd19 cd20 cd21 cd22 cd23 cd24 cd25 cd26 cd27 cd28 cd29 cd30 cd31 cd32 cd33 cd34 cd35 cd36 cd37 cd38 cd39 cd40 cd41 ct0 ct1 ct2 ct3 ct4 ct5 ct6 ct7 ct8 ct9 ct10 ct11 ct12 ct13 ct14 ct15 ct16 ct17 ct18 ct19 ct20 ct21 ct22 ct23 ct24 ct25 ct26 ct27 ct28 ct29 ct30 ct31 ct32 ct33 ct34 ct35 ct36 ct37 ct38 ct39 ct40 ct41 : Value} {t_CONTENT t_DATA t_FIRST_KEY t_LEAST_BLOCKS t_LEAST_SEGMENTS t_MOST_BLOCKS t_MOST_KEYS t_MOST_SEGMENTS t_ROOT_WORDS t_SPARE_SEGMENTS t_SUMMARY t_WORDS : Tok}
    (aC_Disk : PySem.W.nsIn K mainGlobals "Disk" = some (some (.ref C0)))
    (zb_all : PySem.W.nsIn K mainGlobals "all" = some none)
    (zb_any : PySem.W.nsIn K mainGlobals "any" = some none)
    (zb_bool : PySem.W.nsIn K mainGlobals "bool" = some none)
    (zb_enumerate : PySem.W.nsIn K mainGlobals "enumerate" = some none)
    (zb_int : PySem.W.nsIn K mainGlobals "int" = some none)
    (zb_isinstance : PySem.W.nsIn K mainGlobals "isinstance" = some none)
    (zb_len : PySem.W.nsIn K mainGlobals "len" = some none)
    (zb_list : PySem.W.nsIn K mainGlobals "list" = some none)
    (zb_max : PySem.W.nsIn K mainGlobals "max" = some none)
    (zb_min : PySem.W.nsIn K mainGlobals "min" = some none)
    (zb_range : PySem.W.nsIn K mainGlobals "range" = some none)
    (zb_repr : PySem.W.nsIn K mainGlobals "repr" = some none)
    (zb_sorted : PySem.W.nsIn K mainGlobals "sorted" = some none)
    (zb_tuple : PySem.W.nsIn K mainGlobals "tuple" = some none)
    (zb_zip : PySem.W.nsIn K mainGlobals "zip" = some none)
    (zc_CONTENT : PySem.W.nsIn K mainGlobals "CONTENT" = some (some (.int 28 t_CONTENT)))
    (zc_DATA : PySem.W.nsIn K mainGlobals "DATA" = some (some (.int 2 t_DATA)))
    (zc_FIRST_KEY : PySem.W.nsIn K mainGlobals "FIRST_KEY" = some (some (.int 6 t_FIRST_KEY)))
    (zc_LEAST_BLOCKS : PySem.W.nsIn K mainGlobals "LEAST_BLOCKS" = some (some (.int 4 t_LEAST_BLOCKS)))
    (zc_LEAST_SEGMENTS : PySem.W.nsIn K mainGlobals "LEAST_SEGMENTS" = some (some (.int 6 t_LEAST_SEGMENTS)))
    (zc_MOST_BLOCKS : PySem.W.nsIn K mainGlobals "MOST_BLOCKS" = some (some (.int 24 t_MOST_BLOCKS)))
    (zc_MOST_KEYS : PySem.W.nsIn K mainGlobals "MOST_KEYS" = some (some (.int 24 t_MOST_KEYS)))
    (zc_MOST_SEGMENTS : PySem.W.nsIn K mainGlobals "MOST_SEGMENTS" = some (some (.int 40 t_MOST_SEGMENTS)))
    (zc_ROOT_WORDS : PySem.W.nsIn K mainGlobals "ROOT_WORDS" = some (some (.int 4 t_ROOT_WORDS)))
    (zc_SPARE_SEGMENTS : PySem.W.nsIn K mainGlobals "SPARE_SEGMENTS" = some (some (.int 4 t_SPARE_SEGMENTS)))
    (zc_SUMMARY : PySem.W.nsIn K mainGlobals "SUMMARY" = some (some (.int 1 t_SUMMARY)))
    (zc_WORDS : PySem.W.nsIn K mainGlobals "WORDS" = some (some (.int 32 t_WORDS)))
    (pg_Disk : PySem.W.plainGet K C0 Str.empty = true)
    (hd_Disk : PySem.W.hasDictIn K C0 = true)
    (po_Disk : PySem.W.plainOver K C0 = true)
    (sa_Disk : PySem.W.findIn K (.ref C0) "__setattr__" = some (some (.builtin "object.__setattr__")))
    (na_Disk_blocks : PySem.W.findIn K (.ref C0) "blocks" = some none)
    (na_Disk_k : PySem.W.findIn K (.ref C0) "k" = some none)
    (na_Disk_left : PySem.W.findIn K (.ref C0) "left" = some none)
    (na_Disk_n : PySem.W.findIn K (.ref C0) "n" = some none)
    (na_Disk_newest : PySem.W.findIn K (.ref C0) "newest" = some none)
    (na_Disk_queue : PySem.W.findIn K (.ref C0) "queue" = some none)
    (na_Disk_r : PySem.W.findIn K (.ref C0) "r" = some none)
    (na_Disk_s : PySem.W.findIn K (.ref C0) "s" = some none)
    (iha_Disk : PySem.W.findIn K (.ref C0) "__class__" = some (some (.builtin "object.__class__")))
    (ihn_Disk : PySem.W.specialIn K (.builtin "object.__class__") "__get__" = some (some (.builtin "getset_descriptor.__get__")))
    (iht_Disk : PySem.W.takesIn K (.builtin "object.__class__") = some true)
    (ihm_Disk : PySem.W.mroIn K C0 (.type "object") = some true)
    (a0 : PySem.W.nsIn K mainGlobals "is_integer" = some (some (.ref f0)))
    (l0 : K.lookup f0 = some ⟨oc0, od0, .func (PySem.W.fnOf "is_integer" "is_integer" (defArgs s_is_integer) (defBody s_is_integer) (defScope s_is_integer) .none kV0 dc0 pm0 an0 cd0 ct0), sl0⟩)
    (c0 : PySem.W.codeIn K cd0 "is_integer" = true)
    (k0 : PySem.W.keepIn K (.ref f0) = true)
    (a1 : PySem.W.nsIn K mainGlobals "is_between" = some (some (.ref f1)))
    (l1 : K.lookup f1 = some ⟨oc1, od1, .func (PySem.W.fnOf "is_between" "is_between" (defArgs s_is_between) (defBody s_is_between) (defScope s_is_between) .none kV1 dc1 pm1 an1 cd1 ct1), sl1⟩)
    (c1 : PySem.W.codeIn K cd1 "is_between" = true)
    (k1 : PySem.W.keepIn K (.ref f1) = true)
    (a2 : PySem.W.nsIn K mainGlobals "need_sizes" = some (some (.ref f2)))
    (l2 : K.lookup f2 = some ⟨oc2, od2, .func (PySem.W.fnOf "need_sizes" "need_sizes" (defArgs s_need_sizes) (defBody s_need_sizes) (defScope s_need_sizes) .none kV2 dc2 pm2 an2 cd2 ct2), sl2⟩)
    (c2 : PySem.W.codeIn K cd2 "need_sizes" = true)
    (k2 : PySem.W.keepIn K (.ref f2) = true)
    (a3 : PySem.W.nsIn K mainGlobals "room_of" = some (some (.ref f3)))
    (l3 : K.lookup f3 = some ⟨oc3, od3, .func (PySem.W.fnOf "room_of" "room_of" (defArgs s_room_of) (defBody s_room_of) (defScope s_room_of) .none kV3 dc3 pm3 an3 cd3 ct3), sl3⟩)
    (c3 : PySem.W.codeIn K cd3 "room_of" = true)
    (k3 : PySem.W.keepIn K (.ref f3) = true)
    (a4 : PySem.W.nsIn K mainGlobals "root_blocks_of" = some (some (.ref f4)))
    (l4 : K.lookup f4 = some ⟨oc4, od4, .func (PySem.W.fnOf "root_blocks_of" "root_blocks_of" (defArgs s_root_blocks_of) (defBody s_root_blocks_of) (defScope s_root_blocks_of) .none kV4 dc4 pm4 an4 cd4 ct4), sl4⟩)
    (c4 : PySem.W.codeIn K cd4 "root_blocks_of" = true)
    (k4 : PySem.W.keepIn K (.ref f4) = true)
    (a5 : PySem.W.findIn K (.ref C0) "__init__" = some (some (.ref f5)))
    (i5 : PySem.W.isFn K (.ref f5) = true)
    (l5 : K.lookup f5 = some ⟨oc5, od5, .func (PySem.W.fnOf "__init__" "Disk.__init__" (defArgs s_Disk_mk) (defBody s_Disk_mk) (defScope s_Disk_mk) .none kV5 dc5 pm5 an5 cd5 ct5), sl5⟩)
    (c5 : PySem.W.codeIn K cd5 "Disk.__init__" = true)
    (k5 : PySem.W.keepIn K (.ref f5) = true)
    (mk_Disk : PySem.W.makesIn K C0 = true)
    (kc_Disk : PySem.W.keepIn K (.ref C0) = true)
    (a6 : PySem.W.findIn K (.ref C0) "burn" = some (some (.ref f6)))
    (i6 : PySem.W.isFn K (.ref f6) = true)
    (l6 : K.lookup f6 = some ⟨oc6, od6, .func (PySem.W.fnOf "burn" "Disk.burn" (defArgs s_Disk_burn) (defBody s_Disk_burn) (defScope s_Disk_burn) .none kV6 dc6 pm6 an6 cd6 ct6), sl6⟩)
    (c6 : PySem.W.codeIn K cd6 "Disk.burn" = true)
    (k6 : PySem.W.keepIn K (.ref f6) = true)
    (a7 : PySem.W.findIn K (.ref C0) "force" = some (some (.ref f7)))
    (i7 : PySem.W.isFn K (.ref f7) = true)
    (l7 : K.lookup f7 = some ⟨oc7, od7, .func (PySem.W.fnOf "force" "Disk.force" (defArgs s_Disk_force) (defBody s_Disk_force) (defScope s_Disk_force) .none kV7 dc7 pm7 an7 cd7 ct7), sl7⟩)
    (c7 : PySem.W.codeIn K cd7 "Disk.force" = true)
    (k7 : PySem.W.keepIn K (.ref f7) = true)
    (a8 : PySem.W.findIn K (.ref C0) "need_place" = some (some (.ref f8)))
    (i8 : PySem.W.isFn K (.ref f8) = true)
    (l8 : K.lookup f8 = some ⟨oc8, od8, .func (PySem.W.fnOf "need_place" "Disk.need_place" (defArgs s_Disk_need_place) (defBody s_Disk_need_place) (defScope s_Disk_need_place) .none kV8 dc8 pm8 an8 cd8 ct8), sl8⟩)
    (c8 : PySem.W.codeIn K cd8 "Disk.need_place" = true)
    (k8 : PySem.W.keepIn K (.ref f8) = true)
    (a9 : PySem.W.nsIn K mainGlobals "is_word" = some (some (.ref f9)))
    (l9 : K.lookup f9 = some ⟨oc9, od9, .func (PySem.W.fnOf "is_word" "is_word" (defArgs s_is_word) (defBody s_is_word) (defScope s_is_word) .none kV9 dc9 pm9 an9 cd9 ct9), sl9⟩)
    (c9 : PySem.W.codeIn K cd9 "is_word" = true)
    (k9 : PySem.W.keepIn K (.ref f9) = true)
    (a10 : PySem.W.nsIn K mainGlobals "are_words" = some (some (.ref f10)))
    (l10 : K.lookup f10 = some ⟨oc10, od10, .func (PySem.W.fnOf "are_words" "are_words" (defArgs s_are_words) (defBody s_are_words) (defScope s_are_words) .none kV10 dc10 pm10 an10 cd10 ct10), sl10⟩)
    (c10 : PySem.W.codeIn K cd10 "are_words" = true)
    (k10 : PySem.W.keepIn K (.ref f10) = true)
    (a11 : PySem.W.nsIn K mainGlobals "is_block" = some (some (.ref f11)))
    (l11 : K.lookup f11 = some ⟨oc11, od11, .func (PySem.W.fnOf "is_block" "is_block" (defArgs s_is_block) (defBody s_is_block) (defScope s_is_block) .none kV11 dc11 pm11 an11 cd11 ct11), sl11⟩)
    (c11 : PySem.W.codeIn K cd11 "is_block" = true)
    (k11 : PySem.W.keepIn K (.ref f11) = true)
    (a12 : PySem.W.findIn K (.ref C0) "write" = some (some (.ref f12)))
    (i12 : PySem.W.isFn K (.ref f12) = true)
    (l12 : K.lookup f12 = some ⟨oc12, od12, .func (PySem.W.fnOf "write" "Disk.write" (defArgs s_Disk_write) (defBody s_Disk_write) (defScope s_Disk_write) .none kV12 dc12 pm12 an12 cd12 ct12), sl12⟩)
    (c12 : PySem.W.codeIn K cd12 "Disk.write" = true)
    (k12 : PySem.W.keepIn K (.ref f12) = true)
    (a13 : PySem.W.nsIn K mainGlobals "_law_many" = some (some (.ref f13)))
    (l13 : K.lookup f13 = some ⟨oc13, od13, .func (PySem.W.fnOf "_law_many" "_law_many" (defArgs s_law_many) (defBody s_law_many) (defScope s_law_many) .none kV13 dc13 pm13 an13 cd13 ct13), sl13⟩)
    (c13 : PySem.W.codeIn K cd13 "_law_many" = true)
    (k13 : PySem.W.keepIn K (.ref f13) = true)
    (a14 : PySem.W.nsIn K mainGlobals "_law_blank" = some (some (.ref f14)))
    (l14 : K.lookup f14 = some ⟨oc14, od14, .func (PySem.W.fnOf "_law_blank" "_law_blank" (defArgs s_law_blank) (defBody s_law_blank) (defScope s_law_blank) .none kV14 dc14 pm14 an14 cd14 ct14), sl14⟩)
    (c14 : PySem.W.codeIn K cd14 "_law_blank" = true)
    (k14 : PySem.W.keepIn K (.ref f14) = true)
    (a15 : PySem.W.nsIn K mainGlobals "_law_draw" = some (some (.ref f15)))
    (l15 : K.lookup f15 = some ⟨oc15, od15, .func (PySem.W.fnOf "_law_draw" "_law_draw" (defArgs s_law_draw) (defBody s_law_draw) (defScope s_law_draw) .none kV15 dc15 pm15 an15 cd15 ct15), sl15⟩)
    (c15 : PySem.W.codeIn K cd15 "_law_draw" = true)
    (k15 : PySem.W.keepIn K (.ref f15) = true)
    (a16 : PySem.W.nsIn K mainGlobals "_law_pick" = some (some (.ref f16)))
    (l16 : K.lookup f16 = some ⟨oc16, od16, .func (PySem.W.fnOf "_law_pick" "_law_pick" (defArgs s_law_pick) (defBody s_law_pick) (defScope s_law_pick) .none kV16 dc16 pm16 an16 cd16 ct16), sl16⟩)
    (c16 : PySem.W.codeIn K cd16 "_law_pick" = true)
    (k16 : PySem.W.keepIn K (.ref f16) = true)
    (a17 : PySem.W.nsIn K mainGlobals "_law_word" = some (some (.ref f17)))
    (l17 : K.lookup f17 = some ⟨oc17, od17, .func (PySem.W.fnOf "_law_word" "_law_word" (defArgs s_law_word) (defBody s_law_word) (defScope s_law_word) .none kV17 dc17 pm17 an17 cd17 ct17), sl17⟩)
    (c17 : PySem.W.codeIn K cd17 "_law_word" = true)
    (k17 : PySem.W.keepIn K (.ref f17) = true)
    (a18 : PySem.W.nsIn K mainGlobals "_law_content" = some (some (.ref f18)))
    (l18 : K.lookup f18 = some ⟨oc18, od18, .func (PySem.W.fnOf "_law_content" "_law_content" (defArgs s_law_content) (defBody s_law_content) (defScope s_law_content) .none kV18 dc18 pm18 an18 cd18 ct18), sl18⟩)
    (c18 : PySem.W.codeIn K cd18 "_law_content" = true)
    (k18 : PySem.W.keepIn K (.ref f18) = true)
    (a19 : PySem.W.nsIn K mainGlobals "_law_data" = some (some (.ref f19)))
    (l19 : K.lookup f19 = some ⟨oc19, od19, .func (PySem.W.fnOf "_law_data" "_law_data" (defArgs s_law_data) (defBody s_law_data) (defScope s_law_data) .none kV19 dc19 pm19 an19 cd19 ct19), sl19⟩)
    (c19 : PySem.W.codeIn K cd19 "_law_data" = true)
    (k19 : PySem.W.keepIn K (.ref f19) = true)
    (a20 : PySem.W.nsIn K mainGlobals "_law_deck" = some (some (.ref f20)))
    (l20 : K.lookup f20 = some ⟨oc20, od20, .func (PySem.W.fnOf "_law_deck" "_law_deck" (defArgs s_law_deck) (defBody s_law_deck) (defScope s_law_deck) .none kV20 dc20 pm20 an20 cd20 ct20), sl20⟩)
    (c20 : PySem.W.codeIn K cd20 "_law_deck" = true)
    (k20 : PySem.W.keepIn K (.ref f20) = true)
    (a21 : PySem.W.nsIn K mainGlobals "_law_sizes" = some (some (.ref f21)))
    (l21 : K.lookup f21 = some ⟨oc21, od21, .func (PySem.W.fnOf "_law_sizes" "_law_sizes" (defArgs s_law_sizes) (defBody s_law_sizes) (defScope s_law_sizes) .none kV21 dc21 pm21 an21 cd21 ct21), sl21⟩)
    (c21 : PySem.W.codeIn K cd21 "_law_sizes" = true)
    (k21 : PySem.W.keepIn K (.ref f21) = true)
    (a22 : PySem.W.nsIn K mainGlobals "_law_drawn_sizes" = some (some (.ref f22)))
    (l22 : K.lookup f22 = some ⟨oc22, od22, .func (PySem.W.fnOf "_law_drawn_sizes" "_law_drawn_sizes" (defArgs s_law_drawn_sizes) (defBody s_law_drawn_sizes) (defScope s_law_drawn_sizes) .none kV22 dc22 pm22 an22 cd22 ct22), sl22⟩)
    (c22 : PySem.W.codeIn K cd22 "_law_drawn_sizes" = true)
    (k22 : PySem.W.keepIn K (.ref f22) = true)
    (a23 : PySem.W.nsIn K mainGlobals "_law_forced" = some (some (.ref f23)))
    (l23 : K.lookup f23 = some ⟨oc23, od23, .func (PySem.W.fnOf "_law_forced" "_law_forced" (defArgs s_law_forced) (defBody s_law_forced) (defScope s_law_forced) .none kV23 dc23 pm23 an23 cd23 ct23), sl23⟩)
    (c23 : PySem.W.codeIn K cd23 "_law_forced" = true)
    (k23 : PySem.W.keepIn K (.ref f23) = true)
    (a24 : PySem.W.nsIn K mainGlobals "_law_place" = some (some (.ref f24)))
    (l24 : K.lookup f24 = some ⟨oc24, od24, .func (PySem.W.fnOf "_law_place" "_law_place" (defArgs s_law_place) (defBody s_law_place) (defScope s_law_place) .none kV24 dc24 pm24 an24 cd24 ct24), sl24⟩)
    (c24 : PySem.W.codeIn K cd24 "_law_place" = true)
    (k24 : PySem.W.keepIn K (.ref f24) = true)
    (a25 : PySem.W.nsIn K mainGlobals "_law_read" = some (some (.ref f25)))
    (l25 : K.lookup f25 = some ⟨oc25, od25, .func (PySem.W.fnOf "_law_read" "_law_read" (defArgs s_law_read) (defBody s_law_read) (defScope s_law_read) .none kV25 dc25 pm25 an25 cd25 ct25), sl25⟩)
    (c25 : PySem.W.codeIn K cd25 "_law_read" = true)
    (k25 : PySem.W.keepIn K (.ref f25) = true)
    (a26 : PySem.W.nsIn K mainGlobals "_law_from" = some (some (.ref f26)))
    (l26 : K.lookup f26 = some ⟨oc26, od26, .func (PySem.W.fnOf "_law_from" "_law_from" (defArgs s_law_from) (defBody s_law_from) (defScope s_law_from) .none kV26 dc26 pm26 an26 cd26 ct26), sl26⟩)
    (c26 : PySem.W.codeIn K cd26 "_law_from" = true)
    (k26 : PySem.W.keepIn K (.ref f26) = true)
    (a27 : PySem.W.nsIn K mainGlobals "_law_group_told" = some (some (.ref f27)))
    (l27 : K.lookup f27 = some ⟨oc27, od27, .func (PySem.W.fnOf "_law_group_told" "_law_group_told" (defArgs s_law_group_told) (defBody s_law_group_told) (defScope s_law_group_told) .none kV27 dc27 pm27 an27 cd27 ct27), sl27⟩)
    (c27 : PySem.W.codeIn K cd27 "_law_group_told" = true)
    (k27 : PySem.W.keepIn K (.ref f27) = true)
    (a28 : PySem.W.nsIn K mainGlobals "_law_keys" = some (some (.ref f28)))
    (l28 : K.lookup f28 = some ⟨oc28, od28, .func (PySem.W.fnOf "_law_keys" "_law_keys" (defArgs s_law_keys) (defBody s_law_keys) (defScope s_law_keys) .none kV28 dc28 pm28 an28 cd28 ct28), sl28⟩)
    (c28 : PySem.W.codeIn K cd28 "_law_keys" = true)
    (k28 : PySem.W.keepIn K (.ref f28) = true)
    (a29 : PySem.W.nsIn K mainGlobals "_law_some_keys" = some (some (.ref f29)))
    (l29 : K.lookup f29 = some ⟨oc29, od29, .func (PySem.W.fnOf "_law_some_keys" "_law_some_keys" (defArgs s_law_some_keys) (defBody s_law_some_keys) (defScope s_law_some_keys) .none kV29 dc29 pm29 an29 cd29 ct29), sl29⟩)
    (c29 : PySem.W.codeIn K cd29 "_law_some_keys" = true)
    (k29 : PySem.W.keepIn K (.ref f29) = true)
    (a30 : PySem.W.nsIn K mainGlobals "_law_some_summary" = some (some (.ref f30)))
    (l30 : K.lookup f30 = some ⟨oc30, od30, .func (PySem.W.fnOf "_law_some_summary" "_law_some_summary" (defArgs s_law_some_summary) (defBody s_law_some_summary) (defScope s_law_some_summary) .none kV30 dc30 pm30 an30 cd30 ct30), sl30⟩)
    (c30 : PySem.W.codeIn K cd30 "_law_some_summary" = true)
    (k30 : PySem.W.keepIn K (.ref f30) = true)
    (a31 : PySem.W.findIn K (.ref C0) "read" = some (some (.ref f31)))
    (i31 : PySem.W.isFn K (.ref f31) = true)
    (l31 : K.lookup f31 = some ⟨oc31, od31, .func (PySem.W.fnOf "read" "Disk.read" (defArgs s_Disk_read) (defBody s_Disk_read) (defScope s_Disk_read) .none kV31 dc31 pm31 an31 cd31 ct31), sl31⟩)
    (c31 : PySem.W.codeIn K cd31 "Disk.read" = true)
    (k31 : PySem.W.keepIn K (.ref f31) = true)
    (a32 : PySem.W.nsIn K mainGlobals "is_data_of" = some (some (.ref f32)))
    (l32 : K.lookup f32 = some ⟨oc32, od32, .func (PySem.W.fnOf "is_data_of" "is_data_of" (defArgs s_is_data_of) (defBody s_is_data_of) (defScope s_is_data_of) .none kV32 dc32 pm32 an32 cd32 ct32), sl32⟩)
    (c32 : PySem.W.codeIn K cd32 "is_data_of" = true)
    (k32 : PySem.W.keepIn K (.ref f32) = true)
    (a33 : PySem.W.nsIn K mainGlobals "place_raw" = some (some (.ref f33)))
    (l33 : K.lookup f33 = some ⟨oc33, od33, .func (PySem.W.fnOf "place_raw" "place_raw" (defArgs s_place_raw) (defBody s_place_raw) (defScope s_place_raw) .none kV33 dc33 pm33 an33 cd33 ct33), sl33⟩)
    (c33 : PySem.W.codeIn K cd33 "place_raw" = true)
    (k33 : PySem.W.keepIn K (.ref f33) = true)
    (a34 : PySem.W.nsIn K mainGlobals "are_rising" = some (some (.ref f34)))
    (l34 : K.lookup f34 = some ⟨oc34, od34, .func (PySem.W.fnOf "are_rising" "are_rising" (defArgs s_are_rising) (defBody s_are_rising) (defScope s_are_rising) .none kV34 dc34 pm34 an34 cd34 ct34), sl34⟩)
    (c34 : PySem.W.codeIn K cd34 "are_rising" = true)
    (k34 : PySem.W.keepIn K (.ref f34) = true)
    (a35 : PySem.W.nsIn K mainGlobals "are_keys_of" = some (some (.ref f35)))
    (l35 : K.lookup f35 = some ⟨oc35, od35, .func (PySem.W.fnOf "are_keys_of" "are_keys_of" (defArgs s_are_keys_of) (defBody s_are_keys_of) (defScope s_are_keys_of) .none kV35 dc35 pm35 an35 cd35 ct35), sl35⟩)
    (c35 : PySem.W.codeIn K cd35 "are_keys_of" = true)
    (k35 : PySem.W.keepIn K (.ref f35) = true)
    (a36 : PySem.W.nsIn K mainGlobals "told_by" = some (some (.ref f36)))
    (l36 : K.lookup f36 = some ⟨oc36, od36, .func (PySem.W.fnOf "told_by" "told_by" (defArgs s_told_by) (defBody s_told_by) (defScope s_told_by) .none kV36 dc36 pm36 an36 cd36 ct36), sl36⟩)
    (c36 : PySem.W.codeIn K cd36 "told_by" = true)
    (k36 : PySem.W.keepIn K (.ref f36) = true)
    (a37 : PySem.W.nsIn K mainGlobals "group_at" = some (some (.ref f37)))
    (l37 : K.lookup f37 = some ⟨oc37, od37, .func (PySem.W.fnOf "group_at" "group_at" (defArgs s_group_at) (defBody s_group_at) (defScope s_group_at) .none kV37 dc37 pm37 an37 cd37 ct37), sl37⟩)
    (c37 : PySem.W.codeIn K cd37 "group_at" = true)
    (k37 : PySem.W.keepIn K (.ref f37) = true)
    (a38 : PySem.W.nsIn K mainGlobals "need_disk" = some (some (.ref f38)))
    (l38 : K.lookup f38 = some ⟨oc38, od38, .func (PySem.W.fnOf "need_disk" "need_disk" (defArgs s_need_disk) (defBody s_need_disk) (defScope s_need_disk) .none kV38 dc38 pm38 an38 cd38 ct38), sl38⟩)
    (c38 : PySem.W.codeIn K cd38 "need_disk" = true)
    (k38 : PySem.W.keepIn K (.ref f38) = true)
    (a39 : PySem.W.nsIn K mainGlobals "place_at" = some (some (.ref f39)))
    (l39 : K.lookup f39 = some ⟨oc39, od39, .func (PySem.W.fnOf "place_at" "place_at" (defArgs s_place_at) (defBody s_place_at) (defScope s_place_at) .none kV39 dc39 pm39 an39 cd39 ct39), sl39⟩)
    (c39 : PySem.W.codeIn K cd39 "place_at" = true)
    (k39 : PySem.W.keepIn K (.ref f39) = true)
    (a40 : PySem.W.nsIn K mainGlobals "judge_group" = some (some (.ref f40)))
    (l40 : K.lookup f40 = some ⟨oc40, od40, .func (PySem.W.fnOf "judge_group" "judge_group" (defArgs s_judge_group) (defBody s_judge_group) (defScope s_judge_group) .none kV40 dc40 pm40 an40 cd40 ct40), sl40⟩)
    (c40 : PySem.W.codeIn K cd40 "judge_group" = true)
    (k40 : PySem.W.keepIn K (.ref f40) = true)
    (a41 : PySem.W.nsIn K mainGlobals "law" = some (some (.ref f41)))
    (l41 : K.lookup f41 = some ⟨oc41, od41, .func (PySem.W.fnOf "law" "law" (defArgs s_law) (defBody s_law) (defScope s_law) .none kV41 dc41 pm41 an41 cd41 ct41), sl41⟩)
    (c41 : PySem.W.codeIn K cd41 "law" = true)
    (k41 : PySem.W.keepIn K (.ref f41) = true) :
    ∃ (fd : FuncData) (kx : Kx) (ts : List (Addr × List Int)), Held K h ts ∧ (kx.cs = ts.map fun p => (V.ref p.1, Dv.tup (p.2.map Dv.int))) ∧ (∀ (s : Shared) (v : Value), BindsTo s fd ⟨[v], []⟩ [("script", v)]) ∧
      ∀ base : Heap, K.In base → base.Ns mainGlobals mg → FnM l.prog w K kx mg base 7 fa fd ["script"] m_law := by
  subst hlw
  have L := L0
  obtain ⟨t0, h_BLANK⟩ := loose_tup (K := K) (x := "BLANK") (ns := ns_BLANK) L (by decide +kernel) (by rw [show ns_BLANK.length = 32 from rfl, ← big_line]; decide)
  let kx : Kx := ⟨fun n => [C0].getD n 0, ([(t0, ns_BLANK)] : List (Addr × List Int)).map fun p => (V.ref p.1, Dv.tup (p.2.map Dv.int))⟩
  have T : Tx K kx mg := ⟨
    PySem.W.mg_none_of kin hns zb_all,
    PySem.W.mg_none_of kin hns zb_any,
    PySem.W.mg_none_of kin hns zb_bool,
    PySem.W.mg_none_of kin hns zb_enumerate,
    PySem.W.mg_none_of kin hns zb_int,
    PySem.W.mg_none_of kin hns zb_isinstance,
    PySem.W.mg_none_of kin hns zb_len,
    PySem.W.mg_none_of kin hns zb_list,
    PySem.W.mg_none_of kin hns zb_max,
    PySem.W.mg_none_of kin hns zb_min,
    PySem.W.mg_none_of kin hns zb_range,
    PySem.W.mg_none_of kin hns zb_repr,
    PySem.W.mg_none_of kin hns zb_sorted,
    PySem.W.mg_none_of kin hns zb_tuple,
    PySem.W.mg_none_of kin hns zb_zip,
    ⟨_, h_BLANK.1, .head _⟩,
    ⟨_, PySem.W.mg_of kin hns zc_CONTENT⟩,
    ⟨_, PySem.W.mg_of kin hns zc_DATA⟩,
    ⟨_, PySem.W.mg_of kin hns zc_FIRST_KEY⟩,
    ⟨_, PySem.W.mg_of kin hns zc_LEAST_BLOCKS⟩,
    ⟨_, PySem.W.mg_of kin hns zc_LEAST_SEGMENTS⟩,
    ⟨_, PySem.W.mg_of kin hns zc_MOST_BLOCKS⟩,
    ⟨_, PySem.W.mg_of kin hns zc_MOST_KEYS⟩,
    ⟨_, PySem.W.mg_of kin hns zc_MOST_SEGMENTS⟩,
    loose_int L (by decide +kernel),
    ⟨_, PySem.W.mg_of kin hns zc_ROOT_WORDS⟩,
    ⟨_, PySem.W.mg_of kin hns zc_SPARE_SEGMENTS⟩,
    ⟨_, PySem.W.mg_of kin hns zc_SUMMARY⟩,
    ⟨_, PySem.W.mg_of kin hns zc_WORDS⟩,
    ⟨pg_Disk, hd_Disk, po_Disk, sa_Disk⟩,
    fok1 ⟨pg_Disk, hd_Disk, po_Disk, sa_Disk⟩ na_Disk_blocks,
    fok1 ⟨pg_Disk, hd_Disk, po_Disk, sa_Disk⟩ na_Disk_k,
    fok1 ⟨pg_Disk, hd_Disk, po_Disk, sa_Disk⟩ na_Disk_left,
    fok1 ⟨pg_Disk, hd_Disk, po_Disk, sa_Disk⟩ na_Disk_n,
    fok1 ⟨pg_Disk, hd_Disk, po_Disk, sa_Disk⟩ na_Disk_newest,
    fok1 ⟨pg_Disk, hd_Disk, po_Disk, sa_Disk⟩ na_Disk_queue,
    fok1 ⟨pg_Disk, hd_Disk, po_Disk, sa_Disk⟩ na_Disk_r,
    fok1 ⟨pg_Disk, hd_Disk, po_Disk, sa_Disk⟩ na_Disk_s,
    ⟨⟨pg_Disk, hd_Disk, po_Disk, sa_Disk⟩, iha_Disk, ihn_Disk, iht_Disk, ihm_Disk, kit_own⟩,
    PySem.W.mg_of kin hns aC_Disk,
    ⟨_, _, fun_mk (st := s_is_integer) l0 c0 k0, PySem.W.mg_of kin hns a0⟩,
    ⟨_, _, fun_mk (st := s_is_between) l1 c1 k1, PySem.W.mg_of kin hns a1⟩,
    ⟨_, _, fun_mk (st := s_need_sizes) l2 c2 k2, PySem.W.mg_of kin hns a2⟩,
    ⟨_, _, fun_mk (st := s_room_of) l3 c3 k3, PySem.W.mg_of kin hns a3⟩,
    ⟨_, _, fun_mk (st := s_root_blocks_of) l4 c4 k4, PySem.W.mg_of kin hns a4⟩,
    ⟨_, _, fun_mk (st := s_Disk_mk) l5 c5 k5, ⟨mk_Disk, a5, i5, kc_Disk⟩, PySem.W.mg_of kin hns aC_Disk⟩,
    ⟨_, _, fun_mk (st := s_Disk_burn) l6 c6 k6, ⟨a6, i6, k6⟩⟩,
    ⟨_, _, fun_mk (st := s_Disk_force) l7 c7 k7, ⟨a7, i7, k7⟩⟩,
    ⟨_, _, fun_mk (st := s_Disk_need_place) l8 c8 k8, ⟨a8, i8, k8⟩⟩,
    ⟨_, _, fun_mk (st := s_is_word) l9 c9 k9, PySem.W.mg_of kin hns a9⟩,
    ⟨_, _, fun_mk (st := s_are_words) l10 c10 k10, PySem.W.mg_of kin hns a10⟩,
    ⟨_, _, fun_mk (st := s_is_block) l11 c11 k11, PySem.W.mg_of kin hns a11⟩,
    ⟨_, _, fun_mk (st := s_Disk_write) l12 c12 k12, ⟨a12, i12, k12⟩⟩,
    ⟨_, _, fun_mk (st := s_law_many) l13 c13 k13, PySem.W.mg_of kin hns a13⟩,
    ⟨_, _, fun_mk (st := s_law_blank) l14 c14 k14, PySem.W.mg_of kin hns a14⟩,
    ⟨_, _, fun_mk (st := s_law_draw) l15 c15 k15, PySem.W.mg_of kin hns a15⟩,
    ⟨_, _, fun_mk (st := s_law_pick) l16 c16 k16, PySem.W.mg_of kin hns a16⟩,
    ⟨_, _, fun_mk (st := s_law_word) l17 c17 k17, PySem.W.mg_of kin hns a17⟩,
    ⟨_, _, fun_mk (st := s_law_content) l18 c18 k18, PySem.W.mg_of kin hns a18⟩,
    ⟨_, _, fun_mk (st := s_law_data) l19 c19 k19, PySem.W.mg_of kin hns a19⟩,
    ⟨_, _, fun_mk (st := s_law_deck) l20 c20 k20, PySem.W.mg_of kin hns a20⟩,
    ⟨_, _, fun_mk (st := s_law_sizes) l21 c21 k21, PySem.W.mg_of kin hns a21⟩,
    ⟨_, _, fun_mk (st := s_law_drawn_sizes) l22 c22 k22, PySem.W.mg_of kin hns a22⟩,
    ⟨_, _, fun_mk (st := s_law_forced) l23 c23 k23, PySem.W.mg_of kin hns a23⟩,
    ⟨_, _, fun_mk (st := s_law_place) l24 c24 k24, PySem.W.mg_of kin hns a24⟩,
    ⟨_, _, fun_mk (st := s_law_read) l25 c25 k25, PySem.W.mg_of kin hns a25⟩,
    ⟨_, _, fun_mk (st := s_law_from) l26 c26 k26, PySem.W.mg_of kin hns a26⟩,
    ⟨_, _, fun_mk (st := s_law_group_told) l27 c27 k27, PySem.W.mg_of kin hns a27⟩,
    ⟨_, _, fun_mk (st := s_law_keys) l28 c28 k28, PySem.W.mg_of kin hns a28⟩,
    ⟨_, _, fun_mk (st := s_law_some_keys) l29 c29 k29, PySem.W.mg_of kin hns a29⟩,
    ⟨_, _, fun_mk (st := s_law_some_summary) l30 c30 k30, PySem.W.mg_of kin hns a30⟩,
    ⟨_, _, fun_mk (st := s_Disk_read) l31 c31 k31, ⟨a31, i31, k31⟩⟩,
    ⟨_, _, fun_mk (st := s_is_data_of) l32 c32 k32, PySem.W.mg_of kin hns a32⟩,
    ⟨_, _, fun_mk (st := s_place_raw) l33 c33 k33, PySem.W.mg_of kin hns a33⟩,
    ⟨_, _, fun_mk (st := s_are_rising) l34 c34 k34, PySem.W.mg_of kin hns a34⟩,
    ⟨_, _, fun_mk (st := s_are_keys_of) l35 c35 k35, PySem.W.mg_of kin hns a35⟩,
    ⟨_, _, fun_mk (st := s_told_by) l36 c36 k36, PySem.W.mg_of kin hns a36⟩,
    ⟨_, _, fun_mk (st := s_group_at) l37 c37 k37, PySem.W.mg_of kin hns a37⟩,
    ⟨_, _, fun_mk (st := s_need_disk) l38 c38 k38, PySem.W.mg_of kin hns a38⟩,
    ⟨_, _, fun_mk (st := s_place_at) l39 c39 k39, PySem.W.mg_of kin hns a39⟩,
    ⟨_, _, fun_mk (st := s_judge_group) l40 c40 k40, PySem.W.mg_of kin hns a40⟩,
    ⟨_, _, fun_mk (st := s_law) l41 c41 k41, PySem.W.mg_of kin hns a41⟩⟩
  have e := hfa.symm.trans (PySem.W.mg_of kin hns a41)
  cases e
  refine ⟨PySem.W.fnOf "law" "law" (defArgs s_law) (defBody s_law) (defScope s_law) .none kV41 dc41 pm41 an41 cd41 ct41, kx, [(t0, ns_BLANK)], h_BLANK.2, rfl, fun s v => .of_eq rfl, fun base _ _ => ?_⟩
  exact fn_m (fun_mk (st := s_law) l41 c41 k41) sc_law rfl (d_law T _)
theorem walk {l : PySem.W.OpenLaw} {q lq : Program} {loose : List Str} {YP : World → Heap → Prop} {d : DefRec} {K : Params → PySem.W.Frag} {lw : List (Str × PySem.W.WData)} (hn : l.most = some 63) (hdf : d.params.defaults = [])
    (hY : ∀ w h, YP w h → (K w.params).In h)
    (F : ∀ (w : World) (mg : Str → Option Value) (fa : Addr) (h : Heap), (K w.params).In h → h.Ns mainGlobals mg → mg d.name = some (.ref fa) → PySem.W.LooseAre lw mg h →
      ∃ (fd : FuncData) (kx : Kx) (ts : List (Addr × List Int)), Held (K w.params) h ts ∧ (kx.cs = ts.map fun p => (V.ref p.1, Dv.tup (p.2.map Dv.int))) ∧ (∀ (s : Shared) (v : Value), BindsTo s fd ⟨[v], []⟩ [("script", v)]) ∧
        ∀ base : Heap, (K w.params).In base → base.Ns mainGlobals mg → FnM l.prog w (K w.params) kx mg base 7 fa fd ["script"] m_law)
    (run : ∀ ns : List Int, ns.length ≤ 63 → ∃ G', m_law [.scr ns] [] = some (.bl true, G')) :
    PySem.W.WalkO q loose (PySem.W.XL lq lw) YP l.row.toRowW d [] (fun f vs => PySem.call f vs) :=
  walk_m (n := 63) (k := 7) (x := "script") hn (by decide) hdf ⟨rfl, by decide, by decide⟩ hY F run
end Lw



namespace Lw
open Mi (Dv MO Sto Sl Rs bnd ME MT MA MS MF Fl MG MGs MI)
theorem is_integer_int (i : Int) (G : Sto) : m_is_integer [.int i] G = some (.bl true, G) := by
  simp only [Mi.bnd, Mi.mVar, Mi.mC, Mi.mkL, Mi.m2, Mi.m1, Mi.uNeg, Mi.bAdd, Mi.bSub, Mi.bDiv, Mi.bMod, Mi.bPow, Mi.sEq, Mi.bEq, Mi.bCmp, Mi.bLt, Mi.bLe, Mi.bGt, Mi.bGe, Mi.isNon, Mi.mIsN, Mi.mChain, Mi.mAnd, Mi.mOr, Mi.mNot, Mi.mTb, Mi.mTand, Mi.mTor, Mi.mTnot, Mi.mIf, Mi.mNil, Mi.mCons, Mi.mTup, Mi.mLst, Mi.mB, Mi.kOf, Mi.mFld, Mi.mCall, Mi.mCallK, Mi.mMeth, Mi.mMethK, Mi.mDef, Mi.fInt, Mi.fMax, Mi.fMin, Mi.isI, Mi.mIsI, Ms.mIsC, Mi.gNm, Mi.gNil, Mi.gCons, Mi.gTup, Mi.mSeq, Mi.mSkip, Mi.mBrk, Mi.mCont, Mi.mAsg, Mi.mPar, Mi.mExpr, Mi.mRet, Mi.mRetN, Mi.mIfS, Mi.tYes, Mi.wipe, Ms.mDct0, Ms.bAddI, List.map_cons, List.map_nil, List.nil_append, List.cons_append, List.length_cons, List.length_nil, List.replicate_succ, List.replicate_zero, List.getElem?_cons_zero, List.getElem?_cons_succ, List.getElem?_nil, List.set_cons_zero, List.set_cons_succ, Option.map_some, Option.map_none, if_true, if_false, reduceIte, decide_true, decide_false, Nat.reduceAdd, Nat.reduceLeDiff, List.mem_cons, List.mem_singleton, true_or, or_true, true_and, and_true, bne_self_eq_false, Bool.not_true, Bool.not_false, reduceCtorEq, Nat.reduceEqDiff, beq_self_eq_true, Nat.reduceLT, Int.reduceLT, Int.reduceLE, Int.reduceToNat, Int.reduceAdd, Int.reduceSub, Int.reduceMul, Int.reduceNeg, String.reduceEq, String.reduceBEq, List.lookup_cons, List.lookup_nil, Mi.big, Mi.putF, List.length_append, List.append_assoc, ite_true, ite_false, Bool.false_eq_true, and_self, not_true_eq_false, not_false_eq_true, Sum.inr.injEq, Sum.inl.injEq, Mi.look, Mi.put, List.any_cons, List.any_nil, Bool.or_true, Bool.or_false, Bool.true_or, Bool.false_or, List.find?_cons, Option.getD_some, Option.getD_none, Bool.bne_false, Bool.false_bne, Bool.true_bne, Bool.bne_true, Int.reduceEq, Int.reducePow, m_is_integer, b_is_integer] <;> rfl
theorem is_between_int (i a b : Int) (G : Sto) : m_is_between [.int i, .int a, .int b] G = some (.bl (decide (a ≤ i ∧ i ≤ b)), G) := by
  simp only [Mi.bnd, Mi.mVar, Mi.mC, Mi.mkL, Mi.m2, Mi.m1, Mi.uNeg, Mi.bAdd, Mi.bSub, Mi.bDiv, Mi.bMod, Mi.bPow, Mi.sEq, Mi.bEq, Mi.bCmp, Mi.bLt, Mi.bLe, Mi.bGt, Mi.bGe, Mi.isNon, Mi.mIsN, Mi.mChain, Mi.mAnd, Mi.mOr, Mi.mNot, Mi.mTb, Mi.mTand, Mi.mTor, Mi.mTnot, Mi.mIf, Mi.mNil, Mi.mCons, Mi.mTup, Mi.mLst, Mi.mB, Mi.kOf, Mi.mFld, Mi.mCall, Mi.mCallK, Mi.mMeth, Mi.mMethK, Mi.mDef, Mi.fInt, Mi.fMax, Mi.fMin, Mi.isI, Mi.mIsI, Ms.mIsC, Mi.gNm, Mi.gNil, Mi.gCons, Mi.gTup, Mi.mSeq, Mi.mSkip, Mi.mBrk, Mi.mCont, Mi.mAsg, Mi.mPar, Mi.mExpr, Mi.mRet, Mi.mRetN, Mi.mIfS, Mi.tYes, Mi.wipe, Ms.mDct0, Ms.bAddI, List.map_cons, List.map_nil, List.nil_append, List.cons_append, List.length_cons, List.length_nil, List.replicate_succ, List.replicate_zero, List.getElem?_cons_zero, List.getElem?_cons_succ, List.getElem?_nil, List.set_cons_zero, List.set_cons_succ, Option.map_some, Option.map_none, if_true, if_false, reduceIte, decide_true, decide_false, Nat.reduceAdd, Nat.reduceLeDiff, List.mem_cons, List.mem_singleton, true_or, or_true, true_and, and_true, bne_self_eq_false, Bool.not_true, Bool.not_false, reduceCtorEq, Nat.reduceEqDiff, beq_self_eq_true, Nat.reduceLT, Int.reduceLT, Int.reduceLE, Int.reduceToNat, Int.reduceAdd, Int.reduceSub, Int.reduceMul, Int.reduceNeg, String.reduceEq, String.reduceBEq, List.lookup_cons, List.lookup_nil, Mi.big, Mi.putF, List.length_append, List.append_assoc, ite_true, ite_false, Bool.false_eq_true, and_self, not_true_eq_false, not_false_eq_true, Sum.inr.injEq, Sum.inl.injEq, Mi.look, Mi.put, List.any_cons, List.any_nil, Bool.or_true, Bool.or_false, Bool.true_or, Bool.false_or, List.find?_cons, Option.getD_some, Option.getD_none, Bool.bne_false, Bool.false_bne, Bool.true_bne, Bool.bne_true, Int.reduceEq, Int.reducePow, m_is_between, b_is_between, is_integer_int]
  by_cases h : a ≤ i <;> simp [h]
theorem need_sizes_ok (s k : Int) (G : Sto) (h1 : 6 ≤ s ∧ s ≤ 40) (h2 : 4 ≤ k ∧ k ≤ 24) : m_need_sizes [.int s, .int k] G = some (.non, G) := by
  simp only [Mi.bnd, Mi.mVar, Mi.mC, Mi.mkL, Mi.m2, Mi.m1, Mi.uNeg, Mi.bAdd, Mi.bSub, Mi.bDiv, Mi.bMod, Mi.bPow, Mi.sEq, Mi.bEq, Mi.bCmp, Mi.bLt, Mi.bLe, Mi.bGt, Mi.bGe, Mi.isNon, Mi.mIsN, Mi.mChain, Mi.mAnd, Mi.mOr, Mi.mNot, Mi.mTb, Mi.mTand, Mi.mTor, Mi.mTnot, Mi.mIf, Mi.mNil, Mi.mCons, Mi.mTup, Mi.mLst, Mi.mB, Mi.kOf, Mi.mFld, Mi.mCall, Mi.mCallK, Mi.mMeth, Mi.mMethK, Mi.mDef, Mi.fInt, Mi.fMax, Mi.fMin, Mi.isI, Mi.mIsI, Ms.mIsC, Mi.gNm, Mi.gNil, Mi.gCons, Mi.gTup, Mi.mSeq, Mi.mSkip, Mi.mBrk, Mi.mCont, Mi.mAsg, Mi.mPar, Mi.mExpr, Mi.mRet, Mi.mRetN, Mi.mIfS, Mi.tYes, Mi.wipe, Ms.mDct0, Ms.bAddI, List.map_cons, List.map_nil, List.nil_append, List.cons_append, List.length_cons, List.length_nil, List.replicate_succ, List.replicate_zero, List.getElem?_cons_zero, List.getElem?_cons_succ, List.getElem?_nil, List.set_cons_zero, List.set_cons_succ, Option.map_some, Option.map_none, if_true, if_false, reduceIte, decide_true, decide_false, Nat.reduceAdd, Nat.reduceLeDiff, List.mem_cons, List.mem_singleton, true_or, or_true, true_and, and_true, bne_self_eq_false, Bool.not_true, Bool.not_false, reduceCtorEq, Nat.reduceEqDiff, beq_self_eq_true, Nat.reduceLT, Int.reduceLT, Int.reduceLE, Int.reduceToNat, Int.reduceAdd, Int.reduceSub, Int.reduceMul, Int.reduceNeg, String.reduceEq, String.reduceBEq, List.lookup_cons, List.lookup_nil, Mi.big, Mi.putF, List.length_append, List.append_assoc, ite_true, ite_false, Bool.false_eq_true, and_self, not_true_eq_false, not_false_eq_true, Sum.inr.injEq, Sum.inl.injEq, Mi.look, Mi.put, List.any_cons, List.any_nil, Bool.or_true, Bool.or_false, Bool.true_or, Bool.false_or, List.find?_cons, Option.getD_some, Option.getD_none, Bool.bne_false, Bool.false_bne, Bool.true_bne, Bool.bne_true, Int.reduceEq, Int.reducePow, m_need_sizes, b_need_sizes, is_between_int, h1, h2]
theorem bMul_small (m : Bool) (a b : Int) (G : Sto) (h : -(2 ^ 64) < b ∧ b < 2 ^ 64) : Mi.bMul m (.int a) (.int b) G = some (.int (a * b), G) := by
  unfold Mi.bMul Mi.okMul
  simp only [h, decide_true, Bool.and_true, Bool.or_true, if_true]
theorem bMul_small' (m : Bool) (a b : Int) (G : Sto) (h : -(2 ^ 64) < a ∧ a < 2 ^ 64) : Mi.bMul m (.int a) (.int b) G = some (.int (a * b), G) := by
  unfold Mi.bMul Mi.okMul
  simp only [h, decide_true, Bool.and_true, Bool.true_or, if_true]
def N' (s k : Int) : Int := (s - 4) * (k - 1)
def R' (s k : Int) : Int := ((s - 4) * (k - 1) + 4 + 28 - 1) / 28
theorem room_of_ok (s k : Int) (G : Sto) (h1 : 6 ≤ s ∧ s ≤ 40) (h2 : 4 ≤ k ∧ k ≤ 24) : m_room_of [.int s, .int k] G = some (.int (N' s k), G) := by
  have := bMul_small false (s - 4) (k - 1) G (by omega)
  simp only [Mi.bnd, Mi.mVar, Mi.mC, Mi.mkL, Mi.m2, Mi.m1, Mi.uNeg, Mi.bAdd, Mi.bSub, Mi.bDiv, Mi.bMod, Mi.bPow, Mi.sEq, Mi.bEq, Mi.bCmp, Mi.bLt, Mi.bLe, Mi.bGt, Mi.bGe, Mi.isNon, Mi.mIsN, Mi.mChain, Mi.mAnd, Mi.mOr, Mi.mNot, Mi.mTb, Mi.mTand, Mi.mTor, Mi.mTnot, Mi.mIf, Mi.mNil, Mi.mCons, Mi.mTup, Mi.mLst, Mi.mB, Mi.kOf, Mi.mFld, Mi.mCall, Mi.mCallK, Mi.mMeth, Mi.mMethK, Mi.mDef, Mi.fInt, Mi.fMax, Mi.fMin, Mi.isI, Mi.mIsI, Ms.mIsC, Mi.gNm, Mi.gNil, Mi.gCons, Mi.gTup, Mi.mSeq, Mi.mSkip, Mi.mBrk, Mi.mCont, Mi.mAsg, Mi.mPar, Mi.mExpr, Mi.mRet, Mi.mRetN, Mi.mIfS, Mi.tYes, Mi.wipe, Ms.mDct0, Ms.bAddI, List.map_cons, List.map_nil, List.nil_append, List.cons_append, List.length_cons, List.length_nil, List.replicate_succ, List.replicate_zero, List.getElem?_cons_zero, List.getElem?_cons_succ, List.getElem?_nil, List.set_cons_zero, List.set_cons_succ, Option.map_some, Option.map_none, if_true, if_false, reduceIte, decide_true, decide_false, Nat.reduceAdd, Nat.reduceLeDiff, List.mem_cons, List.mem_singleton, true_or, or_true, true_and, and_true, bne_self_eq_false, Bool.not_true, Bool.not_false, reduceCtorEq, Nat.reduceEqDiff, beq_self_eq_true, Nat.reduceLT, Int.reduceLT, Int.reduceLE, Int.reduceToNat, Int.reduceAdd, Int.reduceSub, Int.reduceMul, Int.reduceNeg, String.reduceEq, String.reduceBEq, List.lookup_cons, List.lookup_nil, Mi.big, Mi.putF, List.length_append, List.append_assoc, ite_true, ite_false, Bool.false_eq_true, and_self, not_true_eq_false, not_false_eq_true, Sum.inr.injEq, Sum.inl.injEq, Mi.look, Mi.put, List.any_cons, List.any_nil, Bool.or_true, Bool.or_false, Bool.true_or, Bool.false_or, List.find?_cons, Option.getD_some, Option.getD_none, Bool.bne_false, Bool.false_bne, Bool.true_bne, Bool.bne_true, Int.reduceEq, Int.reducePow, m_room_of, b_room_of, this]
  rfl
theorem root_ok (s k : Int) (G : Sto) (h1 : 6 ≤ s ∧ s ≤ 40) (h2 : 4 ≤ k ∧ k ≤ 24) : m_root_blocks_of [.int s, .int k] G = some (.int (R' s k), G) := by
  simp only [Mi.bnd, Mi.mVar, Mi.mC, Mi.mkL, Mi.m2, Mi.m1, Mi.uNeg, Mi.bAdd, Mi.bSub, Mi.bDiv, Mi.bMod, Mi.bPow, Mi.sEq, Mi.bEq, Mi.bCmp, Mi.bLt, Mi.bLe, Mi.bGt, Mi.bGe, Mi.isNon, Mi.mIsN, Mi.mChain, Mi.mAnd, Mi.mOr, Mi.mNot, Mi.mTb, Mi.mTand, Mi.mTor, Mi.mTnot, Mi.mIf, Mi.mNil, Mi.mCons, Mi.mTup, Mi.mLst, Mi.mB, Mi.kOf, Mi.mFld, Mi.mCall, Mi.mCallK, Mi.mMeth, Mi.mMethK, Mi.mDef, Mi.fInt, Mi.fMax, Mi.fMin, Mi.isI, Mi.mIsI, Ms.mIsC, Mi.gNm, Mi.gNil, Mi.gCons, Mi.gTup, Mi.mSeq, Mi.mSkip, Mi.mBrk, Mi.mCont, Mi.mAsg, Mi.mPar, Mi.mExpr, Mi.mRet, Mi.mRetN, Mi.mIfS, Mi.tYes, Mi.wipe, Ms.mDct0, Ms.bAddI, List.map_cons, List.map_nil, List.nil_append, List.cons_append, List.length_cons, List.length_nil, List.replicate_succ, List.replicate_zero, List.getElem?_cons_zero, List.getElem?_cons_succ, List.getElem?_nil, List.set_cons_zero, List.set_cons_succ, Option.map_some, Option.map_none, if_true, if_false, reduceIte, decide_true, decide_false, Nat.reduceAdd, Nat.reduceLeDiff, List.mem_cons, List.mem_singleton, true_or, or_true, true_and, and_true, bne_self_eq_false, Bool.not_true, Bool.not_false, reduceCtorEq, Nat.reduceEqDiff, beq_self_eq_true, Nat.reduceLT, Int.reduceLT, Int.reduceLE, Int.reduceToNat, Int.reduceAdd, Int.reduceSub, Int.reduceMul, Int.reduceNeg, String.reduceEq, String.reduceBEq, List.lookup_cons, List.lookup_nil, Mi.big, Mi.putF, List.length_append, List.append_assoc, ite_true, ite_false, Bool.false_eq_true, and_self, not_true_eq_false, not_false_eq_true, Sum.inr.injEq, Sum.inl.injEq, Mi.look, Mi.put, List.any_cons, List.any_nil, Bool.or_true, Bool.or_false, Bool.true_or, Bool.false_or, List.find?_cons, Option.getD_some, Option.getD_none, Bool.bne_false, Bool.false_bne, Bool.true_bne, Bool.bne_true, Int.reduceEq, Int.reducePow, m_root_blocks_of, b_root_blocks_of, room_of_ok s k G h1 h2]
  rfl
end Lw


namespace Lw
open Mi (Dv MO Sto Sl Rs bnd ME MT MA MS MF Fl MG MGs MI)
theorem get0 {α : Type} (G r : List α) (x : α) : (G ++ x :: r)[G.length]? = some x := by
  rw [List.getElem?_append_right (Nat.le_refl _)]; simp
theorem set0 {α : Type} (G r : List α) (x y : α) : (G ++ x :: r).set G.length y = G ++ y :: r := by
  rw [List.set_append_right _ _ (Nat.le_refl _)]; simp
/-- where the blocks are -/
def Many (s k : Int) : Nat := (2 * R' s k + s * k).toNat
def dfs (s k : Int) (hb hq hn : Nat) (lf : Dv) : List (String × Dv) := [("s", .int s), ("k", .int k), ("n", .int (N' s k)), ("r", .int (R' s k)), ("blocks", .ref hb), ("queue", .ref hq), ("newest", .ref hn), ("left", lf)]
theorem rep1 {α : Type} (n : Nat) (x : α) : (List.replicate n [x]).flatten = List.replicate n x := by
  induction n with
  | zero => rfl
  | succ n ih => rw [List.replicate_succ, List.replicate_succ, List.flatten_cons, ih]; rfl
theorem prodB {s k : Int} (h1 : 6 ≤ s ∧ s ≤ 40) (h2 : 4 ≤ k ∧ k ≤ 24) : 0 < s * k ∧ s * k ≤ 960 ∧ 0 < N' s k ∧ N' s k ≤ 828 := by
  obtain ⟨a, b⟩ := h1
  obtain ⟨c, d⟩ := h2
  refine ⟨Int.mul_pos (by omega) (by omega), ?_, Int.mul_pos (by omega) (by omega), ?_⟩
  · have : s * k ≤ 40 * 24 := Int.mul_le_mul b d (by omega) (by omega)
    omega
  · have : (s - 4) * (k - 1) ≤ 36 * 23 := Int.mul_le_mul (by omega) (by omega) (by omega) (by omega)
    show (s - 4) * (k - 1) ≤ 828
    omega
theorem R'_b {s k : Int} (h1 : 6 ≤ s ∧ s ≤ 40) (h2 : 4 ≤ k ∧ k ≤ 24) : 1 ≤ R' s k ∧ R' s k ≤ 30 := by
  have := prodB h1 h2
  unfold R'
  unfold N' at this
  omega
theorem mk_ok (s k : Int) (G : Sto) (h1 : 6 ≤ s ∧ s ≤ 40) (h2 : 4 ≤ k ∧ k ≤ 24) :
    m_Disk_mk [.ref G.length, .int s, .int k] (G ++ [.ins 0 []]) = some (.non, G ++ [.ins 0 (dfs s k (G.length + 1) (G.length + 2) (G.length + 3) .non), .lst (List.replicate (Many s k) d_BLANK), .lst [], .dct []]) := by
  have e1 := need_sizes_ok s k (G ++ [.ins 0 []]) h1 h2
  have hp := prodB h1 h2
  have hr := R'_b h1 h2
  have c1 : ∀ G, Mi.bMul false (.int 2) (.int (R' s k)) G = some (.int (2 * R' s k), G) := fun G => bMul_small' false _ _ G (by omega)
  have c2 : ∀ G, Mi.bMul false (.int s) (.int k) G = some (.int (s * k), G) := fun G => bMul_small' false _ _ G (by omega)
  have c3 : ∀ G, Mi.bMul true (.fls [d_BLANK]) (.int (2 * R' s k + s * k)) G = some (.ref G.length, G ++ [.lst (List.replicate (Many s k) d_BLANK)]) := fun G => by
    unfold Mi.bMul
    dsimp only
    rw [if_pos ⟨by omega, by omega, by show 1 * (2 * R' s k + s * k).toNat ≤ 16777216; omega⟩, rep1]
    rfl
  simp only [Mi.bnd, Mi.mVar, Mi.mC, Mi.mkL, Mi.m2, Mi.m1, Mi.uNeg, Mi.bAdd, Mi.bSub, Mi.bDiv, Mi.bMod, Mi.bPow, Mi.sEq, Mi.bEq, Mi.bCmp, Mi.bLt, Mi.bLe, Mi.bGt, Mi.bGe, Mi.isNon, Mi.mIsN, Mi.mChain, Mi.mAnd, Mi.mOr, Mi.mNot, Mi.mTb, Mi.mTand, Mi.mTor, Mi.mTnot, Mi.mIf, Mi.mNil, Mi.mCons, Mi.mTup, Mi.mLst, Mi.mB, Mi.kOf, Mi.mFld, Mi.mCall, Mi.mCallK, Mi.mMeth, Mi.mMethK, Mi.mDef, Mi.fInt, Mi.fMax, Mi.fMin, Mi.isI, Mi.mIsI, Ms.mIsC, Mi.gNm, Mi.gNil, Mi.gCons, Mi.gTup, Mi.mSeq, Mi.mSkip, Mi.mBrk, Mi.mCont, Mi.mAsg, Mi.mPar, Mi.mExpr, Mi.mRet, Mi.mRetN, Mi.mIfS, Mi.tYes, Mi.wipe, Ms.mDct0, Ms.bAddI, List.map_cons, List.map_nil, List.nil_append, List.cons_append, List.length_cons, List.length_nil, List.replicate_succ, List.replicate_zero, List.getElem?_cons_zero, List.getElem?_cons_succ, List.getElem?_nil, List.set_cons_zero, List.set_cons_succ, Option.map_some, Option.map_none, if_true, if_false, reduceIte, decide_true, decide_false, Nat.reduceAdd, Nat.reduceLeDiff, List.mem_cons, List.mem_singleton, true_or, or_true, true_and, and_true, bne_self_eq_false, Bool.not_true, Bool.not_false, reduceCtorEq, Nat.reduceEqDiff, beq_self_eq_true, Nat.reduceLT, Int.reduceLT, Int.reduceLE, Int.reduceToNat, Int.reduceAdd, Int.reduceSub, Int.reduceMul, Int.reduceNeg, String.reduceEq, String.reduceBEq, List.lookup_cons, List.lookup_nil, Mi.big, Mi.putF, List.length_append, List.append_assoc, ite_true, ite_false, Bool.false_eq_true, and_self, not_true_eq_false, not_false_eq_true, Sum.inr.injEq, Sum.inl.injEq, Mi.look, Mi.put, List.any_cons, List.any_nil, Bool.or_true, Bool.or_false, Bool.true_or, Bool.false_or, List.find?_cons, Option.getD_some, Option.getD_none, Bool.bne_false, Bool.false_bne, Bool.true_bne, Bool.bne_true, Int.reduceEq, Int.reducePow, m_Disk_mk, b_Disk_mk, e1, Mi.mSetF, get0, set0, Mi.putF, room_of_ok, root_ok, h1, h2, c1, c2, c3]
  rfl
/-- what lies below stays, but for hs -/
structure Sm (hs : List Nat) (G G' : Sto) : Prop where
  le : G.length ≤ G'.length
  at_ : ∀ i, i < G.length → i ∉ hs → G'[i]? = G[i]?
theorem Sm.refl {hs : List Nat} {G : Sto} : Sm hs G G := ⟨Nat.le_refl _, fun _ _ _ => rfl⟩
theorem Sm.trans {hs : List Nat} {G G1 G2 : Sto} (a : Sm hs G G1) (b : Sm hs G1 G2) : Sm hs G G2 := ⟨Nat.le_trans a.le b.le, fun i hi hn => (b.at_ i (Nat.lt_of_lt_of_le hi a.le) hn).trans (a.at_ i hi hn)⟩
theorem Sm.mono {hs hs' : List Nat} {G G' : Sto} (a : Sm hs G G') (h : ∀ i ∈ hs, i ∈ hs') : Sm hs' G G' := ⟨a.le, fun i hi hn => a.at_ i hi fun q => hn (h i q)⟩
theorem Sm.get {hs : List Nat} {G G' : Sto} (a : Sm hs G G') {i : Nat} {o : MO} (hn : i ∉ hs) (e : G[i]? = some o) : G'[i]? = some o := by
  have hi : i < G.length := by
    rcases Nat.lt_or_ge i G.length with q | q
    · exact q
    · rw [List.getElem?_eq_none q] at e; cases e
  rw [a.at_ i hi hn]
  exact e
theorem lt_get {G : Sto} {i : Nat} {o : MO} (e : G[i]? = some o) : i < G.length := by
  rcases Nat.lt_or_ge i G.length with q | q
  · exact q
  · rw [List.getElem?_eq_none q] at e; cases e
theorem sm_set {hs : List Nat} {G : Sto} {i : Nat} {o : MO} (h : i ∈ hs) : Sm hs G (G.set i o) := ⟨by rw [List.length_set]; exact Nat.le_refl _, fun j hj hn => List.getElem?_set_ne (fun e => hn (by rw [← e]; exact h))⟩
theorem sm_app {hs : List Nat} {G r : Sto} : Sm hs G (G ++ r) := ⟨by rw [List.length_append]; omega, fun j hj hn => List.getElem?_append_left hj⟩
theorem set_at {G : Sto} {i : Nat} {o o' : MO} (e : G[i]? = some o) : (G.set i o')[i]? = some o' := List.getElem?_set_self (lt_get e)
/-- the deck -/
structure Dk (hd hc : Nat) (G : Sto) : Prop where
  ne : hd ≠ hc
  ex : ∃ (cs : List Int) (m t : Int), G[hd]? = some (.dct [(.inr "cells", .ref hc), (.inr "mixed", .int m), (.inr "turn", .int t)]) ∧ G[hc]? = some (.lst (cs.map Dv.int)) ∧ cs.length ≤ 63
theorem Dk.sm {hd hc : Nat} {hs : List Nat} {G G' : Sto} (d : Dk hd hc G) (s : Sm hs G G') (h1 : hd ∉ hs) (h2 : hc ∉ hs) : Dk hd hc G' := by
  obtain ⟨cs, m, t, e1, e2, e3⟩ := d.ex
  exact ⟨d.ne, cs, m, t, s.get h1 e1, s.get h2 e2, e3⟩
theorem intsOf_map (cs : List Int) : Mi.intsOf (cs.map Dv.int) = some cs := by
  induction cs with
  | nil => rfl
  | cons c cs ih => rw [List.map_cons]; unfold Mi.intsOf; rw [ih]; rfl
theorem p10 : (Int.natAbs 10 < 2 ^ 64) = True := by decide
theorem draw_ok {hd hc : Nat} {G : Sto} (d : Dk hd hc G) (n : Int) (h1 : 0 < n) (h2 : n < 1073741824) :
    ∃ r G', m_law_draw [.ref hd, .int n] G = some (.int r, G') ∧ 0 ≤ r ∧ r < n ∧ Dk hd hc G' ∧ Sm [hd, hc] G G' ∧ G'.length = G.length := by
  obtain ⟨cs, m, t, e1, e2, e3⟩ := d.ex
  have ne := d.ne
  have ne' : hc ≠ hd := fun z => ne z.symm
  have sq : ∀ (x : Int) G, Mi.bMul false (.int (x % 2147483587)) (.int (x % 2147483587)) G = some (.int (x % 2147483587 * (x % 2147483587)), G) := fun x G => bMul_small false _ _ G (by omega)
  have fin : ∀ (x : Int), 0 ≤ x % n ∧ x % n < n := fun x => ⟨Int.emod_nonneg _ (by omega), Int.emod_lt_of_pos _ h1⟩
  rcases List.eq_nil_or_concat cs with rfl | ⟨cs', c, rfl⟩
  · simp only [Mi.bnd, Mi.mVar, Mi.mC, Mi.mkL, Mi.m2, Mi.m1, Mi.uNeg, Mi.bAdd, Mi.bSub, Mi.bDiv, Mi.bMod, Mi.bPow, Mi.sEq, Mi.bEq, Mi.bCmp, Mi.bLt, Mi.bLe, Mi.bGt, Mi.bGe, Mi.isNon, Mi.mIsN, Mi.mChain, Mi.mAnd, Mi.mOr, Mi.mNot, Mi.mTb, Mi.mTand, Mi.mTor, Mi.mTnot, Mi.mIf, Mi.mNil, Mi.mCons, Mi.mTup, Mi.mLst, Mi.mB, Mi.kOf, Mi.mFld, Mi.mCall, Mi.mCallK, Mi.mMeth, Mi.mMethK, Mi.mDef, Mi.fInt, Mi.fMax, Mi.fMin, Mi.isI, Mi.mIsI, Ms.mIsC, Mi.gNm, Mi.gNil, Mi.gCons, Mi.gTup, Mi.mSeq, Mi.mSkip, Mi.mBrk, Mi.mCont, Mi.mAsg, Mi.mPar, Mi.mExpr, Mi.mRet, Mi.mRetN, Mi.mIfS, Mi.tYes, Mi.wipe, Ms.mDct0, Ms.bAddI, List.map_cons, List.map_nil, List.nil_append, List.cons_append, List.length_cons, List.length_nil, List.replicate_succ, List.replicate_zero, List.getElem?_cons_zero, List.getElem?_cons_succ, List.getElem?_nil, List.set_cons_zero, List.set_cons_succ, Option.map_some, Option.map_none, if_true, if_false, reduceIte, decide_true, decide_false, Nat.reduceAdd, Nat.reduceLeDiff, List.mem_cons, List.mem_singleton, true_or, or_true, true_and, and_true, bne_self_eq_false, Bool.not_true, Bool.not_false, reduceCtorEq, Nat.reduceEqDiff, beq_self_eq_true, Nat.reduceLT, Int.reduceLT, Int.reduceLE, Int.reduceToNat, Int.reduceAdd, Int.reduceSub, Int.reduceMul, Int.reduceNeg, String.reduceEq, String.reduceBEq, List.lookup_cons, List.lookup_nil, Mi.big, Mi.putF, List.length_append, List.append_assoc, ite_true, ite_false, Bool.false_eq_true, and_self, not_true_eq_false, not_false_eq_true, Sum.inr.injEq, Sum.inl.injEq, Mi.look, Mi.put, List.any_cons, List.any_nil, Bool.or_true, Bool.or_false, Bool.true_or, Bool.false_or, List.find?_cons, Option.getD_some, Option.getD_none, Bool.bne_false, Bool.false_bne, Bool.true_bne, Bool.bne_true, Int.reduceEq, Int.reducePow, m_law_draw, b_law_draw, Mi.mSetK, Mi.bSubs, Mi.bGet, e1, e2, set_at e1, bMul_small, bMul_small', sq, List.length_set, Mi.qEq, Mi.lstOf, List.getElem?_set_ne ne, List.getElem?_set_ne ne', Mi.intsOf, Int.reducePow, h1]
    have e1' := set_at (o' := .dct [(.inr "cells", .ref hc), (.inr "mixed", .int m), (.inr "turn", .int (t + 1))]) e1
    refine ⟨_, _, rfl, (fin _).1, (fin _).2, ⟨ne, [], m, t + 1, e1', ?_, e3⟩, sm_set (by simp), List.length_set⟩
    rw [List.getElem?_set_ne ne]
    exact e2
  · rw [List.concat_eq_append, List.map_append, List.map_cons, List.map_nil] at e2
    rw [List.concat_eq_append, List.length_append] at e3
    have q1 : Mi.intsOf (cs'.map Dv.int ++ [Dv.int c]) = some (cs' ++ [c]) := by
      have := intsOf_map (cs' ++ [c])
      rw [List.map_append] at this
      exact this
    have q2 : decide (cs' ++ [c] = []) = false := by simp
    have q3 : (cs'.map Dv.int ++ [Dv.int c]).getLast? = some (.int c) := by simp
    have q4 : (cs'.map Dv.int ++ [Dv.int c]).dropLast = cs'.map Dv.int := by simp
    have q5 : 0 < (if n > 2 then n else 2) ∧ (if n > 2 then n else 2) < 1073741824 := by split <;> omega
    have q6 : (cs'.map Dv.int).length < 16777216 := by rw [List.length_map]; omega
    have sh := set_at (o' := .lst (cs'.map Dv.int)) e2
    have e1' := set_at (o' := .dct [(.inr "cells", .ref hc), (.inr "mixed", .int m), (.inr "turn", .int (t + 1))]) e1
    have e2' : (G.set hd (.dct [(.inr "cells", .ref hc), (.inr "mixed", .int m), (.inr "turn", .int (t + 1))]))[hc]? = some (.lst (cs'.map Dv.int ++ [.int c])) := by rw [List.getElem?_set_ne ne]; exact e2
    have e3' := set_at (o' := .lst (cs'.map Dv.int)) e2'
    have e4' : ((G.set hd (.dct [(.inr "cells", .ref hc), (.inr "mixed", .int m), (.inr "turn", .int (t + 1))])).set hc (.lst (cs'.map Dv.int)))[hd]? = some (.dct [(.inr "cells", .ref hc), (.inr "mixed", .int m), (.inr "turn", .int (t + 1))]) := by rw [List.getElem?_set_ne ne']; exact e1'
    by_cases hc18 : 1000000000000000000 ≤ c
    · simp only [Mi.bnd, Mi.mVar, Mi.mC, Mi.mkL, Mi.m2, Mi.m1, Mi.uNeg, Mi.bAdd, Mi.bSub, Mi.bDiv, Mi.bMod, Mi.bPow, Mi.sEq, Mi.bEq, Mi.bCmp, Mi.bLt, Mi.bLe, Mi.bGt, Mi.bGe, Mi.isNon, Mi.mIsN, Mi.mChain, Mi.mAnd, Mi.mOr, Mi.mNot, Mi.mTb, Mi.mTand, Mi.mTor, Mi.mTnot, Mi.mIf, Mi.mNil, Mi.mCons, Mi.mTup, Mi.mLst, Mi.mB, Mi.kOf, Mi.mFld, Mi.mCall, Mi.mCallK, Mi.mMeth, Mi.mMethK, Mi.mDef, Mi.fInt, Mi.fMax, Mi.fMin, Mi.isI, Mi.mIsI, Ms.mIsC, Mi.gNm, Mi.gNil, Mi.gCons, Mi.gTup, Mi.mSeq, Mi.mSkip, Mi.mBrk, Mi.mCont, Mi.mAsg, Mi.mPar, Mi.mExpr, Mi.mRet, Mi.mRetN, Mi.mIfS, Mi.tYes, Mi.wipe, Ms.mDct0, Ms.bAddI, List.map_cons, List.map_nil, List.nil_append, List.cons_append, List.length_cons, List.length_nil, List.replicate_succ, List.replicate_zero, List.getElem?_cons_zero, List.getElem?_cons_succ, List.getElem?_nil, List.set_cons_zero, List.set_cons_succ, Option.map_some, Option.map_none, if_true, if_false, reduceIte, decide_true, decide_false, Nat.reduceAdd, Nat.reduceLeDiff, List.mem_cons, List.mem_singleton, true_or, or_true, true_and, and_true, bne_self_eq_false, Bool.not_true, Bool.not_false, reduceCtorEq, Nat.reduceEqDiff, beq_self_eq_true, Nat.reduceLT, Int.reduceLT, Int.reduceLE, Int.reduceToNat, Int.reduceAdd, Int.reduceSub, Int.reduceMul, Int.reduceNeg, String.reduceEq, String.reduceBEq, List.lookup_cons, List.lookup_nil, Mi.big, Mi.putF, List.length_append, List.append_assoc, ite_true, ite_false, Bool.false_eq_true, and_self, not_true_eq_false, not_false_eq_true, Sum.inr.injEq, Sum.inl.injEq, Mi.look, Mi.put, List.any_cons, List.any_nil, Bool.or_true, Bool.or_false, Bool.true_or, Bool.false_or, List.find?_cons, Option.getD_some, Option.getD_none, Bool.bne_false, Bool.false_bne, Bool.true_bne, Bool.bne_true, Int.reduceEq, Int.reducePow, m_law_draw, b_law_draw, Mi.mSetK, Mi.bSubs, Mi.bGet, e1, e1', e2', e3', e4', bMul_small, bMul_small', Mi.qEq, Mi.lstOf, Mi.intsOf, Int.reducePow, h1, Mi.mPop, Mi.mAppend, q1, q2, q3, q4, q5, q6, hc18, Bool.false_bne, p10]
      refine ⟨_, _, rfl, (fin _).1, (fin _).2, ⟨ne, cs' ++ [c / (if n > 2 then n else 2)], m, t + 1, ?_, ?_, ?_⟩, ((sm_set (by simp)).trans (sm_set (by simp))).trans (sm_set (by simp)), by simp only [List.length_set]⟩
      · rw [List.getElem?_set_ne ne']
        exact e4'
      · rw [List.map_append]
        exact set_at e3'
      · rw [List.length_append]
        exact e3
    · simp only [Mi.bnd, Mi.mVar, Mi.mC, Mi.mkL, Mi.m2, Mi.m1, Mi.uNeg, Mi.bAdd, Mi.bSub, Mi.bDiv, Mi.bMod, Mi.bPow, Mi.sEq, Mi.bEq, Mi.bCmp, Mi.bLt, Mi.bLe, Mi.bGt, Mi.bGe, Mi.isNon, Mi.mIsN, Mi.mChain, Mi.mAnd, Mi.mOr, Mi.mNot, Mi.mTb, Mi.mTand, Mi.mTor, Mi.mTnot, Mi.mIf, Mi.mNil, Mi.mCons, Mi.mTup, Mi.mLst, Mi.mB, Mi.kOf, Mi.mFld, Mi.mCall, Mi.mCallK, Mi.mMeth, Mi.mMethK, Mi.mDef, Mi.fInt, Mi.fMax, Mi.fMin, Mi.isI, Mi.mIsI, Ms.mIsC, Mi.gNm, Mi.gNil, Mi.gCons, Mi.gTup, Mi.mSeq, Mi.mSkip, Mi.mBrk, Mi.mCont, Mi.mAsg, Mi.mPar, Mi.mExpr, Mi.mRet, Mi.mRetN, Mi.mIfS, Mi.tYes, Mi.wipe, Ms.mDct0, Ms.bAddI, List.map_cons, List.map_nil, List.nil_append, List.cons_append, List.length_cons, List.length_nil, List.replicate_succ, List.replicate_zero, List.getElem?_cons_zero, List.getElem?_cons_succ, List.getElem?_nil, List.set_cons_zero, List.set_cons_succ, Option.map_some, Option.map_none, if_true, if_false, reduceIte, decide_true, decide_false, Nat.reduceAdd, Nat.reduceLeDiff, List.mem_cons, List.mem_singleton, true_or, or_true, true_and, and_true, bne_self_eq_false, Bool.not_true, Bool.not_false, reduceCtorEq, Nat.reduceEqDiff, beq_self_eq_true, Nat.reduceLT, Int.reduceLT, Int.reduceLE, Int.reduceToNat, Int.reduceAdd, Int.reduceSub, Int.reduceMul, Int.reduceNeg, String.reduceEq, String.reduceBEq, List.lookup_cons, List.lookup_nil, Mi.big, Mi.putF, List.length_append, List.append_assoc, ite_true, ite_false, Bool.false_eq_true, and_self, not_true_eq_false, not_false_eq_true, Sum.inr.injEq, Sum.inl.injEq, Mi.look, Mi.put, List.any_cons, List.any_nil, Bool.or_true, Bool.or_false, Bool.true_or, Bool.false_or, List.find?_cons, Option.getD_some, Option.getD_none, Bool.bne_false, Bool.false_bne, Bool.true_bne, Bool.bne_true, Int.reduceEq, Int.reducePow, m_law_draw, b_law_draw, Mi.mSetK, Mi.bSubs, Mi.bGet, e1, e1', e2', e3', e4', bMul_small, bMul_small', sq, Mi.qEq, Mi.lstOf, Mi.intsOf, Int.reducePow, h1, Mi.mPop, Mi.mAppend, q1, q2, q3, q4, q5, q6, hc18, Bool.false_bne, p10]
      refine ⟨_, _, rfl, (fin _).1, (fin _).2, ⟨ne, cs', m, t + 1, e4', e3', by omega⟩, (sm_set (by simp)).trans (sm_set (by simp)), by simp only [List.length_set]⟩
end Lw

namespace Lw
open Mi (Dv MO Sto Sl Rs bnd ME MT MA MS MF Fl MG MGs MI)
theorem loop_inv {g : MG} {b : MS} {st : Sto → Prop} (P : List Dv → Sl → Sto → Prop)
    (h : ∀ d ds δ G, P (d :: ds) δ G → st G ∧ ∃ δ1 G1, g d δ G = some (δ1, G1) ∧ ∃ δ2 G2, b δ1 G1 = some (.nx, δ2, G2) ∧ P ds δ2 G2) (hn : ∀ δ G, P [] δ G → st G) :
    ∀ ds δ G, P ds δ G → ∃ δ' G', Mi.mLoop g b st ds δ G = some (.nx, δ', G') ∧ P [] δ' G'
  | [], δ, G, p => ⟨δ, G, by unfold Mi.mLoop; rw [if_pos (hn _ _ p)], p⟩
  | d :: ds, δ, G, p => by
    obtain ⟨hs, δ1, G1, e1, δ2, G2, e2, q⟩ := h d ds δ G p
    obtain ⟨δ', G', e3, q'⟩ := loop_inv P h hn ds δ2 G2 q
    refine ⟨δ', G', ?_, q'⟩
    unfold Mi.mLoop
    rw [if_pos hs, e1]
    dsimp only
    rw [e2]
    exact e3
theorem lc_inv {g : MG} {t : MT} {e : ME} {st : Sto → Prop} {δ : Sl} (P : List Dv → List Dv → Sto → Prop)
    (h : ∀ d ds acc G, P (d :: ds) acc G → st G ∧ acc.length < Mi.big ∧ ∃ δ1 G1, g d δ G = some (δ1, G1) ∧ ∃ G2, t δ1 G1 = some (true, G2) ∧ ∃ y G3, e δ1 G2 = some (y, G3) ∧ P ds (acc ++ [y]) G3) (hn : ∀ acc G, P [] acc G → st G) :
    ∀ ds acc G, P ds acc G → ∃ acc' G', Mi.mLcLoop g t e st δ ds acc G = some (acc', G') ∧ P [] acc' G'
  | [], acc, G, p => ⟨acc, G, by unfold Mi.mLcLoop; rw [if_pos (hn _ _ p)], p⟩
  | d :: ds, acc, G, p => by
    obtain ⟨hs, hb, δ1, G1, e1, G2, e2, y, G3, e3, q⟩ := h d ds acc G p
    obtain ⟨acc', G', e4, q'⟩ := lc_inv P h hn ds _ G3 q
    refine ⟨acc', G', ?_, q'⟩
    unfold Mi.mLcLoop
    rw [if_pos ⟨hs, hb⟩, e1]
    dsimp only
    rw [e2]
    dsimp only
    rw [e3]
    exact e4
/-- a comprehension whose items change nothing -/
theorem lc_map {i : Nat} {e : ME} {st : Sto → Prop} {δ : Sl} {f : Dv → Dv} {G : Sto} (hs : st G) : ∀ (ds acc : List Dv), (∀ d ∈ ds, e (δ.set i (some d)) G = some (f d, G)) → acc.length + ds.length ≤ Mi.big →
    Mi.mLcLoop (Mi.gNm i) Mi.tYes e st δ ds acc G = some (acc ++ ds.map f, G)
  | [], acc, _, _ => by unfold Mi.mLcLoop; rw [if_pos hs]; simp
  | d :: ds, acc, he, hb => by
    have h1 : acc.length < Mi.big := by rw [List.length_cons] at hb; omega
    unfold Mi.mLcLoop
    rw [if_pos ⟨hs, h1⟩]
    simp only [Mi.gNm, Mi.tYes]
    rw [he d (List.mem_cons_self ..)]
    dsimp only
    rw [lc_map hs ds (acc ++ [f d]) (fun x hx => he x (List.mem_cons_of_mem _ hx)) (by rw [List.length_append]; simp at hb ⊢; omega)]
    simp
/-- a draw's step -/
structure Dr (hd hc : Nat) (G G' : Sto) : Prop where
  d : Dk hd hc G'
  s : Sm [hd, hc] G G'
  l : G'.length = G.length
theorem Dr.trans {hd hc : Nat} {G G1 G2 : Sto} (a : Dr hd hc G G1) (b : Dr hd hc G1 G2) : Dr hd hc G G2 := ⟨b.d, a.s.trans b.s, b.l.trans a.l⟩
theorem draw {hd hc : Nat} {G : Sto} (d : Dk hd hc G) (n : Int) (h1 : 0 < n) (h2 : n < 1073741824) : ∃ r G', m_law_draw [.ref hd, .int n] G = some (.int r, G') ∧ 0 ≤ r ∧ r < n ∧ Dr hd hc G G' := by
  obtain ⟨r, G', e, a, b, c, s, l⟩ := draw_ok d n h1 h2
  exact ⟨r, G', e, a, b, c, s, l⟩
theorem atI_ok {α : Type} (xs : List α) (r : Int) (h1 : 0 ≤ r) (h2 : r < xs.length) : ∃ x, Mi.atI xs r = some x ∧ x ∈ xs := by
  obtain ⟨k, rfl⟩ := Int.eq_ofNat_of_zero_le h1
  have hk : k < xs.length := by exact_mod_cast h2
  refine ⟨xs[k], ?_, List.getElem_mem hk⟩
  unfold Mi.atI Mi.ixN
  rw [if_pos h1, if_pos h2]
  simp [hk]
theorem pick {hd hc : Nat} {G : Sto} (d : Dk hd hc G) (xs : List Dv) (h1 : xs ≠ []) (h2 : xs.length < 1000000) : ∃ x G', m_law_pick [.ref hd, .fls xs] G = some (x, G') ∧ x ∈ xs ∧ Dr hd hc G G' := by
  have hp : 0 < xs.length := List.length_pos_iff.mpr h1
  obtain ⟨r, G', e, a, b, c⟩ := draw d xs.length (by omega) (by omega)
  obtain ⟨x, ex, hx⟩ := atI_ok xs r a b
  refine ⟨x, G', ?_, hx, c⟩
  simp only [Mi.bnd, Mi.mVar, Mi.mC, Mi.mkL, Mi.m2, Mi.m1, Mi.uNeg, Mi.bAdd, Mi.bSub, Mi.bDiv, Mi.bMod, Mi.bPow, Mi.sEq, Mi.bEq, Mi.bCmp, Mi.bLt, Mi.bLe, Mi.bGt, Mi.bGe, Mi.isNon, Mi.mIsN, Mi.mChain, Mi.mAnd, Mi.mOr, Mi.mNot, Mi.mTb, Mi.mTand, Mi.mTor, Mi.mTnot, Mi.mIf, Mi.mNil, Mi.mCons, Mi.mTup, Mi.mLst, Mi.mB, Mi.kOf, Mi.mFld, Mi.mCall, Mi.mCallK, Mi.mMeth, Mi.mMethK, Mi.mDef, Mi.fInt, Mi.fMax, Mi.fMin, Mi.isI, Mi.mIsI, Ms.mIsC, Mi.gNm, Mi.gNil, Mi.gCons, Mi.gTup, Mi.mSeq, Mi.mSkip, Mi.mBrk, Mi.mCont, Mi.mAsg, Mi.mPar, Mi.mExpr, Mi.mRet, Mi.mRetN, Mi.mIfS, Mi.tYes, Mi.wipe, Ms.mDct0, Ms.bAddI, List.map_cons, List.map_nil, List.nil_append, List.cons_append, List.length_cons, List.length_nil, List.replicate_succ, List.replicate_zero, List.getElem?_cons_zero, List.getElem?_cons_succ, List.getElem?_nil, List.set_cons_zero, List.set_cons_succ, Option.map_some, Option.map_none, if_true, if_false, reduceIte, decide_true, decide_false, Nat.reduceAdd, Nat.reduceLeDiff, List.mem_cons, List.mem_singleton, true_or, or_true, true_and, and_true, bne_self_eq_false, Bool.not_true, Bool.not_false, reduceCtorEq, Nat.reduceEqDiff, beq_self_eq_true, Nat.reduceLT, Int.reduceLT, Int.reduceLE, Int.reduceToNat, Int.reduceAdd, Int.reduceSub, Int.reduceMul, Int.reduceNeg, String.reduceEq, String.reduceBEq, List.lookup_cons, List.lookup_nil, Mi.big, Mi.putF, List.length_append, List.append_assoc, ite_true, ite_false, Bool.false_eq_true, and_self, not_true_eq_false, not_false_eq_true, Sum.inr.injEq, Sum.inl.injEq, Mi.look, Mi.put, List.any_cons, List.any_nil, Bool.or_true, Bool.or_false, Bool.true_or, Bool.false_or, List.find?_cons, Option.getD_some, Option.getD_none, Bool.bne_false, Bool.false_bne, Bool.true_bne, Bool.bne_true, Int.reduceEq, Int.reducePow, m_law_pick, b_law_pick, Mi.fLen, Mi.lstOf, e, Mi.bSubs, Mi.bGet, Mi.bIx, Mi.seqOf, ex]
theorem word {hd hc : Nat} {G : Sto} (d : Dk hd hc G) : ∃ x G', m_law_word [.ref hd] G = some (.int x, G') ∧ 0 ≤ x ∧ x ≤ 1000000000 ∧ Dr hd hc G G' := by
  obtain ⟨r1, G1, e1, a1, b1, c1⟩ := draw d 100 (by omega) (by omega)
  obtain ⟨r2, G2, e2, a2, b2, c2⟩ := draw c1.d 1000000001 (by omega) (by omega)
  obtain ⟨x, G3, e3, hx, c3⟩ := pick c2.d [.int 0, .int 1, .int 2, .int 3, .int 5, .int 1000000000, .int r1, .int r2] (by simp) (by simp)
  have hx' : ∃ y, x = .int y ∧ 0 ≤ y ∧ y ≤ 1000000000 := by
    simp only [List.mem_cons, or_false, List.not_mem_nil] at hx
    rcases hx with rfl | rfl | rfl | rfl | rfl | rfl | rfl | rfl <;> refine ⟨_, rfl, ?_, ?_⟩ <;> omega
  obtain ⟨y, rfl, h1, h2⟩ := hx'
  refine ⟨y, G3, ?_, h1, h2, (c1.trans c2).trans c3⟩
  simp only [Mi.bnd, Mi.mVar, Mi.mC, Mi.mkL, Mi.m2, Mi.m1, Mi.uNeg, Mi.bAdd, Mi.bSub, Mi.bDiv, Mi.bMod, Mi.bPow, Mi.sEq, Mi.bEq, Mi.bCmp, Mi.bLt, Mi.bLe, Mi.bGt, Mi.bGe, Mi.isNon, Mi.mIsN, Mi.mChain, Mi.mAnd, Mi.mOr, Mi.mNot, Mi.mTb, Mi.mTand, Mi.mTor, Mi.mTnot, Mi.mIf, Mi.mNil, Mi.mCons, Mi.mTup, Mi.mLst, Mi.mB, Mi.kOf, Mi.mFld, Mi.mCall, Mi.mCallK, Mi.mMeth, Mi.mMethK, Mi.mDef, Mi.fInt, Mi.fMax, Mi.fMin, Mi.isI, Mi.mIsI, Ms.mIsC, Mi.gNm, Mi.gNil, Mi.gCons, Mi.gTup, Mi.mSeq, Mi.mSkip, Mi.mBrk, Mi.mCont, Mi.mAsg, Mi.mPar, Mi.mExpr, Mi.mRet, Mi.mRetN, Mi.mIfS, Mi.tYes, Mi.wipe, Ms.mDct0, Ms.bAddI, List.map_cons, List.map_nil, List.nil_append, List.cons_append, List.length_cons, List.length_nil, List.replicate_succ, List.replicate_zero, List.getElem?_cons_zero, List.getElem?_cons_succ, List.getElem?_nil, List.set_cons_zero, List.set_cons_succ, Option.map_some, Option.map_none, if_true, if_false, reduceIte, decide_true, decide_false, Nat.reduceAdd, Nat.reduceLeDiff, List.mem_cons, List.mem_singleton, true_or, or_true, true_and, and_true, bne_self_eq_false, Bool.not_true, Bool.not_false, reduceCtorEq, Nat.reduceEqDiff, beq_self_eq_true, Nat.reduceLT, Int.reduceLT, Int.reduceLE, Int.reduceToNat, Int.reduceAdd, Int.reduceSub, Int.reduceMul, Int.reduceNeg, String.reduceEq, String.reduceBEq, List.lookup_cons, List.lookup_nil, Mi.big, Mi.putF, List.length_append, List.append_assoc, ite_true, ite_false, Bool.false_eq_true, and_self, not_true_eq_false, not_false_eq_true, Sum.inr.injEq, Sum.inl.injEq, Mi.look, Mi.put, List.any_cons, List.any_nil, Bool.or_true, Bool.or_false, Bool.true_or, Bool.false_or, List.find?_cons, Option.getD_some, Option.getD_none, Bool.bne_false, Bool.false_bne, Bool.true_bne, Bool.bne_true, Int.reduceEq, Int.reducePow, m_law_word, b_law_word, e1, e2, e3, Int.reducePow, p10]
  trace_state
end Lw


namespace Lw
open Mi (Dv MO Sto Sl Rs bnd ME MT MA MS MF Fl MG MGs MI)
theorem lc_draw {hd hc i : Nat} {e : ME} {δ : Sl} {G : Sto} (d0 : Dk hd hc G) (ds : List Dv) (he : ∀ d ∈ ds, ∀ G, Dk hd hc G → ∃ y G', e (δ.set i (some d)) G = some (.int y, G') ∧ (0 ≤ y ∧ y ≤ 1000000000) ∧ Dr hd hc G G') (hb : ds.length < 1000) :
    ∃ (ws : List Int) (G' : Sto), Mi.mLcLoop (Mi.gNm i) Mi.tYes e (fun _ => True) δ ds [] G = some (ws.map Dv.int, G') ∧ ws.length = ds.length ∧ (∀ w ∈ ws, 0 ≤ w ∧ w ≤ 1000000000) ∧ Dr hd hc G G' := by
  obtain ⟨acc, G', e1, ws, rfl, hl, hw, hr⟩ := lc_inv (g := Mi.gNm i) (t := Mi.tYes) (e := e) (st := fun _ => True) (δ := δ)
    (P := fun r acc G' => (∃ ws : List Int, acc = ws.map Dv.int ∧ ws.length + r.length = ds.length ∧ (∀ w ∈ ws, 0 ≤ w ∧ w ≤ 1000000000) ∧ Dr hd hc G G' ∧ ∀ d ∈ r, d ∈ ds))
    (fun d r acc G1 ⟨ws, ea, hl, hw, hr, hm⟩ => by
      obtain ⟨y, G2, e2, hy, r2⟩ := he d (hm d (List.mem_cons_self ..)) G1 hr.d
      refine ⟨trivial, ?_, _, _, rfl, _, rfl, _, _, e2, ws ++ [y], ?_, ?_, ?_, hr.trans r2, fun x hx => hm x (List.mem_cons_of_mem _ hx)⟩
      · rw [ea, List.length_map]
        rw [List.length_cons] at hl
        show ws.length < 16777216
        omega
      · rw [ea, List.map_append]; rfl
      · rw [List.length_append]
        rw [List.length_cons] at hl
        simp
        omega
      · intro w hw'
        rcases List.mem_append.mp hw' with q | q
        · exact hw w q
        · obtain rfl : w = y := by simpa using q
          exact hy)
    (fun _ _ _ => trivial) ds [] G ⟨[], rfl, by simp, by simp, ⟨d0, Sm.refl, rfl⟩, fun d h => h⟩
  exact ⟨ws, G', e1, by simpa using hl, hw, hr.1⟩
def Blk (ws : List Int) : Prop := ws.length = 32 ∧ ∀ w ∈ ws, 0 ≤ w ∧ w ≤ 1000000000
theorem rng_len (n : Nat) : (Mi.rng 0 n).length = n := by simp [Mi.rng]
theorem rng_mem {n : Nat} {d : Dv} (h : d ∈ Mi.rng 0 n) : ∃ k : Nat, k < n ∧ d = .int k := by
  unfold Mi.rng at h
  obtain ⟨k, hk, rfl⟩ := List.mem_map.mp h
  rw [List.mem_range] at hk
  exact ⟨k, by omega, by simp⟩
end Lw

namespace Lw
open Mi (Dv MO Sto Sl Rs bnd ME MT MA MS MF Fl MG MGs MI)
/-! ### the deck at the start -/
theorem cut63 (ns : List Int) (h : ns.length ≤ 63) : Mi.cut (ns.map Dv.int) none (some 63) = ns.map Dv.int := by
  show ((ns.map Dv.int).drop 0).take (min 63 (ns.map Dv.int).length - 0) = _
  rw [List.drop_zero, List.take_of_length_le]
  rw [List.length_map]
  omega
theorem deck_ok (ns : List Int) (h : ns.length ≤ 63) : ∃ hd hc G, m_law_deck [.scr ns] [] = some (.ref hd, G) ∧ Dk hd hc G := by
  have c := cut63 ns h
  have lp := loop_inv (g := Mi.gNm 2) (b := qb_law_deck_1) (st := fun _ => True) (fun r δ G => (∃ m x, δ = [some (.scr ns), some (.int m), x]) ∧ (∀ d ∈ r, ∃ i, d = .int i) ∧ G = [])
    (fun d ds δ G ⟨⟨m, x, ed⟩, hi, eG⟩ => by
      subst ed eG
      obtain ⟨i, rfl⟩ := hi d (List.mem_cons_self ..)
      refine ⟨trivial, _, _, rfl, ?_⟩
      refine ⟨[some (.scr ns), some (.int ((m * 40692 + i % 2147483423 + 59) % 2147483549)), some (.int i)], [], ?_, ⟨_, _, rfl⟩, fun d hd => hi d (List.mem_cons_of_mem _ hd), rfl⟩
      simp only [Mi.bnd, Mi.mVar, Mi.mC, Mi.mkL, Mi.m2, Mi.m1, Mi.uNeg, Mi.bAdd, Mi.bSub, Mi.bDiv, Mi.bMod, Mi.bPow, Mi.sEq, Mi.bEq, Mi.bCmp, Mi.bLt, Mi.bLe, Mi.bGt, Mi.bGe, Mi.isNon, Mi.mIsN, Mi.mChain, Mi.mAnd, Mi.mOr, Mi.mNot, Mi.mTb, Mi.mTand, Mi.mTor, Mi.mTnot, Mi.mIf, Mi.mNil, Mi.mCons, Mi.mTup, Mi.mLst, Mi.mB, Mi.kOf, Mi.mFld, Mi.mCall, Mi.mCallK, Mi.mMeth, Mi.mMethK, Mi.mDef, Mi.fInt, Mi.fMax, Mi.fMin, Mi.isI, Mi.mIsI, Ms.mIsC, Mi.gNm, Mi.gNil, Mi.gCons, Mi.gTup, Mi.mSeq, Mi.mSkip, Mi.mBrk, Mi.mCont, Mi.mAsg, Mi.mPar, Mi.mExpr, Mi.mRet, Mi.mRetN, Mi.mIfS, Mi.tYes, Mi.wipe, Ms.mDct0, Ms.bAddI, List.map_cons, List.map_nil, List.nil_append, List.cons_append, List.length_cons, List.length_nil, List.replicate_succ, List.replicate_zero, List.getElem?_cons_zero, List.getElem?_cons_succ, List.getElem?_nil, List.set_cons_zero, List.set_cons_succ, Option.map_some, Option.map_none, if_true, if_false, reduceIte, decide_true, decide_false, Nat.reduceAdd, Nat.reduceLeDiff, List.mem_cons, List.mem_singleton, true_or, or_true, true_and, and_true, bne_self_eq_false, Bool.not_true, Bool.not_false, reduceCtorEq, Nat.reduceEqDiff, beq_self_eq_true, Nat.reduceLT, Int.reduceLT, Int.reduceLE, Int.reduceToNat, Int.reduceAdd, Int.reduceSub, Int.reduceMul, Int.reduceNeg, String.reduceEq, String.reduceBEq, List.lookup_cons, List.lookup_nil, Mi.big, Mi.putF, List.length_append, List.append_assoc, ite_true, ite_false, Bool.false_eq_true, and_self, not_true_eq_false, not_false_eq_true, Sum.inr.injEq, Sum.inl.injEq, Mi.look, Mi.put, List.any_cons, List.any_nil, Bool.or_true, Bool.or_false, Bool.true_or, Bool.false_or, List.find?_cons, Option.getD_some, Option.getD_none, Bool.bne_false, Bool.false_bne, Bool.true_bne, Bool.bne_true, Int.reduceEq, Int.reducePow, qb_law_deck_1, bMul_small])
    (fun _ _ _ => trivial) (ns.map Dv.int) [some (.scr ns), some (.int 13746626), none] [] ⟨⟨_, _, rfl⟩, fun d hd => by obtain ⟨i, _, rfl⟩ := List.mem_map.mp hd; exact ⟨i, rfl⟩, rfl⟩
  obtain ⟨δ', G', e1, ⟨m, x, rfl⟩, _, rfl⟩ := lp
  have e2 := lc_map (i := 2) (e := qe_law_deck_1) (st := fun _ => True) (δ := [some (.scr ns), some (.int m), none]) (f := id) (G := [.dct []]) trivial (ns.map Dv.int) [] (fun d hd => by
    obtain ⟨i, _, rfl⟩ := List.mem_map.mp hd
    simp only [Mi.bnd, Mi.mVar, Mi.mC, Mi.mkL, Mi.m2, Mi.m1, Mi.uNeg, Mi.bAdd, Mi.bSub, Mi.bDiv, Mi.bMod, Mi.bPow, Mi.sEq, Mi.bEq, Mi.bCmp, Mi.bLt, Mi.bLe, Mi.bGt, Mi.bGe, Mi.isNon, Mi.mIsN, Mi.mChain, Mi.mAnd, Mi.mOr, Mi.mNot, Mi.mTb, Mi.mTand, Mi.mTor, Mi.mTnot, Mi.mIf, Mi.mNil, Mi.mCons, Mi.mTup, Mi.mLst, Mi.mB, Mi.kOf, Mi.mFld, Mi.mCall, Mi.mCallK, Mi.mMeth, Mi.mMethK, Mi.mDef, Mi.fInt, Mi.fMax, Mi.fMin, Mi.isI, Mi.mIsI, Ms.mIsC, Mi.gNm, Mi.gNil, Mi.gCons, Mi.gTup, Mi.mSeq, Mi.mSkip, Mi.mBrk, Mi.mCont, Mi.mAsg, Mi.mPar, Mi.mExpr, Mi.mRet, Mi.mRetN, Mi.mIfS, Mi.tYes, Mi.wipe, Ms.mDct0, Ms.bAddI, List.map_cons, List.map_nil, List.nil_append, List.cons_append, List.length_cons, List.length_nil, List.replicate_succ, List.replicate_zero, List.getElem?_cons_zero, List.getElem?_cons_succ, List.getElem?_nil, List.set_cons_zero, List.set_cons_succ, Option.map_some, Option.map_none, if_true, if_false, reduceIte, decide_true, decide_false, Nat.reduceAdd, Nat.reduceLeDiff, List.mem_cons, List.mem_singleton, true_or, or_true, true_and, and_true, bne_self_eq_false, Bool.not_true, Bool.not_false, reduceCtorEq, Nat.reduceEqDiff, beq_self_eq_true, Nat.reduceLT, Int.reduceLT, Int.reduceLE, Int.reduceToNat, Int.reduceAdd, Int.reduceSub, Int.reduceMul, Int.reduceNeg, String.reduceEq, String.reduceBEq, List.lookup_cons, List.lookup_nil, Mi.big, Mi.putF, List.length_append, List.append_assoc, ite_true, ite_false, Bool.false_eq_true, and_self, not_true_eq_false, not_false_eq_true, Sum.inr.injEq, Sum.inl.injEq, Mi.look, Mi.put, List.any_cons, List.any_nil, Bool.or_true, Bool.or_false, Bool.true_or, Bool.false_or, List.find?_cons, Option.getD_some, Option.getD_none, Bool.bne_false, Bool.false_bne, Bool.true_bne, Bool.bne_true, Int.reduceEq, Int.reducePow, qe_law_deck_1, id]) (by rw [List.length_map]; show 0 + ns.length ≤ 16777216; omega)
  rw [List.nil_append, List.map_id] at e2
  have e3 : ql_law_deck_1 [some (.scr ns), some (.int m), x] [.dct []] = some (.fls (ns.map Dv.int), [.dct []]) := by
    unfold ql_law_deck_1 qi_law_deck_2 Mi.mLc
    simp only [Mi.bnd, Mi.mVar, Mi.mC, Mi.mkL, Mi.m2, Mi.m1, Mi.uNeg, Mi.bAdd, Mi.bSub, Mi.bDiv, Mi.bMod, Mi.bPow, Mi.sEq, Mi.bEq, Mi.bCmp, Mi.bLt, Mi.bLe, Mi.bGt, Mi.bGe, Mi.isNon, Mi.mIsN, Mi.mChain, Mi.mAnd, Mi.mOr, Mi.mNot, Mi.mTb, Mi.mTand, Mi.mTor, Mi.mTnot, Mi.mIf, Mi.mNil, Mi.mCons, Mi.mTup, Mi.mLst, Mi.mB, Mi.kOf, Mi.mFld, Mi.mCall, Mi.mCallK, Mi.mMeth, Mi.mMethK, Mi.mDef, Mi.fInt, Mi.fMax, Mi.fMin, Mi.isI, Mi.mIsI, Ms.mIsC, Mi.gNm, Mi.gNil, Mi.gCons, Mi.gTup, Mi.mSeq, Mi.mSkip, Mi.mBrk, Mi.mCont, Mi.mAsg, Mi.mPar, Mi.mExpr, Mi.mRet, Mi.mRetN, Mi.mIfS, Mi.tYes, Mi.wipe, Ms.mDct0, Ms.bAddI, List.map_cons, List.map_nil, List.nil_append, List.cons_append, List.length_cons, List.length_nil, List.replicate_succ, List.replicate_zero, List.getElem?_cons_zero, List.getElem?_cons_succ, List.getElem?_nil, List.set_cons_zero, List.set_cons_succ, Option.map_some, Option.map_none, if_true, if_false, reduceIte, decide_true, decide_false, Nat.reduceAdd, Nat.reduceLeDiff, List.mem_cons, List.mem_singleton, true_or, or_true, true_and, and_true, bne_self_eq_false, Bool.not_true, Bool.not_false, reduceCtorEq, Nat.reduceEqDiff, beq_self_eq_true, Nat.reduceLT, Int.reduceLT, Int.reduceLE, Int.reduceToNat, Int.reduceAdd, Int.reduceSub, Int.reduceMul, Int.reduceNeg, String.reduceEq, String.reduceBEq, List.lookup_cons, List.lookup_nil, Mi.big, Mi.putF, List.length_append, List.append_assoc, ite_true, ite_false, Bool.false_eq_true, and_self, not_true_eq_false, not_false_eq_true, Sum.inr.injEq, Sum.inl.injEq, Mi.look, Mi.put, List.any_cons, List.any_nil, Bool.or_true, Bool.or_false, Bool.true_or, Bool.false_or, List.find?_cons, Option.getD_some, Option.getD_none, Bool.bne_false, Bool.false_bne, Bool.true_bne, Bool.bne_true, Int.reduceEq, Int.reducePow, Mi.iSeq, Mi.mSlice, Mi.mO, Mi.lstOf, Mi.seqOf, c, e2]
  refine ⟨0, 1, [.dct [(.inr "cells", .ref 1), (.inr "mixed", .int m), (.inr "turn", .int 0)], .lst (ns.map Dv.int).reverse], ?_, by omega, ns.reverse, m, 0, rfl, by rw [List.map_reverse]; rfl, by rw [List.length_reverse]; exact h⟩
  have e4 : qf_law_deck_1 [some (.scr ns), some (.int 13746626), none] [] = some (.nx, [some (.scr ns), some (.int m), x], []) := by
    unfold qf_law_deck_1 qi_law_deck_1 Mi.mFor
    simp only [Mi.bnd, Mi.mVar, Mi.mC, Mi.mkL, Mi.m2, Mi.m1, Mi.uNeg, Mi.bAdd, Mi.bSub, Mi.bDiv, Mi.bMod, Mi.bPow, Mi.sEq, Mi.bEq, Mi.bCmp, Mi.bLt, Mi.bLe, Mi.bGt, Mi.bGe, Mi.isNon, Mi.mIsN, Mi.mChain, Mi.mAnd, Mi.mOr, Mi.mNot, Mi.mTb, Mi.mTand, Mi.mTor, Mi.mTnot, Mi.mIf, Mi.mNil, Mi.mCons, Mi.mTup, Mi.mLst, Mi.mB, Mi.kOf, Mi.mFld, Mi.mCall, Mi.mCallK, Mi.mMeth, Mi.mMethK, Mi.mDef, Mi.fInt, Mi.fMax, Mi.fMin, Mi.isI, Mi.mIsI, Ms.mIsC, Mi.gNm, Mi.gNil, Mi.gCons, Mi.gTup, Mi.mSeq, Mi.mSkip, Mi.mBrk, Mi.mCont, Mi.mAsg, Mi.mPar, Mi.mExpr, Mi.mRet, Mi.mRetN, Mi.mIfS, Mi.tYes, Mi.wipe, Ms.mDct0, Ms.bAddI, List.map_cons, List.map_nil, List.nil_append, List.cons_append, List.length_cons, List.length_nil, List.replicate_succ, List.replicate_zero, List.getElem?_cons_zero, List.getElem?_cons_succ, List.getElem?_nil, List.set_cons_zero, List.set_cons_succ, Option.map_some, Option.map_none, if_true, if_false, reduceIte, decide_true, decide_false, Nat.reduceAdd, Nat.reduceLeDiff, List.mem_cons, List.mem_singleton, true_or, or_true, true_and, and_true, bne_self_eq_false, Bool.not_true, Bool.not_false, reduceCtorEq, Nat.reduceEqDiff, beq_self_eq_true, Nat.reduceLT, Int.reduceLT, Int.reduceLE, Int.reduceToNat, Int.reduceAdd, Int.reduceSub, Int.reduceMul, Int.reduceNeg, String.reduceEq, String.reduceBEq, List.lookup_cons, List.lookup_nil, Mi.big, Mi.putF, List.length_append, List.append_assoc, ite_true, ite_false, Bool.false_eq_true, and_self, not_true_eq_false, not_false_eq_true, Sum.inr.injEq, Sum.inl.injEq, Mi.look, Mi.put, List.any_cons, List.any_nil, Bool.or_true, Bool.or_false, Bool.true_or, Bool.false_or, List.find?_cons, Option.getD_some, Option.getD_none, Bool.bne_false, Bool.false_bne, Bool.true_bne, Bool.bne_true, Int.reduceEq, Int.reducePow, Mi.iSeq, Mi.mSlice, Mi.mO, Mi.lstOf, Mi.seqOf, c, e1]
  simp only [Mi.bnd, Mi.mVar, Mi.mC, Mi.mkL, Mi.m2, Mi.m1, Mi.uNeg, Mi.bAdd, Mi.bSub, Mi.bDiv, Mi.bMod, Mi.bPow, Mi.sEq, Mi.bEq, Mi.bCmp, Mi.bLt, Mi.bLe, Mi.bGt, Mi.bGe, Mi.isNon, Mi.mIsN, Mi.mChain, Mi.mAnd, Mi.mOr, Mi.mNot, Mi.mTb, Mi.mTand, Mi.mTor, Mi.mTnot, Mi.mIf, Mi.mNil, Mi.mCons, Mi.mTup, Mi.mLst, Mi.mB, Mi.kOf, Mi.mFld, Mi.mCall, Mi.mCallK, Mi.mMeth, Mi.mMethK, Mi.mDef, Mi.fInt, Mi.fMax, Mi.fMin, Mi.isI, Mi.mIsI, Ms.mIsC, Mi.gNm, Mi.gNil, Mi.gCons, Mi.gTup, Mi.mSeq, Mi.mSkip, Mi.mBrk, Mi.mCont, Mi.mAsg, Mi.mPar, Mi.mExpr, Mi.mRet, Mi.mRetN, Mi.mIfS, Mi.tYes, Mi.wipe, Ms.mDct0, Ms.bAddI, List.map_cons, List.map_nil, List.nil_append, List.cons_append, List.length_cons, List.length_nil, List.replicate_succ, List.replicate_zero, List.getElem?_cons_zero, List.getElem?_cons_succ, List.getElem?_nil, List.set_cons_zero, List.set_cons_succ, Option.map_some, Option.map_none, if_true, if_false, reduceIte, decide_true, decide_false, Nat.reduceAdd, Nat.reduceLeDiff, List.mem_cons, List.mem_singleton, true_or, or_true, true_and, and_true, bne_self_eq_false, Bool.not_true, Bool.not_false, reduceCtorEq, Nat.reduceEqDiff, beq_self_eq_true, Nat.reduceLT, Int.reduceLT, Int.reduceLE, Int.reduceToNat, Int.reduceAdd, Int.reduceSub, Int.reduceMul, Int.reduceNeg, String.reduceEq, String.reduceBEq, List.lookup_cons, List.lookup_nil, Mi.big, Mi.putF, List.length_append, List.append_assoc, ite_true, ite_false, Bool.false_eq_true, and_self, not_true_eq_false, not_false_eq_true, Sum.inr.injEq, Sum.inl.injEq, Mi.look, Mi.put, List.any_cons, List.any_nil, Bool.or_true, Bool.or_false, Bool.true_or, Bool.false_or, List.find?_cons, Option.getD_some, Option.getD_none, Bool.bne_false, Bool.false_bne, Bool.true_bne, Bool.bne_true, Int.reduceEq, Int.reducePow, m_law_deck, b_law_deck, e4, Mi.mDisp, Mi.mPairs, e3, Mi.mRev, Mi.lstOf, List.foldl_cons, List.foldl_nil]

end Lw


namespace Lw
open Mi (Dv MO Sto Sl Rs bnd ME MT MA MS MF Fl MG MGs MI)
/-! ### a disk -/
structure Dsk (G : Sto) (h hb hq hn : Nat) (s k : Int) (bl qu : List Dv) (nw : List (Mi.Key × Dv)) : Prop where
  ob : G[h]? = some (.ins 0 (dfs s k hb hq hn .non))
  bl : G[hb]? = some (.lst bl)
  qu : G[hq]? = some (.lst qu)
  nw : G[hn]? = some (.dct nw)
  n1 : h ≠ hb
  n2 : h ≠ hq
  n3 : h ≠ hn
  n4 : hb ≠ hq
  n5 : hb ≠ hn
  n6 : hq ≠ hn
theorem Dsk.sm {G G' : Sto} {h hb hq hn : Nat} {s k : Int} {bl qu : List Dv} {nw : List (Mi.Key × Dv)} {hs : List Nat} (D : Dsk G h hb hq hn s k bl qu nw) (S : Sm hs G G') (m1 : h ∉ hs) (m2 : hb ∉ hs) (m3 : hq ∉ hs) (m4 : hn ∉ hs) : Dsk G' h hb hq hn s k bl qu nw :=
  ⟨S.get m1 D.ob, S.get m2 D.bl, S.get m3 D.qu, S.get m4 D.nw, D.n1, D.n2, D.n3, D.n4, D.n5, D.n6⟩
section
variable {G : Sto} {h hb hq hn : Nat} {s k : Int} {bl qu : List Dv} {nw : List (Mi.Key × Dv)}
theorem dsk_mk (s k : Int) (G : Sto) : Dsk (G ++ [.ins 0 (dfs s k (G.length + 1) (G.length + 2) (G.length + 3) .non), .lst (List.replicate (Many s k) d_BLANK), .lst [], .dct []]) G.length (G.length + 1) (G.length + 2) (G.length + 3) s k (List.replicate (Many s k) d_BLANK) [] [] :=
  ⟨get0 _ _ _, by rw [List.getElem?_append_right (by omega)]; simp, by rw [List.getElem?_append_right (by omega)]; simp, by rw [List.getElem?_append_right (by omega)]; simp, by omega, by omega, by omega, by omega, by omega, by omega⟩
theorem need_place_ok (D : Dsk G h hb hq hn s k bl qu nw) (p : Int) (h1 : 0 ≤ p) (h2 : p ≤ bl.length - 1) : m_Disk_need_place [.ref h, .int p] G = some (.non, G) := by
  simp only [Mi.bnd, Mi.mVar, Mi.mC, Mi.mkL, Mi.m2, Mi.m1, Mi.uNeg, Mi.bAdd, Mi.bSub, Mi.bDiv, Mi.bMod, Mi.bPow, Mi.sEq, Mi.bEq, Mi.bCmp, Mi.bLt, Mi.bLe, Mi.bGt, Mi.bGe, Mi.isNon, Mi.mIsN, Mi.mChain, Mi.mAnd, Mi.mOr, Mi.mNot, Mi.mTb, Mi.mTand, Mi.mTor, Mi.mTnot, Mi.mIf, Mi.mNil, Mi.mCons, Mi.mTup, Mi.mLst, Mi.mB, Mi.kOf, Mi.mFld, Mi.mCall, Mi.mCallK, Mi.mMeth, Mi.mMethK, Mi.mDef, Mi.fInt, Mi.fMax, Mi.fMin, Mi.isI, Mi.mIsI, Ms.mIsC, Mi.gNm, Mi.gNil, Mi.gCons, Mi.gTup, Mi.mSeq, Mi.mSkip, Mi.mBrk, Mi.mCont, Mi.mAsg, Mi.mPar, Mi.mExpr, Mi.mRet, Mi.mRetN, Mi.mIfS, Mi.tYes, Mi.wipe, Ms.mDct0, Ms.bAddI, List.map_cons, List.map_nil, List.nil_append, List.cons_append, List.length_cons, List.length_nil, List.replicate_succ, List.replicate_zero, List.getElem?_cons_zero, List.getElem?_cons_succ, List.getElem?_nil, List.set_cons_zero, List.set_cons_succ, Option.map_some, Option.map_none, if_true, if_false, reduceIte, decide_true, decide_false, Nat.reduceAdd, Nat.reduceLeDiff, List.mem_cons, List.mem_singleton, true_or, or_true, true_and, and_true, bne_self_eq_false, Bool.not_true, Bool.not_false, reduceCtorEq, Nat.reduceEqDiff, beq_self_eq_true, Nat.reduceLT, Int.reduceLT, Int.reduceLE, Int.reduceToNat, Int.reduceAdd, Int.reduceSub, Int.reduceMul, Int.reduceNeg, String.reduceEq, String.reduceBEq, List.lookup_cons, List.lookup_nil, Mi.big, Mi.putF, List.length_append, List.append_assoc, ite_true, ite_false, Bool.false_eq_true, and_self, not_true_eq_false, not_false_eq_true, Sum.inr.injEq, Sum.inl.injEq, Mi.look, Mi.put, List.any_cons, List.any_nil, Bool.or_true, Bool.or_false, Bool.true_or, Bool.false_or, List.find?_cons, Option.getD_some, Option.getD_none, Bool.bne_false, Bool.false_bne, Bool.true_bne, Bool.bne_true, Int.reduceEq, Int.reducePow, m_Disk_need_place, b_Disk_need_place, D.ob, dfs, Mi.fLen, Mi.lstOf, D.bl, is_between_int, h1, h2]
theorem read_ok (D : Dsk G h hb hq hn s k bl qu nw) (p : Int) (x : Dv) (h1 : 0 ≤ p) (h2 : p ≤ bl.length - 1) (hx : Mi.atI bl p = some x) : m_Disk_read [.ref h, .int p] G = some ((Mi.look nw (.inl p)).getD x, G) := by
  have e := need_place_ok D p h1 h2
  simp only [Mi.bnd, Mi.mVar, Mi.mC, Mi.mkL, Mi.m2, Mi.m1, Mi.uNeg, Mi.bAdd, Mi.bSub, Mi.bDiv, Mi.bMod, Mi.bPow, Mi.sEq, Mi.bEq, Mi.bCmp, Mi.bLt, Mi.bLe, Mi.bGt, Mi.bGe, Mi.isNon, Mi.mIsN, Mi.mChain, Mi.mAnd, Mi.mOr, Mi.mNot, Mi.mTb, Mi.mTand, Mi.mTor, Mi.mTnot, Mi.mIf, Mi.mNil, Mi.mCons, Mi.mTup, Mi.mLst, Mi.mB, Mi.kOf, Mi.mFld, Mi.mCall, Mi.mCallK, Mi.mMeth, Mi.mMethK, Mi.mDef, Mi.fInt, Mi.fMax, Mi.fMin, Mi.isI, Mi.mIsI, Ms.mIsC, Mi.gNm, Mi.gNil, Mi.gCons, Mi.gTup, Mi.mSeq, Mi.mSkip, Mi.mBrk, Mi.mCont, Mi.mAsg, Mi.mPar, Mi.mExpr, Mi.mRet, Mi.mRetN, Mi.mIfS, Mi.tYes, Mi.wipe, Ms.mDct0, Ms.bAddI, List.map_cons, List.map_nil, List.nil_append, List.cons_append, List.length_cons, List.length_nil, List.replicate_succ, List.replicate_zero, List.getElem?_cons_zero, List.getElem?_cons_succ, List.getElem?_nil, List.set_cons_zero, List.set_cons_succ, Option.map_some, Option.map_none, if_true, if_false, reduceIte, decide_true, decide_false, Nat.reduceAdd, Nat.reduceLeDiff, List.mem_cons, List.mem_singleton, true_or, or_true, true_and, and_true, bne_self_eq_false, Bool.not_true, Bool.not_false, reduceCtorEq, Nat.reduceEqDiff, beq_self_eq_true, Nat.reduceLT, Int.reduceLT, Int.reduceLE, Int.reduceToNat, Int.reduceAdd, Int.reduceSub, Int.reduceMul, Int.reduceNeg, String.reduceEq, String.reduceBEq, List.lookup_cons, List.lookup_nil, Mi.big, Mi.putF, List.length_append, List.append_assoc, ite_true, ite_false, Bool.false_eq_true, and_self, not_true_eq_false, not_false_eq_true, Sum.inr.injEq, Sum.inl.injEq, Mi.look, Mi.put, List.any_cons, List.any_nil, Bool.or_true, Bool.or_false, Bool.true_or, Bool.false_or, List.find?_cons, Option.getD_some, Option.getD_none, Bool.bne_false, Bool.false_bne, Bool.true_bne, Bool.bne_true, Int.reduceEq, Int.reducePow, -Mi.look, m_Disk_read, b_Disk_read, Mi.mGet2, D.ob, dfs, e, Mi.bSubs, Mi.bGet, Mi.bIx, Mi.seqOf, Mi.lstOf, D.bl, D.nw, hx]
theorem need_disk_ok (D : Dsk G h hb hq hn s k bl qu nw) : m_need_disk [.ref h] G = some (.non, G) := by
  simp only [Mi.bnd, Mi.mVar, Mi.mC, Mi.mkL, Mi.m2, Mi.m1, Mi.uNeg, Mi.bAdd, Mi.bSub, Mi.bDiv, Mi.bMod, Mi.bPow, Mi.sEq, Mi.bEq, Mi.bCmp, Mi.bLt, Mi.bLe, Mi.bGt, Mi.bGe, Mi.isNon, Mi.mIsN, Mi.mChain, Mi.mAnd, Mi.mOr, Mi.mNot, Mi.mTb, Mi.mTand, Mi.mTor, Mi.mTnot, Mi.mIf, Mi.mNil, Mi.mCons, Mi.mTup, Mi.mLst, Mi.mB, Mi.kOf, Mi.mFld, Mi.mCall, Mi.mCallK, Mi.mMeth, Mi.mMethK, Mi.mDef, Mi.fInt, Mi.fMax, Mi.fMin, Mi.isI, Mi.mIsI, Ms.mIsC, Mi.gNm, Mi.gNil, Mi.gCons, Mi.gTup, Mi.mSeq, Mi.mSkip, Mi.mBrk, Mi.mCont, Mi.mAsg, Mi.mPar, Mi.mExpr, Mi.mRet, Mi.mRetN, Mi.mIfS, Mi.tYes, Mi.wipe, Ms.mDct0, Ms.bAddI, List.map_cons, List.map_nil, List.nil_append, List.cons_append, List.length_cons, List.length_nil, List.replicate_succ, List.replicate_zero, List.getElem?_cons_zero, List.getElem?_cons_succ, List.getElem?_nil, List.set_cons_zero, List.set_cons_succ, Option.map_some, Option.map_none, if_true, if_false, reduceIte, decide_true, decide_false, Nat.reduceAdd, Nat.reduceLeDiff, List.mem_cons, List.mem_singleton, true_or, or_true, true_and, and_true, bne_self_eq_false, Bool.not_true, Bool.not_false, reduceCtorEq, Nat.reduceEqDiff, beq_self_eq_true, Nat.reduceLT, Int.reduceLT, Int.reduceLE, Int.reduceToNat, Int.reduceAdd, Int.reduceSub, Int.reduceMul, Int.reduceNeg, String.reduceEq, String.reduceBEq, List.lookup_cons, List.lookup_nil, Mi.big, Mi.putF, List.length_append, List.append_assoc, ite_true, ite_false, Bool.false_eq_true, and_self, not_true_eq_false, not_false_eq_true, Sum.inr.injEq, Sum.inl.injEq, Mi.look, Mi.put, List.any_cons, List.any_nil, Bool.or_true, Bool.or_false, Bool.true_or, Bool.false_or, List.find?_cons, Option.getD_some, Option.getD_none, Bool.bne_false, Bool.false_bne, Bool.true_bne, Bool.bne_true, Int.reduceEq, Int.reducePow, m_need_disk, b_need_disk, D.ob]
theorem place_at_ok (D : Dsk G h hb hq hn s k bl qu nw) (g o : Int) (b1 : 6 ≤ s ∧ s ≤ 40) (b2 : 4 ≤ k ∧ k ≤ 24) (h1 : 0 ≤ g ∧ g ≤ s - 1) (h2 : 0 ≤ o ∧ o ≤ k - 1) : m_place_at [.ref h, .int g, .int o] G = some (.int (2 * R' s k + g * k + o), G) := by
  have hr := R'_b b1 b2
  have e1 := need_disk_ok D
  have c1 : Mi.bMul false (.int 2) (.int (R' s k)) G = some (.int (2 * R' s k), G) := bMul_small' false _ _ G (by omega)
  have c2 : Mi.bMul false (.int g) (.int k) G = some (.int (g * k), G) := bMul_small' false _ _ G (by omega)
  simp only [Mi.bnd, Mi.mVar, Mi.mC, Mi.mkL, Mi.m2, Mi.m1, Mi.uNeg, Mi.bAdd, Mi.bSub, Mi.bDiv, Mi.bMod, Mi.bPow, Mi.sEq, Mi.bEq, Mi.bCmp, Mi.bLt, Mi.bLe, Mi.bGt, Mi.bGe, Mi.isNon, Mi.mIsN, Mi.mChain, Mi.mAnd, Mi.mOr, Mi.mNot, Mi.mTb, Mi.mTand, Mi.mTor, Mi.mTnot, Mi.mIf, Mi.mNil, Mi.mCons, Mi.mTup, Mi.mLst, Mi.mB, Mi.kOf, Mi.mFld, Mi.mCall, Mi.mCallK, Mi.mMeth, Mi.mMethK, Mi.mDef, Mi.fInt, Mi.fMax, Mi.fMin, Mi.isI, Mi.mIsI, Ms.mIsC, Mi.gNm, Mi.gNil, Mi.gCons, Mi.gTup, Mi.mSeq, Mi.mSkip, Mi.mBrk, Mi.mCont, Mi.mAsg, Mi.mPar, Mi.mExpr, Mi.mRet, Mi.mRetN, Mi.mIfS, Mi.tYes, Mi.wipe, Ms.mDct0, Ms.bAddI, List.map_cons, List.map_nil, List.nil_append, List.cons_append, List.length_cons, List.length_nil, List.replicate_succ, List.replicate_zero, List.getElem?_cons_zero, List.getElem?_cons_succ, List.getElem?_nil, List.set_cons_zero, List.set_cons_succ, Option.map_some, Option.map_none, if_true, if_false, reduceIte, decide_true, decide_false, Nat.reduceAdd, Nat.reduceLeDiff, List.mem_cons, List.mem_singleton, true_or, or_true, true_and, and_true, bne_self_eq_false, Bool.not_true, Bool.not_false, reduceCtorEq, Nat.reduceEqDiff, beq_self_eq_true, Nat.reduceLT, Int.reduceLT, Int.reduceLE, Int.reduceToNat, Int.reduceAdd, Int.reduceSub, Int.reduceMul, Int.reduceNeg, String.reduceEq, String.reduceBEq, List.lookup_cons, List.lookup_nil, Mi.big, Mi.putF, List.length_append, List.append_assoc, ite_true, ite_false, Bool.false_eq_true, and_self, not_true_eq_false, not_false_eq_true, Sum.inr.injEq, Sum.inl.injEq, Mi.look, Mi.put, List.any_cons, List.any_nil, Bool.or_true, Bool.or_false, Bool.true_or, Bool.false_or, List.find?_cons, Option.getD_some, Option.getD_none, Bool.bne_false, Bool.false_bne, Bool.true_bne, Bool.bne_true, Int.reduceEq, Int.reducePow, m_place_at, b_place_at, e1, D.ob, dfs, is_between_int, h1, h2, m_place_raw, b_place_raw, c1, c2]
theorem is_word_ok (i : Int) (G : Sto) (h : 0 ≤ i ∧ i ≤ 1000000000) : m_is_word [.int i] G = some (.bl true, G) := by
  simp only [Mi.bnd, Mi.mVar, Mi.mC, Mi.mkL, Mi.m2, Mi.m1, Mi.uNeg, Mi.bAdd, Mi.bSub, Mi.bDiv, Mi.bMod, Mi.bPow, Mi.sEq, Mi.bEq, Mi.bCmp, Mi.bLt, Mi.bLe, Mi.bGt, Mi.bGe, Mi.isNon, Mi.mIsN, Mi.mChain, Mi.mAnd, Mi.mOr, Mi.mNot, Mi.mTb, Mi.mTand, Mi.mTor, Mi.mTnot, Mi.mIf, Mi.mNil, Mi.mCons, Mi.mTup, Mi.mLst, Mi.mB, Mi.kOf, Mi.mFld, Mi.mCall, Mi.mCallK, Mi.mMeth, Mi.mMethK, Mi.mDef, Mi.fInt, Mi.fMax, Mi.fMin, Mi.isI, Mi.mIsI, Ms.mIsC, Mi.gNm, Mi.gNil, Mi.gCons, Mi.gTup, Mi.mSeq, Mi.mSkip, Mi.mBrk, Mi.mCont, Mi.mAsg, Mi.mPar, Mi.mExpr, Mi.mRet, Mi.mRetN, Mi.mIfS, Mi.tYes, Mi.wipe, Ms.mDct0, Ms.bAddI, List.map_cons, List.map_nil, List.nil_append, List.cons_append, List.length_cons, List.length_nil, List.replicate_succ, List.replicate_zero, List.getElem?_cons_zero, List.getElem?_cons_succ, List.getElem?_nil, List.set_cons_zero, List.set_cons_succ, Option.map_some, Option.map_none, if_true, if_false, reduceIte, decide_true, decide_false, Nat.reduceAdd, Nat.reduceLeDiff, List.mem_cons, List.mem_singleton, true_or, or_true, true_and, and_true, bne_self_eq_false, Bool.not_true, Bool.not_false, reduceCtorEq, Nat.reduceEqDiff, beq_self_eq_true, Nat.reduceLT, Int.reduceLT, Int.reduceLE, Int.reduceToNat, Int.reduceAdd, Int.reduceSub, Int.reduceMul, Int.reduceNeg, String.reduceEq, String.reduceBEq, List.lookup_cons, List.lookup_nil, Mi.big, Mi.putF, List.length_append, List.append_assoc, ite_true, ite_false, Bool.false_eq_true, and_self, not_true_eq_false, not_false_eq_true, Sum.inr.injEq, Sum.inl.injEq, Mi.look, Mi.put, List.any_cons, List.any_nil, Bool.or_true, Bool.or_false, Bool.true_or, Bool.false_or, List.find?_cons, Option.getD_some, Option.getD_none, Bool.bne_false, Bool.false_bne, Bool.true_bne, Bool.bne_true, Int.reduceEq, Int.reducePow, m_is_word, b_is_word, is_between_int, h]
theorem bools_true : ∀ ds : List Dv, Mi.bools (ds.map fun _ => Dv.bl true) = some (ds.map fun _ => true)
  | [] => rfl
  | d :: ds => by rw [List.map_cons]; unfold Mi.bools; rw [bools_true ds]; rfl
theorem is_block_ok (ws : List Int) (G : Sto) (B : Blk ws) : m_is_block [.tup (ws.map Dv.int)] G = some (.bl true, G) := by
  have e := lc_map (i := 2) (e := qe_are_words_1) (st := fun _ => True) (δ := [some (.tup (ws.map Dv.int)), some (.int 32), none]) (f := fun _ => .bl true) (G := G) trivial (ws.map Dv.int) [] (fun d hd => by
    obtain ⟨i, hi, rfl⟩ := List.mem_map.mp hd
    simp only [Mi.bnd, Mi.mVar, Mi.mC, Mi.mkL, Mi.m2, Mi.m1, Mi.uNeg, Mi.bAdd, Mi.bSub, Mi.bDiv, Mi.bMod, Mi.bPow, Mi.sEq, Mi.bEq, Mi.bCmp, Mi.bLt, Mi.bLe, Mi.bGt, Mi.bGe, Mi.isNon, Mi.mIsN, Mi.mChain, Mi.mAnd, Mi.mOr, Mi.mNot, Mi.mTb, Mi.mTand, Mi.mTor, Mi.mTnot, Mi.mIf, Mi.mNil, Mi.mCons, Mi.mTup, Mi.mLst, Mi.mB, Mi.kOf, Mi.mFld, Mi.mCall, Mi.mCallK, Mi.mMeth, Mi.mMethK, Mi.mDef, Mi.fInt, Mi.fMax, Mi.fMin, Mi.isI, Mi.mIsI, Ms.mIsC, Mi.gNm, Mi.gNil, Mi.gCons, Mi.gTup, Mi.mSeq, Mi.mSkip, Mi.mBrk, Mi.mCont, Mi.mAsg, Mi.mPar, Mi.mExpr, Mi.mRet, Mi.mRetN, Mi.mIfS, Mi.tYes, Mi.wipe, Ms.mDct0, Ms.bAddI, List.map_cons, List.map_nil, List.nil_append, List.cons_append, List.length_cons, List.length_nil, List.replicate_succ, List.replicate_zero, List.getElem?_cons_zero, List.getElem?_cons_succ, List.getElem?_nil, List.set_cons_zero, List.set_cons_succ, Option.map_some, Option.map_none, if_true, if_false, reduceIte, decide_true, decide_false, Nat.reduceAdd, Nat.reduceLeDiff, List.mem_cons, List.mem_singleton, true_or, or_true, true_and, and_true, bne_self_eq_false, Bool.not_true, Bool.not_false, reduceCtorEq, Nat.reduceEqDiff, beq_self_eq_true, Nat.reduceLT, Int.reduceLT, Int.reduceLE, Int.reduceToNat, Int.reduceAdd, Int.reduceSub, Int.reduceMul, Int.reduceNeg, String.reduceEq, String.reduceBEq, List.lookup_cons, List.lookup_nil, Mi.big, Mi.putF, List.length_append, List.append_assoc, ite_true, ite_false, Bool.false_eq_true, and_self, not_true_eq_false, not_false_eq_true, Sum.inr.injEq, Sum.inl.injEq, Mi.look, Mi.put, List.any_cons, List.any_nil, Bool.or_true, Bool.or_false, Bool.true_or, Bool.false_or, List.find?_cons, Option.getD_some, Option.getD_none, Bool.bne_false, Bool.false_bne, Bool.true_bne, Bool.bne_true, Int.reduceEq, Int.reducePow, qe_are_words_1, is_word_ok i G (B.2 i hi)]) (by rw [List.length_map, B.1]; decide)
  rw [List.nil_append] at e
  have e2 : ql_are_words_1 [some (.tup (ws.map Dv.int)), some (.int 32), none] G = some (.fls ((ws.map Dv.int).map fun _ => .bl true), G) := by
    unfold ql_are_words_1 qi_are_words_1 Mi.mLc
    simp only [Mi.bnd, Mi.mVar, Mi.mC, Mi.mkL, Mi.m2, Mi.m1, Mi.uNeg, Mi.bAdd, Mi.bSub, Mi.bDiv, Mi.bMod, Mi.bPow, Mi.sEq, Mi.bEq, Mi.bCmp, Mi.bLt, Mi.bLe, Mi.bGt, Mi.bGe, Mi.isNon, Mi.mIsN, Mi.mChain, Mi.mAnd, Mi.mOr, Mi.mNot, Mi.mTb, Mi.mTand, Mi.mTor, Mi.mTnot, Mi.mIf, Mi.mNil, Mi.mCons, Mi.mTup, Mi.mLst, Mi.mB, Mi.kOf, Mi.mFld, Mi.mCall, Mi.mCallK, Mi.mMeth, Mi.mMethK, Mi.mDef, Mi.fInt, Mi.fMax, Mi.fMin, Mi.isI, Mi.mIsI, Ms.mIsC, Mi.gNm, Mi.gNil, Mi.gCons, Mi.gTup, Mi.mSeq, Mi.mSkip, Mi.mBrk, Mi.mCont, Mi.mAsg, Mi.mPar, Mi.mExpr, Mi.mRet, Mi.mRetN, Mi.mIfS, Mi.tYes, Mi.wipe, Ms.mDct0, Ms.bAddI, List.map_cons, List.map_nil, List.nil_append, List.cons_append, List.length_cons, List.length_nil, List.replicate_succ, List.replicate_zero, List.getElem?_cons_zero, List.getElem?_cons_succ, List.getElem?_nil, List.set_cons_zero, List.set_cons_succ, Option.map_some, Option.map_none, if_true, if_false, reduceIte, decide_true, decide_false, Nat.reduceAdd, Nat.reduceLeDiff, List.mem_cons, List.mem_singleton, true_or, or_true, true_and, and_true, bne_self_eq_false, Bool.not_true, Bool.not_false, reduceCtorEq, Nat.reduceEqDiff, beq_self_eq_true, Nat.reduceLT, Int.reduceLT, Int.reduceLE, Int.reduceToNat, Int.reduceAdd, Int.reduceSub, Int.reduceMul, Int.reduceNeg, String.reduceEq, String.reduceBEq, List.lookup_cons, List.lookup_nil, Mi.big, Mi.putF, List.length_append, List.append_assoc, ite_true, ite_false, Bool.false_eq_true, and_self, not_true_eq_false, not_false_eq_true, Sum.inr.injEq, Sum.inl.injEq, Mi.look, Mi.put, List.any_cons, List.any_nil, Bool.or_true, Bool.or_false, Bool.true_or, Bool.false_or, List.find?_cons, Option.getD_some, Option.getD_none, Bool.bne_false, Bool.false_bne, Bool.true_bne, Bool.bne_true, Int.reduceEq, Int.reducePow, Mi.iSeq, Mi.seqOf, e]
  have e3 := bools_true (ws.map Dv.int)
  have l := B.1
  simp only [Mi.bnd, Mi.mVar, Mi.mC, Mi.mkL, Mi.m2, Mi.m1, Mi.uNeg, Mi.bAdd, Mi.bSub, Mi.bDiv, Mi.bMod, Mi.bPow, Mi.sEq, Mi.bEq, Mi.bCmp, Mi.bLt, Mi.bLe, Mi.bGt, Mi.bGe, Mi.isNon, Mi.mIsN, Mi.mChain, Mi.mAnd, Mi.mOr, Mi.mNot, Mi.mTb, Mi.mTand, Mi.mTor, Mi.mTnot, Mi.mIf, Mi.mNil, Mi.mCons, Mi.mTup, Mi.mLst, Mi.mB, Mi.kOf, Mi.mFld, Mi.mCall, Mi.mCallK, Mi.mMeth, Mi.mMethK, Mi.mDef, Mi.fInt, Mi.fMax, Mi.fMin, Mi.isI, Mi.mIsI, Ms.mIsC, Mi.gNm, Mi.gNil, Mi.gCons, Mi.gTup, Mi.mSeq, Mi.mSkip, Mi.mBrk, Mi.mCont, Mi.mAsg, Mi.mPar, Mi.mExpr, Mi.mRet, Mi.mRetN, Mi.mIfS, Mi.tYes, Mi.wipe, Ms.mDct0, Ms.bAddI, List.map_cons, List.map_nil, List.nil_append, List.cons_append, List.length_cons, List.length_nil, List.replicate_succ, List.replicate_zero, List.getElem?_cons_zero, List.getElem?_cons_succ, List.getElem?_nil, List.set_cons_zero, List.set_cons_succ, Option.map_some, Option.map_none, if_true, if_false, reduceIte, decide_true, decide_false, Nat.reduceAdd, Nat.reduceLeDiff, List.mem_cons, List.mem_singleton, true_or, or_true, true_and, and_true, bne_self_eq_false, Bool.not_true, Bool.not_false, reduceCtorEq, Nat.reduceEqDiff, beq_self_eq_true, Nat.reduceLT, Int.reduceLT, Int.reduceLE, Int.reduceToNat, Int.reduceAdd, Int.reduceSub, Int.reduceMul, Int.reduceNeg, String.reduceEq, String.reduceBEq, List.lookup_cons, List.lookup_nil, Mi.big, Mi.putF, List.length_append, List.append_assoc, ite_true, ite_false, Bool.false_eq_true, and_self, not_true_eq_false, not_false_eq_true, Sum.inr.injEq, Sum.inl.injEq, Mi.look, Mi.put, List.any_cons, List.any_nil, Bool.or_true, Bool.or_false, Bool.true_or, Bool.false_or, List.find?_cons, Option.getD_some, Option.getD_none, Bool.bne_false, Bool.false_bne, Bool.true_bne, Bool.bne_true, Int.reduceEq, Int.reducePow, m_is_block, b_is_block, m_are_words, b_are_words, e2, Mi.fAll, Mi.lstOf, e3, Mi.fLen, List.length_map, l]
  simp
theorem burn_ok (D : Dsk G h hb hq hn s k bl qu nw) : m_Disk_burn [.ref h] G = some (.non, G) := by
  simp only [Mi.bnd, Mi.mVar, Mi.mC, Mi.mkL, Mi.m2, Mi.m1, Mi.uNeg, Mi.bAdd, Mi.bSub, Mi.bDiv, Mi.bMod, Mi.bPow, Mi.sEq, Mi.bEq, Mi.bCmp, Mi.bLt, Mi.bLe, Mi.bGt, Mi.bGe, Mi.isNon, Mi.mIsN, Mi.mChain, Mi.mAnd, Mi.mOr, Mi.mNot, Mi.mTb, Mi.mTand, Mi.mTor, Mi.mTnot, Mi.mIf, Mi.mNil, Mi.mCons, Mi.mTup, Mi.mLst, Mi.mB, Mi.kOf, Mi.mFld, Mi.mCall, Mi.mCallK, Mi.mMeth, Mi.mMethK, Mi.mDef, Mi.fInt, Mi.fMax, Mi.fMin, Mi.isI, Mi.mIsI, Ms.mIsC, Mi.gNm, Mi.gNil, Mi.gCons, Mi.gTup, Mi.mSeq, Mi.mSkip, Mi.mBrk, Mi.mCont, Mi.mAsg, Mi.mPar, Mi.mExpr, Mi.mRet, Mi.mRetN, Mi.mIfS, Mi.tYes, Mi.wipe, Ms.mDct0, Ms.bAddI, List.map_cons, List.map_nil, List.nil_append, List.cons_append, List.length_cons, List.length_nil, List.replicate_succ, List.replicate_zero, List.getElem?_cons_zero, List.getElem?_cons_succ, List.getElem?_nil, List.set_cons_zero, List.set_cons_succ, Option.map_some, Option.map_none, if_true, if_false, reduceIte, decide_true, decide_false, Nat.reduceAdd, Nat.reduceLeDiff, List.mem_cons, List.mem_singleton, true_or, or_true, true_and, and_true, bne_self_eq_false, Bool.not_true, Bool.not_false, reduceCtorEq, Nat.reduceEqDiff, beq_self_eq_true, Nat.reduceLT, Int.reduceLT, Int.reduceLE, Int.reduceToNat, Int.reduceAdd, Int.reduceSub, Int.reduceMul, Int.reduceNeg, String.reduceEq, String.reduceBEq, List.lookup_cons, List.lookup_nil, Mi.big, Mi.putF, List.length_append, List.append_assoc, ite_true, ite_false, Bool.false_eq_true, and_self, not_true_eq_false, not_false_eq_true, Sum.inr.injEq, Sum.inl.injEq, Mi.look, Mi.put, List.any_cons, List.any_nil, Bool.or_true, Bool.or_false, Bool.true_or, Bool.false_or, List.find?_cons, Option.getD_some, Option.getD_none, Bool.bne_false, Bool.false_bne, Bool.true_bne, Bool.bne_true, Int.reduceEq, Int.reducePow, m_Disk_burn, b_Disk_burn, D.ob, dfs]
theorem write_ok (D : Dsk G h hb hq hn s k bl qu nw) (p : Int) (ws : List Int) (B : Blk ws) (h1 : 0 ≤ p) (h2 : p ≤ bl.length - 1) (z1 : qu.length < 10000) (z2 : nw.length < 10000) :
    ∃ G', m_Disk_write [.ref h, .int p, .tup (ws.map Dv.int)] G = some (.non, G') ∧ Dsk G' h hb hq hn s k bl (qu ++ [.tup [.int p, .tup (ws.map Dv.int)]]) (Mi.put nw (.inl p) (.tup (ws.map Dv.int))) ∧ Sm [hq, hn] G G' ∧ G'.length = G.length := by
  have e1 := need_place_ok D p h1 h2
  have e2 := is_block_ok ws G B
  have e3 := burn_ok D
  have z1' : qu.length < 16777216 := by omega
  have z2' : nw.length < 16777216 := by omega
  have ob' : ∀ o, (G.set hq o)[h]? = some (.ins 0 (dfs s k hb hq hn .non)) := fun o => by rw [List.getElem?_set_ne D.n2.symm]; exact D.ob
  have nw' : ∀ o, (G.set hq o)[hn]? = some (.dct nw) := fun o => by rw [List.getElem?_set_ne D.n6]; exact D.nw
  refine ⟨(G.set hq (.lst (qu ++ [.tup [.int p, .tup (ws.map Dv.int)]]))).set hn (.dct (Mi.put nw (.inl p) (.tup (ws.map Dv.int)))), ?_, ⟨?_, ?_, ?_, ?_, D.n1, D.n2, D.n3, D.n4, D.n5, D.n6⟩, (sm_set (by simp)).trans (sm_set (by simp)), by simp⟩
  · simp only [Mi.bnd, Mi.mVar, Mi.mC, Mi.mkL, Mi.m2, Mi.m1, Mi.uNeg, Mi.bAdd, Mi.bSub, Mi.bDiv, Mi.bMod, Mi.bPow, Mi.sEq, Mi.bEq, Mi.bCmp, Mi.bLt, Mi.bLe, Mi.bGt, Mi.bGe, Mi.isNon, Mi.mIsN, Mi.mChain, Mi.mAnd, Mi.mOr, Mi.mNot, Mi.mTb, Mi.mTand, Mi.mTor, Mi.mTnot, Mi.mIf, Mi.mNil, Mi.mCons, Mi.mTup, Mi.mLst, Mi.mB, Mi.kOf, Mi.mFld, Mi.mCall, Mi.mCallK, Mi.mMeth, Mi.mMethK, Mi.mDef, Mi.fInt, Mi.fMax, Mi.fMin, Mi.isI, Mi.mIsI, Ms.mIsC, Mi.gNm, Mi.gNil, Mi.gCons, Mi.gTup, Mi.mSeq, Mi.mSkip, Mi.mBrk, Mi.mCont, Mi.mAsg, Mi.mPar, Mi.mExpr, Mi.mRet, Mi.mRetN, Mi.mIfS, Mi.tYes, Mi.wipe, Ms.mDct0, Ms.bAddI, List.map_cons, List.map_nil, List.nil_append, List.cons_append, List.length_cons, List.length_nil, List.replicate_succ, List.replicate_zero, List.getElem?_cons_zero, List.getElem?_cons_succ, List.getElem?_nil, List.set_cons_zero, List.set_cons_succ, Option.map_some, Option.map_none, if_true, if_false, reduceIte, decide_true, decide_false, Nat.reduceAdd, Nat.reduceLeDiff, List.mem_cons, List.mem_singleton, true_or, or_true, true_and, and_true, bne_self_eq_false, Bool.not_true, Bool.not_false, reduceCtorEq, Nat.reduceEqDiff, beq_self_eq_true, Nat.reduceLT, Int.reduceLT, Int.reduceLE, Int.reduceToNat, Int.reduceAdd, Int.reduceSub, Int.reduceMul, Int.reduceNeg, String.reduceEq, String.reduceBEq, List.lookup_cons, List.lookup_nil, Mi.big, Mi.putF, List.length_append, List.append_assoc, ite_true, ite_false, Bool.false_eq_true, and_self, not_true_eq_false, not_false_eq_true, Sum.inr.injEq, Sum.inl.injEq, Mi.look, Mi.put, List.any_cons, List.any_nil, Bool.or_true, Bool.or_false, Bool.true_or, Bool.false_or, List.find?_cons, Option.getD_some, Option.getD_none, Bool.bne_false, Bool.false_bne, Bool.true_bne, Bool.bne_true, Int.reduceEq, Int.reducePow, -Mi.put, m_Disk_write, b_Disk_write, Mi.mAppend, Mi.mSetK, D.ob, ob', dfs, e1, e2, e3, D.qu, nw', z1', z2']
  · rw [List.getElem?_set_ne D.n3.symm]; exact ob' _
  · rw [List.getElem?_set_ne D.n5.symm, List.getElem?_set_ne D.n4.symm]; exact D.bl
  · rw [List.getElem?_set_ne D.n6.symm]; exact set_at D.qu
  · exact set_at (nw' _)
end
end Lw


namespace Lw
open Mi (Dv MO Sto Sl Rs bnd ME MT MA MS MF Fl MG MGs MI)
section
variable {G : Sto} {h hb hq hn : Nat} {s k : Int} {bl : List Dv} {nw : List (Mi.Key × Dv)}
theorem seq_ref {G : Sto} {h : Nat} {xs : List Dv} (e : G[h]? = some (.lst xs)) : Mi.seqOf G (.ref h) = some xs := by simp only [Mi.seqOf, Mi.lstOf, e]
/-- what waits, as a list of tuples -/
def qOf (its : List (Nat × Dv)) : List Dv := its.map fun p => .tup [.int p.1, p.2]
/-- all that waits, laid -/
def layAll (bl : List Dv) (its : List (Nat × Dv)) : List Dv := its.foldl (fun b p => b.set p.1 p.2) bl
theorem ixN_nat {n p : Nat} (h : p < n) : Mi.ixN n (p : Int) = some p := by
  unfold Mi.ixN
  rw [if_pos (by omega)]; rw [if_pos (by omega)]
  simp
theorem force_ok {its : List (Nat × Dv)} (D : Dsk G h hb hq hn s k bl (qOf its) nw) (hp : ∀ p ∈ its, p.1 < bl.length) :
    ∃ G', m_Disk_force [.ref h] G = some (.non, G') ∧ Dsk G' h hb G.length (G.length + 1) s k (layAll bl its) [] [] ∧ Sm [h, hb] G G' ∧ G'.length = G.length + 2 := by
  have e1 := burn_ok D
  obtain ⟨δ', G1, e2, bl', r, ⟨x, y, rfl⟩, er, D1, S1, L1, hp1, ef⟩ := loop_inv (g := Mi.gTup 2 (Mi.gCons (Mi.gNm 1) (Mi.gCons (Mi.gNm 2) Mi.gNil))) (b := qb_Disk_force_1) (st := fun G' => Mi.seqOf G' (.ref hq) = some (qOf its))
    (fun rest δ G1 => ∃ (bl' : List Dv) (r : List (Nat × Dv)), (∃ x y, δ = [some (.ref h), x, y]) ∧ rest = qOf r ∧ Dsk G1 h hb hq hn s k bl' (qOf its) nw ∧ Sm [h, hb] G G1 ∧ G1.length = G.length ∧ (∀ p ∈ r, p.1 < bl'.length) ∧ layAll bl' r = layAll bl its)
    (fun d ds δ G1 ⟨bl', r, ⟨x, y, ed⟩, er, D1, S1, L1, hp1, ef⟩ => by
      subst ed
      cases r with
      | nil => cases er
      | cons p r =>
        cases er
        refine ⟨seq_ref D1.qu, _, _, rfl, [some (.ref h), some (.int p.1), some p.2], G1.set hb (.lst (bl'.set p.1 p.2)), ?_, bl'.set p.1 p.2, r, ⟨_, _, rfl⟩, rfl, ?_, S1.trans (sm_set (by simp)), by rw [List.length_set]; exact L1, fun q hq => by rw [List.length_set]; exact hp1 q (List.mem_cons_of_mem _ hq), ef⟩
        · have ei := ixN_nat (hp1 p (List.mem_cons_self ..))
          simp only [Mi.bnd, Mi.mVar, Mi.mC, Mi.mkL, Mi.m2, Mi.m1, Mi.uNeg, Mi.bAdd, Mi.bSub, Mi.bDiv, Mi.bMod, Mi.bPow, Mi.sEq, Mi.bEq, Mi.bCmp, Mi.bLt, Mi.bLe, Mi.bGt, Mi.bGe, Mi.isNon, Mi.mIsN, Mi.mChain, Mi.mAnd, Mi.mOr, Mi.mNot, Mi.mTb, Mi.mTand, Mi.mTor, Mi.mTnot, Mi.mIf, Mi.mNil, Mi.mCons, Mi.mTup, Mi.mLst, Mi.mB, Mi.kOf, Mi.mFld, Mi.mCall, Mi.mCallK, Mi.mMeth, Mi.mMethK, Mi.mDef, Mi.fInt, Mi.fMax, Mi.fMin, Mi.isI, Mi.mIsI, Ms.mIsC, Mi.gNm, Mi.gNil, Mi.gCons, Mi.gTup, Mi.mSeq, Mi.mSkip, Mi.mBrk, Mi.mCont, Mi.mAsg, Mi.mPar, Mi.mExpr, Mi.mRet, Mi.mRetN, Mi.mIfS, Mi.tYes, Mi.wipe, Ms.mDct0, Ms.bAddI, List.map_cons, List.map_nil, List.nil_append, List.cons_append, List.length_cons, List.length_nil, List.replicate_succ, List.replicate_zero, List.getElem?_cons_zero, List.getElem?_cons_succ, List.getElem?_nil, List.set_cons_zero, List.set_cons_succ, Option.map_some, Option.map_none, if_true, if_false, reduceIte, decide_true, decide_false, Nat.reduceAdd, Nat.reduceLeDiff, List.mem_cons, List.mem_singleton, true_or, or_true, true_and, and_true, bne_self_eq_false, Bool.not_true, Bool.not_false, reduceCtorEq, Nat.reduceEqDiff, beq_self_eq_true, Nat.reduceLT, Int.reduceLT, Int.reduceLE, Int.reduceToNat, Int.reduceAdd, Int.reduceSub, Int.reduceMul, Int.reduceNeg, String.reduceEq, String.reduceBEq, List.lookup_cons, List.lookup_nil, Mi.big, Mi.putF, List.length_append, List.append_assoc, ite_true, ite_false, Bool.false_eq_true, and_self, not_true_eq_false, not_false_eq_true, Sum.inr.injEq, Sum.inl.injEq, Mi.look, Mi.put, List.any_cons, List.any_nil, Bool.or_true, Bool.or_false, Bool.true_or, Bool.false_or, List.find?_cons, Option.getD_some, Option.getD_none, Bool.bne_false, Bool.false_bne, Bool.true_bne, Bool.bne_true, Int.reduceEq, Int.reducePow, qb_Disk_force_1, Mi.mSetI, D1.ob, dfs, D1.bl, ei]
        · exact ⟨by rw [List.getElem?_set_ne D1.n1.symm]; exact D1.ob, set_at D1.bl, by rw [List.getElem?_set_ne D1.n4]; exact D1.qu, by rw [List.getElem?_set_ne D1.n5]; exact D1.nw, D1.n1, D1.n2, D1.n3, D1.n4, D1.n5, D1.n6⟩)
    (fun δ G1 ⟨bl', r, _, _, D1, _⟩ => seq_ref D1.qu)
    (qOf its) [some (.ref h), none, none] G ⟨bl, its, ⟨_, _, rfl⟩, rfl, D, Sm.refl, rfl, hp, rfl⟩
  have hr : r = [] := by
    cases r with
    | nil => rfl
    | cons p r => cases er
  subst hr
  have e3 : qf_Disk_force_1 [some (.ref h), none, none] G = some (.nx, [some (.ref h), x, y], G1) := by
    unfold qf_Disk_force_1 qi_Disk_force_1 Mi.mFor
    have hs : Mi.seqOf G (.ref hq) = some (qOf its) := seq_ref D.qu
    simp only [Mi.bnd, Mi.mVar, Mi.mC, Mi.mkL, Mi.m2, Mi.m1, Mi.uNeg, Mi.bAdd, Mi.bSub, Mi.bDiv, Mi.bMod, Mi.bPow, Mi.sEq, Mi.bEq, Mi.bCmp, Mi.bLt, Mi.bLe, Mi.bGt, Mi.bGe, Mi.isNon, Mi.mIsN, Mi.mChain, Mi.mAnd, Mi.mOr, Mi.mNot, Mi.mTb, Mi.mTand, Mi.mTor, Mi.mTnot, Mi.mIf, Mi.mNil, Mi.mCons, Mi.mTup, Mi.mLst, Mi.mB, Mi.kOf, Mi.mFld, Mi.mCall, Mi.mCallK, Mi.mMeth, Mi.mMethK, Mi.mDef, Mi.fInt, Mi.fMax, Mi.fMin, Mi.isI, Mi.mIsI, Ms.mIsC, Mi.gNm, Mi.gNil, Mi.gCons, Mi.gTup, Mi.mSeq, Mi.mSkip, Mi.mBrk, Mi.mCont, Mi.mAsg, Mi.mPar, Mi.mExpr, Mi.mRet, Mi.mRetN, Mi.mIfS, Mi.tYes, Mi.wipe, Ms.mDct0, Ms.bAddI, List.map_cons, List.map_nil, List.nil_append, List.cons_append, List.length_cons, List.length_nil, List.replicate_succ, List.replicate_zero, List.getElem?_cons_zero, List.getElem?_cons_succ, List.getElem?_nil, List.set_cons_zero, List.set_cons_succ, Option.map_some, Option.map_none, if_true, if_false, reduceIte, decide_true, decide_false, Nat.reduceAdd, Nat.reduceLeDiff, List.mem_cons, List.mem_singleton, true_or, or_true, true_and, and_true, bne_self_eq_false, Bool.not_true, Bool.not_false, reduceCtorEq, Nat.reduceEqDiff, beq_self_eq_true, Nat.reduceLT, Int.reduceLT, Int.reduceLE, Int.reduceToNat, Int.reduceAdd, Int.reduceSub, Int.reduceMul, Int.reduceNeg, String.reduceEq, String.reduceBEq, List.lookup_cons, List.lookup_nil, Mi.big, Mi.putF, List.length_append, List.append_assoc, ite_true, ite_false, Bool.false_eq_true, and_self, not_true_eq_false, not_false_eq_true, Sum.inr.injEq, Sum.inl.injEq, Mi.look, Mi.put, List.any_cons, List.any_nil, Bool.or_true, Bool.or_false, Bool.true_or, Bool.false_or, List.find?_cons, Option.getD_some, Option.getD_none, Bool.bne_false, Bool.false_bne, Bool.true_bne, Bool.bne_true, Int.reduceEq, Int.reducePow, Mi.iSeq, D.ob, dfs, hs, e2]
  have o1 : (G1 ++ [MO.lst []])[h]? = some (.ins 0 (dfs s k hb hq hn .non)) := by rw [List.getElem?_append_left (lt_get D1.ob)]; exact D1.ob
  have o2 := set_at (o' := .ins 0 (dfs s k hb G1.length hn .non)) o1
  have o3 : ((G1 ++ [MO.lst []]).set h (.ins 0 (dfs s k hb G1.length hn .non)) ++ [MO.dct []])[h]? = some (.ins 0 (dfs s k hb G1.length hn .non)) := by rw [List.getElem?_append_left (lt_get o2)]; exact o2
  have hh : h < G1.length := lt_get D1.ob
  have hhb : hb < G1.length := lt_get D1.bl
  refine ⟨((G1 ++ [MO.lst []]).set h (.ins 0 (dfs s k hb G1.length hn .non)) ++ [MO.dct []]).set h (.ins 0 (dfs s k hb G1.length (G1.length + 1) .non)), ?_, ?_, ?_, ?_⟩
  · have o1' := o1
    have o3' := o3
    simp only [dfs] at o1' o3'
    simp only [Mi.bnd, Mi.mVar, Mi.mC, Mi.mkL, Mi.m2, Mi.m1, Mi.uNeg, Mi.bAdd, Mi.bSub, Mi.bDiv, Mi.bMod, Mi.bPow, Mi.sEq, Mi.bEq, Mi.bCmp, Mi.bLt, Mi.bLe, Mi.bGt, Mi.bGe, Mi.isNon, Mi.mIsN, Mi.mChain, Mi.mAnd, Mi.mOr, Mi.mNot, Mi.mTb, Mi.mTand, Mi.mTor, Mi.mTnot, Mi.mIf, Mi.mNil, Mi.mCons, Mi.mTup, Mi.mLst, Mi.mB, Mi.kOf, Mi.mFld, Mi.mCall, Mi.mCallK, Mi.mMeth, Mi.mMethK, Mi.mDef, Mi.fInt, Mi.fMax, Mi.fMin, Mi.isI, Mi.mIsI, Ms.mIsC, Mi.gNm, Mi.gNil, Mi.gCons, Mi.gTup, Mi.mSeq, Mi.mSkip, Mi.mBrk, Mi.mCont, Mi.mAsg, Mi.mPar, Mi.mExpr, Mi.mRet, Mi.mRetN, Mi.mIfS, Mi.tYes, Mi.wipe, Ms.mDct0, Ms.bAddI, List.map_cons, List.map_nil, List.nil_append, List.cons_append, List.length_cons, List.length_nil, List.replicate_succ, List.replicate_zero, List.getElem?_cons_zero, List.getElem?_cons_succ, List.getElem?_nil, List.set_cons_zero, List.set_cons_succ, Option.map_some, Option.map_none, if_true, if_false, reduceIte, decide_true, decide_false, Nat.reduceAdd, Nat.reduceLeDiff, List.mem_cons, List.mem_singleton, true_or, or_true, true_and, and_true, bne_self_eq_false, Bool.not_true, Bool.not_false, reduceCtorEq, Nat.reduceEqDiff, beq_self_eq_true, Nat.reduceLT, Int.reduceLT, Int.reduceLE, Int.reduceToNat, Int.reduceAdd, Int.reduceSub, Int.reduceMul, Int.reduceNeg, String.reduceEq, String.reduceBEq, List.lookup_cons, List.lookup_nil, Mi.big, Mi.putF, List.length_append, List.append_assoc, ite_true, ite_false, Bool.false_eq_true, and_self, not_true_eq_false, not_false_eq_true, Sum.inr.injEq, Sum.inl.injEq, Mi.look, Mi.put, List.any_cons, List.any_nil, Bool.or_true, Bool.or_false, Bool.true_or, Bool.false_or, List.find?_cons, Option.getD_some, Option.getD_none, Bool.bne_false, Bool.false_bne, Bool.true_bne, Bool.bne_true, Int.reduceEq, Int.reducePow, m_Disk_force, b_Disk_force, D.ob, dfs, e1, e3, Mi.mSetF, o1', o3', List.length_set]

  · rw [← L1]
    refine ⟨set_at o3, ?_, ?_, ?_, D.n1, by omega, by omega, by omega, by omega, by omega⟩
    · rw [List.getElem?_set_ne D.n1, List.getElem?_append_left (by simp; omega), List.getElem?_set_ne D.n1, List.getElem?_append_left hhb, ← ef]
      exact D1.bl
    · rw [List.getElem?_set_ne (by omega), List.getElem?_append_left (by simp), List.getElem?_set_ne (by omega), List.getElem?_append_right (Nat.le_refl _)]
      simp
    · rw [List.getElem?_set_ne (by omega), List.getElem?_append_right (by simp)]
      simp
  · exact (((S1.trans sm_app).trans (sm_set (by simp))).trans sm_app).trans (sm_set (by simp))
  · simp [L1]
end
/-! ### the law's own -/
theorem law_sizes_ok (s k : Int) (G : Sto) (h1 : 6 ≤ s ∧ s ≤ 40) (h2 : 4 ≤ k ∧ k ≤ 24) : m_law_sizes [.int s, .int k] G = some (.tup [.int s, .int k, .int (N' s k), .int (R' s k)], G) := by
  have c := bMul_small false (s - 4) (k - 1) G (by omega)
  simp only [Mi.bnd, Mi.mVar, Mi.mC, Mi.mkL, Mi.m2, Mi.m1, Mi.uNeg, Mi.bAdd, Mi.bSub, Mi.bDiv, Mi.bMod, Mi.bPow, Mi.sEq, Mi.bEq, Mi.bCmp, Mi.bLt, Mi.bLe, Mi.bGt, Mi.bGe, Mi.isNon, Mi.mIsN, Mi.mChain, Mi.mAnd, Mi.mOr, Mi.mNot, Mi.mTb, Mi.mTand, Mi.mTor, Mi.mTnot, Mi.mIf, Mi.mNil, Mi.mCons, Mi.mTup, Mi.mLst, Mi.mB, Mi.kOf, Mi.mFld, Mi.mCall, Mi.mCallK, Mi.mMeth, Mi.mMethK, Mi.mDef, Mi.fInt, Mi.fMax, Mi.fMin, Mi.isI, Mi.mIsI, Ms.mIsC, Mi.gNm, Mi.gNil, Mi.gCons, Mi.gTup, Mi.mSeq, Mi.mSkip, Mi.mBrk, Mi.mCont, Mi.mAsg, Mi.mPar, Mi.mExpr, Mi.mRet, Mi.mRetN, Mi.mIfS, Mi.tYes, Mi.wipe, Ms.mDct0, Ms.bAddI, List.map_cons, List.map_nil, List.nil_append, List.cons_append, List.length_cons, List.length_nil, List.replicate_succ, List.replicate_zero, List.getElem?_cons_zero, List.getElem?_cons_succ, List.getElem?_nil, List.set_cons_zero, List.set_cons_succ, Option.map_some, Option.map_none, if_true, if_false, reduceIte, decide_true, decide_false, Nat.reduceAdd, Nat.reduceLeDiff, List.mem_cons, List.mem_singleton, true_or, or_true, true_and, and_true, bne_self_eq_false, Bool.not_true, Bool.not_false, reduceCtorEq, Nat.reduceEqDiff, beq_self_eq_true, Nat.reduceLT, Int.reduceLT, Int.reduceLE, Int.reduceToNat, Int.reduceAdd, Int.reduceSub, Int.reduceMul, Int.reduceNeg, String.reduceEq, String.reduceBEq, List.lookup_cons, List.lookup_nil, Mi.big, Mi.putF, List.length_append, List.append_assoc, ite_true, ite_false, Bool.false_eq_true, and_self, not_true_eq_false, not_false_eq_true, Sum.inr.injEq, Sum.inl.injEq, Mi.look, Mi.put, List.any_cons, List.any_nil, Bool.or_true, Bool.or_false, Bool.true_or, Bool.false_or, List.find?_cons, Option.getD_some, Option.getD_none, Bool.bne_false, Bool.false_bne, Bool.true_bne, Bool.bne_true, Int.reduceEq, Int.reducePow, m_law_sizes, b_law_sizes, c, N', R']
  have : ((s - 4) * (k - 1) + 4 + 27) / 28 = ((s - 4) * (k - 1) + 4 + 28 - 1) / 28 := by congr 1; omega
  rw [this]
theorem at0 {α : Type} (a b c d : α) : Mi.atI [a, b, c, d] 0 = some a := rfl
theorem at1 {α : Type} (a b c d : α) : Mi.atI [a, b, c, d] 1 = some b := rfl
theorem at3 {α : Type} (a b c d : α) : Mi.atI [a, b, c, d] 3 = some d := rfl
theorem law_many_ok (s k : Int) (G : Sto) (h1 : 6 ≤ s ∧ s ≤ 40) (h2 : 4 ≤ k ∧ k ≤ 24) : m_law_many [.tup [.int s, .int k, .int (N' s k), .int (R' s k)]] G = some (.int (Many s k), G) := by
  have hr := R'_b h1 h2
  have hp := prodB h1 h2
  have c1 : Mi.bMul false (.int 2) (.int (R' s k)) G = some (.int (2 * R' s k), G) := bMul_small' false _ _ G (by omega)
  have c2 : Mi.bMul false (.int s) (.int k) G = some (.int (s * k), G) := bMul_small' false _ _ G (by omega)
  simp only [Mi.bnd, Mi.mVar, Mi.mC, Mi.mkL, Mi.m2, Mi.m1, Mi.uNeg, Mi.bAdd, Mi.bSub, Mi.bDiv, Mi.bMod, Mi.bPow, Mi.sEq, Mi.bEq, Mi.bCmp, Mi.bLt, Mi.bLe, Mi.bGt, Mi.bGe, Mi.isNon, Mi.mIsN, Mi.mChain, Mi.mAnd, Mi.mOr, Mi.mNot, Mi.mTb, Mi.mTand, Mi.mTor, Mi.mTnot, Mi.mIf, Mi.mNil, Mi.mCons, Mi.mTup, Mi.mLst, Mi.mB, Mi.kOf, Mi.mFld, Mi.mCall, Mi.mCallK, Mi.mMeth, Mi.mMethK, Mi.mDef, Mi.fInt, Mi.fMax, Mi.fMin, Mi.isI, Mi.mIsI, Ms.mIsC, Mi.gNm, Mi.gNil, Mi.gCons, Mi.gTup, Mi.mSeq, Mi.mSkip, Mi.mBrk, Mi.mCont, Mi.mAsg, Mi.mPar, Mi.mExpr, Mi.mRet, Mi.mRetN, Mi.mIfS, Mi.tYes, Mi.wipe, Ms.mDct0, Ms.bAddI, List.map_cons, List.map_nil, List.nil_append, List.cons_append, List.length_cons, List.length_nil, List.replicate_succ, List.replicate_zero, List.getElem?_cons_zero, List.getElem?_cons_succ, List.getElem?_nil, List.set_cons_zero, List.set_cons_succ, Option.map_some, Option.map_none, if_true, if_false, reduceIte, decide_true, decide_false, Nat.reduceAdd, Nat.reduceLeDiff, List.mem_cons, List.mem_singleton, true_or, or_true, true_and, and_true, bne_self_eq_false, Bool.not_true, Bool.not_false, reduceCtorEq, Nat.reduceEqDiff, beq_self_eq_true, Nat.reduceLT, Int.reduceLT, Int.reduceLE, Int.reduceToNat, Int.reduceAdd, Int.reduceSub, Int.reduceMul, Int.reduceNeg, String.reduceEq, String.reduceBEq, List.lookup_cons, List.lookup_nil, Mi.big, Mi.putF, List.length_append, List.append_assoc, ite_true, ite_false, Bool.false_eq_true, and_self, not_true_eq_false, not_false_eq_true, Sum.inr.injEq, Sum.inl.injEq, Mi.look, Mi.put, List.any_cons, List.any_nil, Bool.or_true, Bool.or_false, Bool.true_or, Bool.false_or, List.find?_cons, Option.getD_some, Option.getD_none, Bool.bne_false, Bool.false_bne, Bool.true_bne, Bool.bne_true, Int.reduceEq, Int.reducePow, m_law_many, b_law_many, Mi.bSubs, Mi.bGet, Mi.bIx, Mi.seqOf, at0, at1, at3, c1, c2]
  unfold Many
  rw [Int.toNat_of_nonneg (by omega)]
theorem law_place_ok (s k g o : Int) (G : Sto) (h1 : 6 ≤ s ∧ s ≤ 40) (h2 : 4 ≤ k ∧ k ≤ 24) (hg : 0 ≤ g ∧ g ≤ s - 1) : m_law_place [.tup [.int s, .int k, .int (N' s k), .int (R' s k)], .int g, .int o] G = some (.int (2 * R' s k + g * k + o), G) := by
  have hr := R'_b h1 h2
  have c1 : Mi.bMul false (.int 2) (.int (R' s k)) G = some (.int (2 * R' s k), G) := bMul_small' false _ _ G (by omega)
  have c2 : Mi.bMul false (.int g) (.int k) G = some (.int (g * k), G) := bMul_small' false _ _ G (by omega)
  simp only [Mi.bnd, Mi.mVar, Mi.mC, Mi.mkL, Mi.m2, Mi.m1, Mi.uNeg, Mi.bAdd, Mi.bSub, Mi.bDiv, Mi.bMod, Mi.bPow, Mi.sEq, Mi.bEq, Mi.bCmp, Mi.bLt, Mi.bLe, Mi.bGt, Mi.bGe, Mi.isNon, Mi.mIsN, Mi.mChain, Mi.mAnd, Mi.mOr, Mi.mNot, Mi.mTb, Mi.mTand, Mi.mTor, Mi.mTnot, Mi.mIf, Mi.mNil, Mi.mCons, Mi.mTup, Mi.mLst, Mi.mB, Mi.kOf, Mi.mFld, Mi.mCall, Mi.mCallK, Mi.mMeth, Mi.mMethK, Mi.mDef, Mi.fInt, Mi.fMax, Mi.fMin, Mi.isI, Mi.mIsI, Ms.mIsC, Mi.gNm, Mi.gNil, Mi.gCons, Mi.gTup, Mi.mSeq, Mi.mSkip, Mi.mBrk, Mi.mCont, Mi.mAsg, Mi.mPar, Mi.mExpr, Mi.mRet, Mi.mRetN, Mi.mIfS, Mi.tYes, Mi.wipe, Ms.mDct0, Ms.bAddI, List.map_cons, List.map_nil, List.nil_append, List.cons_append, List.length_cons, List.length_nil, List.replicate_succ, List.replicate_zero, List.getElem?_cons_zero, List.getElem?_cons_succ, List.getElem?_nil, List.set_cons_zero, List.set_cons_succ, Option.map_some, Option.map_none, if_true, if_false, reduceIte, decide_true, decide_false, Nat.reduceAdd, Nat.reduceLeDiff, List.mem_cons, List.mem_singleton, true_or, or_true, true_and, and_true, bne_self_eq_false, Bool.not_true, Bool.not_false, reduceCtorEq, Nat.reduceEqDiff, beq_self_eq_true, Nat.reduceLT, Int.reduceLT, Int.reduceLE, Int.reduceToNat, Int.reduceAdd, Int.reduceSub, Int.reduceMul, Int.reduceNeg, String.reduceEq, String.reduceBEq, List.lookup_cons, List.lookup_nil, Mi.big, Mi.putF, List.length_append, List.append_assoc, ite_true, ite_false, Bool.false_eq_true, and_self, not_true_eq_false, not_false_eq_true, Sum.inr.injEq, Sum.inl.injEq, Mi.look, Mi.put, List.any_cons, List.any_nil, Bool.or_true, Bool.or_false, Bool.true_or, Bool.false_or, List.find?_cons, Option.getD_some, Option.getD_none, Bool.bne_false, Bool.false_bne, Bool.true_bne, Bool.bne_true, Int.reduceEq, Int.reducePow, m_law_place, b_law_place, Mi.bSubs, Mi.bGet, Mi.bIx, Mi.seqOf, at0, at1, at3, c1, c2]
end Lw


namespace Lw
open Mi (Dv MO Sto Sl Rs bnd ME MT MA MS MF Fl MG MGs MI)
open PySem (PyData)
theorem abs18 {i : Int} (h : -1000000 ≤ i ∧ i ≤ 1000000) : i.natAbs < 10 ^ 18 := by omega
theorem abs18' {i : Int} (h : 0 ≤ i ∧ i ≤ 1000000000) : i.natAbs < 10 ^ 18 := by omega
/-! ### data whose text is known -/
structure Re (x : Dv) (d : PyData) (n m : Nat) : Prop where
  p : ∀ G, Mi.py G x = some d
  w : Mi.wt d = some n
  e : Mi.dep d ≤ m
structure ReL (xs : List Dv) (ds : List PyData) (n m : Nat) : Prop where
  p : ∀ G, Mi.pys G xs = some ds
  w : Mi.wts ds = some n
  e : Mi.deps ds ≤ m
theorem re_int {i : Int} (h : i.natAbs < 10 ^ 18) : Re (.int i) (.int i) 20 0 := ⟨fun _ => rfl, by unfold Mi.wt; rw [if_pos h], Nat.le_refl _⟩
theorem re_nil {m : Nat} : ReL [] [] 0 m := ⟨fun _ => rfl, rfl, Nat.zero_le _⟩
theorem re_cons {x : Dv} {xs : List Dv} {d : PyData} {ds : List PyData} {a b m m' : Nat} (h : Re x d a m') (h2 : ReL xs ds b m) (hm : m' ≤ m) : ReL (x :: xs) (d :: ds) (a + b + 2) m := by
  refine ⟨fun G => ?_, ?_, ?_⟩
  · unfold Mi.pys; rw [h.p G, h2.p G]
  · unfold Mi.wts; rw [h.w, h2.w]
  · unfold Mi.deps; exact Nat.max_le.mpr ⟨Nat.le_trans h.e hm, h2.e⟩
theorem re_tup {xs : List Dv} {ds : List PyData} {n m : Nat} (h : ReL xs ds n m) : Re (.tup xs) (.tuple ds) (n + 3) (m + 1) := by
  refine ⟨fun G => ?_, ?_, ?_⟩
  · unfold Mi.py; rw [h.p G]; rfl
  · unfold Mi.wt; rw [h.w]; rfl
  · unfold Mi.dep; exact Nat.succ_le_succ h.e
theorem re_fls {xs : List Dv} {ds : List PyData} {n m : Nat} (h : ReL xs ds n m) : Re (.fls xs) (.list ds) (n + 3) (m + 1) := by
  refine ⟨fun G => ?_, ?_, ?_⟩
  · unfold Mi.py; rw [h.p G]; rfl
  · unfold Mi.wt; rw [h.w]; rfl
  · unfold Mi.dep; exact Nat.succ_le_succ h.e
theorem re_ints {ws : List Int} (h : ∀ w ∈ ws, w.natAbs < 10 ^ 18) : ReL (ws.map Dv.int) (ws.map PyData.int) (22 * ws.length) 0 := by
  induction ws with
  | nil => exact re_nil
  | cons w ws ih =>
    have := re_cons (re_int (h w (List.mem_cons_self ..))) (ih fun x hx => h x (List.mem_cons_of_mem _ hx)) (Nat.le_refl _)
    rw [List.map_cons, List.map_cons, List.length_cons]
    have e : 22 * (ws.length + 1) = 20 + 22 * ws.length + 2 := by omega
    rw [e]
    exact this
/-- the test that repr makes -/
def Rq (G1 G2 : Sto) (x y : Dv) : Prop := ∃ d, Mi.pyT G1 x = some d ∧ Mi.pyT G2 y = some d ∧ Mi.okR d
theorem Re.pyT {x : Dv} {d : PyData} {n m : Nat} (h : Re x d n m) (G : Sto) : Mi.pyT G x = some d := by
  have := h.p G
  cases x <;> first | exact this | cases this
theorem Re.rq {x : Dv} {d : PyData} {n m : Nat} (h : Re x d n m) (hn : n ≤ 16000000) (hm : m ≤ 40) (G1 G2 : Sto) : ∃ d, Mi.pyT G1 x = some d ∧ Mi.pyT G2 x = some d ∧ Mi.okR d :=
  ⟨d, h.pyT G1, h.pyT G2, n, h.w, hn, Nat.le_trans h.e hm⟩
theorem re_blank : Re d_BLANK (.tuple (ns_BLANK.map PyData.int)) (22 * ns_BLANK.length + 3) 1 := re_tup (re_ints fun w hw => by
    have : w = 0 := (List.mem_replicate.mp hw).2
    subst this
    decide)
theorem mul2 (x : Dv) (G : Sto) : Mi.bMul false (.fls [x]) (.int 2) G = some (.fls [x, x], G) := by
  unfold Mi.bMul
  dsimp only
  rw [if_pos (by refine ⟨by decide, by decide, ?_⟩; show 1 * 2 ≤ 16777216; decide)]
  rfl
theorem listR (a b : Int) (G : Sto) (h1 : 0 ≤ a) (h2 : a ≤ b) (h3 : b ≤ 100000) : Mi.bListR false (.int a) (.int b) G = some (.fls (Mi.rng a b), G) := by
  unfold Mi.bListR
  dsimp only
  rw [if_pos (by refine ⟨?_, ?_, ?_, ?_, ?_⟩ <;> omega)]
  rfl
def addD (a : Int) : Dv → Dv
  | .int j => .int (a + j)
  | d => d
theorem rng_map (a k : Int) : (Mi.rng 0 k).map (addD a) = Mi.rng a (a + k) := by
  unfold Mi.rng
  rw [List.map_map, show (a + k - a) = k by omega, Int.sub_zero]
  refine List.map_congr_left ?_; intro i _
  show Dv.int (a + (0 + (i : Int))) = Dv.int (a + i)
  rw [Int.zero_add]
theorem atI_rep {n : Nat} {x : Dv} {p : Int} (h1 : 0 ≤ p) (h2 : p < n) : Mi.atI (List.replicate n x) p = some x := by
  obtain ⟨y, e, hy⟩ := atI_ok (List.replicate n x) p h1 (by rw [List.length_replicate]; exact h2)
  rw [e, (List.mem_replicate.mp hy).2]
theorem atI_set {xs : List Dv} {x : Dv} {p : Nat} (h : p < xs.length) : Mi.atI (xs.set p x) (p : Int) = some x := by
  unfold Mi.atI
  rw [List.length_set, ixN_nat h]
  show (xs.set p x)[p]? = some x
  rw [List.getElem?_set_self h]
theorem Dk.disk {hd hc : Nat} {G G' : Sto} (d : Dk hd hc G) (s : Sm [] G G') : Dk hd hc G' := d.sm s (by simp) (by simp)
theorem Dk.lt {hd hc : Nat} {G : Sto} (d : Dk hd hc G) : hd < G.length ∧ hc < G.length := by
  obtain ⟨cs, m, t, e1, e2, _⟩ := d.ex
  exact ⟨lt_get e1, lt_get e2⟩
end Lw



namespace Lw
open Mi (Dv MO Sto Sl Rs bnd ME MT MA MS MF Fl MG MGs MI)
open PySem (PyData)
/-! ### blocks, what waits, what is newest -/
abbrev T (w : List Int) : Dv := .tup (w.map Dv.int)
def BlkD (x : Dv) : Prop := ∃ w, x = T w ∧ Blk w
theorem blkd_blank : BlkD d_BLANK := ⟨ns_BLANK, rfl, rfl, fun w hw => by rw [(List.mem_replicate.mp hw).2]; decide⟩
theorem snoc_ind {α : Type} {P : List α → Prop} (h0 : P []) (h1 : ∀ xs x, P xs → P (xs ++ [x])) (xs : List α) : P xs := by
  have : ∀ ys : List α, P ys.reverse := fun ys => by
    induction ys with
    | nil => exact h0
    | cons y ys ih => rw [List.reverse_cons]; exact h1 _ _ ih
  have q := this xs.reverse
  rw [List.reverse_reverse] at q
  exact q
/-- the newest blocks of what waits -/
def nwOf (its : List (Nat × Dv)) : List (Mi.Key × Dv) := its.foldl (fun m p => Mi.put m (Sum.inl (p.1 : Int)) p.2) []
theorem nwOf_app (its : List (Nat × Dv)) (p : Nat × Dv) : nwOf (its ++ [p]) = Mi.put (nwOf its) (Sum.inl (p.1 : Int)) p.2 := by
  unfold nwOf
  rw [List.foldl_append]
  rfl
theorem look_map_ne {k k' : Mi.Key} {v : Dv} (h : k' ≠ k) : ∀ m : List (Mi.Key × Dv), Mi.look (m.map fun kv => if kv.1 = k then (kv.1, v) else kv) k' = Mi.look m k'
  | [] => rfl
  | (a, b) :: m => by
    have ih := look_map_ne (v := v) h m
    unfold Mi.look at ih ⊢
    rw [List.map_cons, List.find?_cons, List.find?_cons]
    by_cases ha : a = k
    · rw [if_pos ha]
      have : decide (a = k') = false := decide_eq_false fun e => h (e ▸ ha)
      simp only [this]
      exact ih
    · rw [if_neg ha]
      by_cases hk : a = k'
      · simp only [decide_eq_true hk]
      · simp only [decide_eq_false hk]
        exact ih
theorem look_map_eq {k : Mi.Key} {v : Dv} : ∀ m : List (Mi.Key × Dv), (m.any fun kv => decide (kv.1 = k)) = true → Mi.look (m.map fun kv => if kv.1 = k then (kv.1, v) else kv) k = some v
  | [], h => by cases h
  | (a, b) :: m, h => by
    unfold Mi.look
    rw [List.map_cons, List.find?_cons]
    by_cases ha : a = k
    · rw [if_pos ha]
      simp only [decide_eq_true ha]
      rfl
    · rw [if_neg ha]
      simp only [decide_eq_false ha]
      rw [List.any_cons, decide_eq_false ha, Bool.false_or] at h
      exact look_map_eq m h
theorem look_none {k : Mi.Key} : ∀ m : List (Mi.Key × Dv), (m.any fun kv => decide (kv.1 = k)) = false → m.find? (fun kv => decide (kv.1 = k)) = none
  | [], _ => rfl
  | (a, b) :: m, h => by
    rw [List.any_cons, Bool.or_eq_false_iff] at h
    rw [List.find?_cons, h.1]
    exact look_none m h.2
theorem look_put (m : List (Mi.Key × Dv)) (k k' : Mi.Key) (v : Dv) : Mi.look (Mi.put m k v) k' = if k' = k then some v else Mi.look m k' := by
  unfold Mi.put
  by_cases h : (m.any fun kv => decide (kv.1 = k)) = true
  · rw [if_pos h]
    by_cases e : k' = k
    · rw [if_pos e, e]
      exact look_map_eq m h
    · rw [if_neg e]
      exact look_map_ne e m
  · rw [if_neg h]
    have h' : (m.any fun kv => decide (kv.1 = k)) = false := Bool.eq_false_iff.mpr h
    unfold Mi.look
    rw [List.find?_append]
    by_cases e : k' = k
    · subst e
      rw [if_pos rfl, look_none m h']
      simp
    · rw [if_neg e]
      have : ([(k, v)] : List (Mi.Key × Dv)).find? (fun kv => decide (kv.1 = k')) = none := by
        rw [List.find?_cons]
        simp only [decide_eq_false (show ¬ k = k' from fun z => e z.symm)]
        rfl
      rw [this]
      simp
/-- the newest block of a place among what waits -/
def rd (its : List (Nat × Dv)) (p : Nat) : Option Dv := (its.reverse.find? fun q => decide (q.1 = p)).map (·.2)
theorem look_nw (p : Nat) : ∀ its : List (Nat × Dv), Mi.look (nwOf its) (Sum.inl (p : Int)) = rd its p := by
  refine snoc_ind rfl fun its q ih => ?_
  · skip
    rw [nwOf_app, look_put, ih]
    unfold rd
    rw [List.reverse_append, List.reverse_singleton, List.singleton_append, List.find?_cons]
    by_cases e : q.1 = p
    · rw [if_pos (by rw [e]), decide_eq_true e]
      rfl
    · rw [if_neg (by intro z; apply e; have := Sum.inl.inj z; omega), decide_eq_false e]
theorem nw_len : ∀ its : List (Nat × Dv), (nwOf its).length ≤ its.length := by
  refine snoc_ind (Nat.le_refl _) fun its q ih => ?_
  · skip
    rw [nwOf_app, List.length_append]
    unfold Mi.put
    split
    · rw [List.length_map]; simp; omega
    · rw [List.length_append]; simp <;> omega
/-- a torn write: m words of the new one, the others as they stood -/
def mix (m : Int) : Dv → Dv → Dv
  | .tup a, .tup b => .tup (Mi.cut a none (some m) ++ Mi.cut b (some m) none)
  | x, _ => x
theorem cut_lo (a : List Dv) (m : Nat) (h : m ≤ a.length) : Mi.cut a none (some (m : Int)) = a.take m := by
  unfold Mi.cut Mi.sIx
  simp only
  rw [if_neg (by omega)]
  have e : min (m : Int).toNat a.length = m := Nat.min_eq_left h
  rw [e, List.drop_zero, Nat.sub_zero]
theorem cut_hi (a : List Dv) (m : Nat) (h : m ≤ a.length) : Mi.cut a (some (m : Int)) none = a.drop m := by
  unfold Mi.cut Mi.sIx
  simp only
  rw [if_neg (by omega)]
  have e : min (m : Int).toNat a.length = m := Nat.min_eq_left h
  rw [e, List.take_of_length_le]
  rw [List.length_drop]
  exact Nat.le_refl _
theorem mix_blk {x y : Dv} {m : Nat} (hx : BlkD x) (hy : BlkD y) (h : m ≤ 32) : BlkD (mix m x y) := by
  obtain ⟨w, rfl, b1⟩ := hx
  obtain ⟨v, rfl, b2⟩ := hy
  refine ⟨w.take m ++ v.drop m, ?_, ?_, fun z hz => ?_⟩
  · unfold mix
    dsimp only
    rw [cut_lo _ _ (by rw [List.length_map, b1.1]; exact h), cut_hi _ _ (by rw [List.length_map, b2.1]; exact h)]
    show Dv.tup _ = Dv.tup _
    rw [List.map_append, List.map_take, List.map_drop]
  · rw [List.length_append, List.length_take, List.length_drop, b1.1, b2.1]
    omega
  · rcases (List.mem_append.mp hz : _ ∨ _) with q | q
    · exact b1.2 z (List.mem_of_mem_take q)
    · exact b2.2 z (List.mem_of_mem_drop q)
theorem mix_zero {x y : Dv} (hx : BlkD x) (hy : BlkD y) : mix 0 x y = y := by
  obtain ⟨w, rfl, b1⟩ := hx
  obtain ⟨v, rfl, b2⟩ := hy
  have := cut_lo (w.map Dv.int) 0 (Nat.zero_le _)
  have h2 := cut_hi (v.map Dv.int) 0 (Nat.zero_le _)
  unfold mix
  dsimp only
  rw [show (0 : Int) = ((0 : Nat) : Int) from rfl, this, h2]
  rfl
/-- all that waits, torn by the keep -/
def cutAll : List Dv → List (Nat × Dv) → List Nat → List Dv
  | bl, p :: its, m :: ks => cutAll (bl.set p.1 (mix m p.2 (bl.getD p.1 .non))) its ks
  | bl, _, _ => bl
end Lw


namespace Lw
open Mi (Dv MO Sto Sl Rs bnd ME MT MA MS MF Fl MG MGs MI)
open PySem (PyData)
theorem atI_nat {xs : List Dv} {p : Nat} (h : p < xs.length) : Mi.atI xs (p : Int) = some (xs.getD p .non) := by
  unfold Mi.atI
  rw [ixN_nat h]
  show xs[p]? = _
  simp only [List.getElem?_eq_getElem h, List.getD_eq_getElem?_getD]
  rfl
theorem cut_le (xs : List Dv) (lo hi : Option Int) : (Mi.cut xs lo hi).length ≤ xs.length := by
  unfold Mi.cut
  simp only [List.length_take, List.length_drop]
  omega
theorem blk_len {x : Dv} (h : BlkD x) : ∃ a, x = .tup a ∧ a.length = 32 := by
  obtain ⟨w, rfl, b⟩ := h
  exact ⟨_, rfl, by rw [List.length_map]; exact b.1⟩
theorem mixE (a b : List Dv) (m : Int) (G : Sto) (h1 : a.length = 32) (h2 : b.length = 32) : Mi.bAdd false (.tup (Mi.cut a none (some m))) (.tup (Mi.cut b (some m) none)) G = some (mix m (.tup a) (.tup b), G) := by
  unfold Mi.bAdd
  dsimp only
  rw [if_pos]
  · rfl
  · have := cut_le a none (some m)
    have := cut_le b (some m) none
    show _ ≤ 16777216
    omega
/-- the law's own disk -/
def itD (s k : Int) (hs : Nat) (wt fu : Dv) : List (Mi.Key × Dv) := [(Sum.inr "sizes", .tup [.int s, .int k, .int (N' s k), .int (R' s k)]), (Sum.inr "stand", .ref hs), (Sum.inr "wait", wt), (Sum.inr "fuse", fu)]
section
variable {G : Sto} {hi hs h hb hq hn : Nat} {s k : Int} {bl : List Dv} {its : List (Nat × Dv)} {nw : List (Mi.Key × Dv)}
theorem blank_ok (s k : Int) (G : Sto) (h1 : 6 ≤ s ∧ s ≤ 40) (h2 : 4 ≤ k ∧ k ≤ 24) :
    m_law_blank [.tup [.int s, .int k, .int (N' s k), .int (R' s k)]] G = some (.ref G.length, G ++ [.dct (itD s k (G.length + 1) (.fls []) .non), .lst (List.replicate (Many s k) d_BLANK)]) := by
  have hp := prodB h1 h2
  have hr := R'_b h1 h2
  have hM : (Many s k : Int) = 2 * R' s k + s * k := by unfold Many; rw [Int.toNat_of_nonneg (by omega)]
  have lm := fun G => law_many_ok s k G h1 h2
  have mt : ∀ (G : Sto), Mi.bMul false (.tup [.int 0]) (.int 32) G = some (d_BLANK, G) := fun G => rfl
  have c3 : ∀ G, Mi.bMul true (.fls [d_BLANK]) (.int (Many s k)) G = some (.ref G.length, G ++ [.lst (List.replicate (Many s k) d_BLANK)]) := fun G => by
    unfold Mi.bMul
    dsimp only
    rw [if_pos ⟨by omega, by omega, by show 1 * ((Many s k : Int)).toNat ≤ 16777216; omega⟩, rep1]
    rfl
  simp only [Mi.bnd, Mi.mVar, Mi.mC, Mi.mkL, Mi.m2, Mi.m1, Mi.uNeg, Mi.bAdd, Mi.bSub, Mi.bDiv, Mi.bMod, Mi.bPow, Mi.sEq, Mi.bEq, Mi.bCmp, Mi.bLt, Mi.bLe, Mi.bGt, Mi.bGe, Mi.isNon, Mi.mIsN, Mi.mChain, Mi.mAnd, Mi.mOr, Mi.mNot, Mi.mTb, Mi.mTand, Mi.mTor, Mi.mTnot, Mi.mIf, Mi.mNil, Mi.mCons, Mi.mTup, Mi.mLst, Mi.mB, Mi.kOf, Mi.mFld, Mi.mCall, Mi.mCallK, Mi.mMeth, Mi.mMethK, Mi.mDef, Mi.fInt, Mi.fMax, Mi.fMin, Mi.isI, Mi.mIsI, Ms.mIsC, Mi.gNm, Mi.gNil, Mi.gCons, Mi.gTup, Mi.mSeq, Mi.mSkip, Mi.mBrk, Mi.mCont, Mi.mAsg, Mi.mPar, Mi.mExpr, Mi.mRet, Mi.mRetN, Mi.mIfS, Mi.tYes, Mi.wipe, Ms.mDct0, Ms.bAddI, List.map_cons, List.map_nil, List.nil_append, List.cons_append, List.length_cons, List.length_nil, List.replicate_succ, List.replicate_zero, List.getElem?_cons_zero, List.getElem?_cons_succ, List.getElem?_nil, List.set_cons_zero, List.set_cons_succ, Option.map_some, Option.map_none, if_true, if_false, reduceIte, decide_true, decide_false, Nat.reduceAdd, Nat.reduceLeDiff, List.mem_cons, List.mem_singleton, true_or, or_true, true_and, and_true, bne_self_eq_false, Bool.not_true, Bool.not_false, reduceCtorEq, Nat.reduceEqDiff, beq_self_eq_true, Nat.reduceLT, Int.reduceLT, Int.reduceLE, Int.reduceToNat, Int.reduceAdd, Int.reduceSub, Int.reduceMul, Int.reduceNeg, String.reduceEq, String.reduceBEq, List.lookup_cons, List.lookup_nil, Mi.big, Mi.putF, List.length_append, List.append_assoc, ite_true, ite_false, Bool.false_eq_true, and_self, not_true_eq_false, not_false_eq_true, Sum.inr.injEq, Sum.inl.injEq, Mi.look, Mi.put, List.any_cons, List.any_nil, Bool.or_true, Bool.or_false, Bool.true_or, Bool.false_or, List.find?_cons, Option.getD_some, Option.getD_none, Bool.bne_false, Bool.false_bne, Bool.true_bne, Bool.bne_true, Int.reduceEq, Int.reducePow, m_law_blank, b_law_blank, Mi.mDisp, Mi.mPairs, mt, lm, c3, get0, set0, List.foldl_cons, List.foldl_nil, itD]
theorem sub_wait {wt fu : Dv} (e : G[hi]? = some (.dct (itD s k hs wt fu))) : Mi.bSubs (.ref hi) (.str "wait") G = some (wt, G) := by
  simp only [Mi.bnd, Mi.mVar, Mi.mC, Mi.mkL, Mi.m2, Mi.m1, Mi.uNeg, Mi.bAdd, Mi.bSub, Mi.bDiv, Mi.bMod, Mi.bPow, Mi.sEq, Mi.bEq, Mi.bCmp, Mi.bLt, Mi.bLe, Mi.bGt, Mi.bGe, Mi.isNon, Mi.mIsN, Mi.mChain, Mi.mAnd, Mi.mOr, Mi.mNot, Mi.mTb, Mi.mTand, Mi.mTor, Mi.mTnot, Mi.mIf, Mi.mNil, Mi.mCons, Mi.mTup, Mi.mLst, Mi.mB, Mi.kOf, Mi.mFld, Mi.mCall, Mi.mCallK, Mi.mMeth, Mi.mMethK, Mi.mDef, Mi.fInt, Mi.fMax, Mi.fMin, Mi.isI, Mi.mIsI, Ms.mIsC, Mi.gNm, Mi.gNil, Mi.gCons, Mi.gTup, Mi.mSeq, Mi.mSkip, Mi.mBrk, Mi.mCont, Mi.mAsg, Mi.mPar, Mi.mExpr, Mi.mRet, Mi.mRetN, Mi.mIfS, Mi.tYes, Mi.wipe, Ms.mDct0, Ms.bAddI, List.map_cons, List.map_nil, List.nil_append, List.cons_append, List.length_cons, List.length_nil, List.replicate_succ, List.replicate_zero, List.getElem?_cons_zero, List.getElem?_cons_succ, List.getElem?_nil, List.set_cons_zero, List.set_cons_succ, Option.map_some, Option.map_none, if_true, if_false, reduceIte, decide_true, decide_false, Nat.reduceAdd, Nat.reduceLeDiff, List.mem_cons, List.mem_singleton, true_or, or_true, true_and, and_true, bne_self_eq_false, Bool.not_true, Bool.not_false, reduceCtorEq, Nat.reduceEqDiff, beq_self_eq_true, Nat.reduceLT, Int.reduceLT, Int.reduceLE, Int.reduceToNat, Int.reduceAdd, Int.reduceSub, Int.reduceMul, Int.reduceNeg, String.reduceEq, String.reduceBEq, List.lookup_cons, List.lookup_nil, Mi.big, Mi.putF, List.length_append, List.append_assoc, ite_true, ite_false, Bool.false_eq_true, and_self, not_true_eq_false, not_false_eq_true, Sum.inr.injEq, Sum.inl.injEq, Mi.look, Mi.put, List.any_cons, List.any_nil, Bool.or_true, Bool.or_false, Bool.true_or, Bool.false_or, List.find?_cons, Option.getD_some, Option.getD_none, Bool.bne_false, Bool.false_bne, Bool.true_bne, Bool.bne_true, Int.reduceEq, Int.reducePow, Mi.bSubs, Mi.bGet, e, itD]
theorem sub_stand {wt fu : Dv} (e : G[hi]? = some (.dct (itD s k hs wt fu))) : Mi.bSubs (.ref hi) (.str "stand") G = some (.ref hs, G) := by
  simp only [Mi.bnd, Mi.mVar, Mi.mC, Mi.mkL, Mi.m2, Mi.m1, Mi.uNeg, Mi.bAdd, Mi.bSub, Mi.bDiv, Mi.bMod, Mi.bPow, Mi.sEq, Mi.bEq, Mi.bCmp, Mi.bLt, Mi.bLe, Mi.bGt, Mi.bGe, Mi.isNon, Mi.mIsN, Mi.mChain, Mi.mAnd, Mi.mOr, Mi.mNot, Mi.mTb, Mi.mTand, Mi.mTor, Mi.mTnot, Mi.mIf, Mi.mNil, Mi.mCons, Mi.mTup, Mi.mLst, Mi.mB, Mi.kOf, Mi.mFld, Mi.mCall, Mi.mCallK, Mi.mMeth, Mi.mMethK, Mi.mDef, Mi.fInt, Mi.fMax, Mi.fMin, Mi.isI, Mi.mIsI, Ms.mIsC, Mi.gNm, Mi.gNil, Mi.gCons, Mi.gTup, Mi.mSeq, Mi.mSkip, Mi.mBrk, Mi.mCont, Mi.mAsg, Mi.mPar, Mi.mExpr, Mi.mRet, Mi.mRetN, Mi.mIfS, Mi.tYes, Mi.wipe, Ms.mDct0, Ms.bAddI, List.map_cons, List.map_nil, List.nil_append, List.cons_append, List.length_cons, List.length_nil, List.replicate_succ, List.replicate_zero, List.getElem?_cons_zero, List.getElem?_cons_succ, List.getElem?_nil, List.set_cons_zero, List.set_cons_succ, Option.map_some, Option.map_none, if_true, if_false, reduceIte, decide_true, decide_false, Nat.reduceAdd, Nat.reduceLeDiff, List.mem_cons, List.mem_singleton, true_or, or_true, true_and, and_true, bne_self_eq_false, Bool.not_true, Bool.not_false, reduceCtorEq, Nat.reduceEqDiff, beq_self_eq_true, Nat.reduceLT, Int.reduceLT, Int.reduceLE, Int.reduceToNat, Int.reduceAdd, Int.reduceSub, Int.reduceMul, Int.reduceNeg, String.reduceEq, String.reduceBEq, List.lookup_cons, List.lookup_nil, Mi.big, Mi.putF, List.length_append, List.append_assoc, ite_true, ite_false, Bool.false_eq_true, and_self, not_true_eq_false, not_false_eq_true, Sum.inr.injEq, Sum.inl.injEq, Mi.look, Mi.put, List.any_cons, List.any_nil, Bool.or_true, Bool.or_false, Bool.true_or, Bool.false_or, List.find?_cons, Option.getD_some, Option.getD_none, Bool.bne_false, Bool.false_bne, Bool.true_bne, Bool.bne_true, Int.reduceEq, Int.reducePow, Mi.bSubs, Mi.bGet, e, itD]
theorem sub_sizes {wt fu : Dv} (e : G[hi]? = some (.dct (itD s k hs wt fu))) : Mi.bSubs (.ref hi) (.str "sizes") G = some (.tup [.int s, .int k, .int (N' s k), .int (R' s k)], G) := by
  simp only [Mi.bnd, Mi.mVar, Mi.mC, Mi.mkL, Mi.m2, Mi.m1, Mi.uNeg, Mi.bAdd, Mi.bSub, Mi.bDiv, Mi.bMod, Mi.bPow, Mi.sEq, Mi.bEq, Mi.bCmp, Mi.bLt, Mi.bLe, Mi.bGt, Mi.bGe, Mi.isNon, Mi.mIsN, Mi.mChain, Mi.mAnd, Mi.mOr, Mi.mNot, Mi.mTb, Mi.mTand, Mi.mTor, Mi.mTnot, Mi.mIf, Mi.mNil, Mi.mCons, Mi.mTup, Mi.mLst, Mi.mB, Mi.kOf, Mi.mFld, Mi.mCall, Mi.mCallK, Mi.mMeth, Mi.mMethK, Mi.mDef, Mi.fInt, Mi.fMax, Mi.fMin, Mi.isI, Mi.mIsI, Ms.mIsC, Mi.gNm, Mi.gNil, Mi.gCons, Mi.gTup, Mi.mSeq, Mi.mSkip, Mi.mBrk, Mi.mCont, Mi.mAsg, Mi.mPar, Mi.mExpr, Mi.mRet, Mi.mRetN, Mi.mIfS, Mi.tYes, Mi.wipe, Ms.mDct0, Ms.bAddI, List.map_cons, List.map_nil, List.nil_append, List.cons_append, List.length_cons, List.length_nil, List.replicate_succ, List.replicate_zero, List.getElem?_cons_zero, List.getElem?_cons_succ, List.getElem?_nil, List.set_cons_zero, List.set_cons_succ, Option.map_some, Option.map_none, if_true, if_false, reduceIte, decide_true, decide_false, Nat.reduceAdd, Nat.reduceLeDiff, List.mem_cons, List.mem_singleton, true_or, or_true, true_and, and_true, bne_self_eq_false, Bool.not_true, Bool.not_false, reduceCtorEq, Nat.reduceEqDiff, beq_self_eq_true, Nat.reduceLT, Int.reduceLT, Int.reduceLE, Int.reduceToNat, Int.reduceAdd, Int.reduceSub, Int.reduceMul, Int.reduceNeg, String.reduceEq, String.reduceBEq, List.lookup_cons, List.lookup_nil, Mi.big, Mi.putF, List.length_append, List.append_assoc, ite_true, ite_false, Bool.false_eq_true, and_self, not_true_eq_false, not_false_eq_true, Sum.inr.injEq, Sum.inl.injEq, Mi.look, Mi.put, List.any_cons, List.any_nil, Bool.or_true, Bool.or_false, Bool.true_or, Bool.false_or, List.find?_cons, Option.getD_some, Option.getD_none, Bool.bne_false, Bool.false_bne, Bool.true_bne, Bool.bne_true, Int.reduceEq, Int.reducePow, Mi.bSubs, Mi.bGet, e, itD]
theorem put_wait (wt wt' fu : Dv) : Mi.put (itD s k hs wt fu) (Sum.inr "wait") wt' = itD s k hs wt' fu := by
  simp [Mi.put, itD]
theorem put_fuse (wt fu fu' : Dv) : Mi.put (itD s k hs wt fu) (Sum.inr "fuse") fu' = itD s k hs wt fu' := by
  simp [Mi.put, itD]
theorem itD_len (wt fu : Dv) : (itD s k hs wt fu).length < 16777216 := by show 4 < 16777216; decide
/-- the law's read -/
theorem read_loop (a : Option Dv) (p : Nat) (G : Sto) : ∀ (r : List (Nat × Dv)) (x y : Option Dv), ∃ x' y', Mi.mLoop (Mi.gTup 2 (Mi.gCons (Mi.gNm 2) (Mi.gCons (Mi.gNm 3) Mi.gNil))) qb_law_read_1 (fun _ => True) (qOf r) [a, some (.int p), x, y] G =
    match r.find? (fun q => decide (q.1 = p)) with
    | some q => some (.rt q.2, [a, some (.int p), x', y'], G)
    | none => some (.nx, [a, some (.int p), x', y'], G)
  | [], x, y => ⟨x, y, by unfold qOf Mi.mLoop; simp⟩
  | q :: r, x, y => by
    by_cases e : q.1 = p
    · refine ⟨some (.int q.1), some q.2, ?_⟩
      show Mi.mLoop _ _ _ (.tup [.int q.1, q.2] :: qOf r) _ G = _
      unfold Mi.mLoop
      rw [List.find?_cons, decide_eq_true e]
      have e' : ((q.1 : Int) = (p : Int)) := by rw [e]
      simp only [Mi.bnd, Mi.mVar, Mi.mC, Mi.mkL, Mi.m2, Mi.m1, Mi.uNeg, Mi.bAdd, Mi.bSub, Mi.bDiv, Mi.bMod, Mi.bPow, Mi.sEq, Mi.bEq, Mi.bCmp, Mi.bLt, Mi.bLe, Mi.bGt, Mi.bGe, Mi.isNon, Mi.mIsN, Mi.mChain, Mi.mAnd, Mi.mOr, Mi.mNot, Mi.mTb, Mi.mTand, Mi.mTor, Mi.mTnot, Mi.mIf, Mi.mNil, Mi.mCons, Mi.mTup, Mi.mLst, Mi.mB, Mi.kOf, Mi.mFld, Mi.mCall, Mi.mCallK, Mi.mMeth, Mi.mMethK, Mi.mDef, Mi.fInt, Mi.fMax, Mi.fMin, Mi.isI, Mi.mIsI, Ms.mIsC, Mi.gNm, Mi.gNil, Mi.gCons, Mi.gTup, Mi.mSeq, Mi.mSkip, Mi.mBrk, Mi.mCont, Mi.mAsg, Mi.mPar, Mi.mExpr, Mi.mRet, Mi.mRetN, Mi.mIfS, Mi.tYes, Mi.wipe, Ms.mDct0, Ms.bAddI, List.map_cons, List.map_nil, List.nil_append, List.cons_append, List.length_cons, List.length_nil, List.replicate_succ, List.replicate_zero, List.getElem?_cons_zero, List.getElem?_cons_succ, List.getElem?_nil, List.set_cons_zero, List.set_cons_succ, Option.map_some, Option.map_none, if_true, if_false, reduceIte, decide_true, decide_false, Nat.reduceAdd, Nat.reduceLeDiff, List.mem_cons, List.mem_singleton, true_or, or_true, true_and, and_true, bne_self_eq_false, Bool.not_true, Bool.not_false, reduceCtorEq, Nat.reduceEqDiff, beq_self_eq_true, Nat.reduceLT, Int.reduceLT, Int.reduceLE, Int.reduceToNat, Int.reduceAdd, Int.reduceSub, Int.reduceMul, Int.reduceNeg, String.reduceEq, String.reduceBEq, List.lookup_cons, List.lookup_nil, Mi.big, Mi.putF, List.length_append, List.append_assoc, ite_true, ite_false, Bool.false_eq_true, and_self, not_true_eq_false, not_false_eq_true, Sum.inr.injEq, Sum.inl.injEq, Mi.look, Mi.put, List.any_cons, List.any_nil, Bool.or_true, Bool.or_false, Bool.true_or, Bool.false_or, List.find?_cons, Option.getD_some, Option.getD_none, Bool.bne_false, Bool.false_bne, Bool.true_bne, Bool.bne_true, Int.reduceEq, Int.reducePow, qb_law_read_1, e']
    · obtain ⟨x', y', ih⟩ := read_loop a p G r (some (.int q.1)) (some q.2)
      refine ⟨x', y', ?_⟩
      show Mi.mLoop _ _ _ (.tup [.int q.1, q.2] :: qOf r) _ G = _
      unfold Mi.mLoop
      rw [List.find?_cons, decide_eq_false e]
      have e' : ¬ ((q.1 : Int) = (p : Int)) := by omega
      have ih' := ih
      simp only [Mi.bnd, Mi.mVar, Mi.mC, Mi.mkL, Mi.m2, Mi.m1, Mi.uNeg, Mi.bAdd, Mi.bSub, Mi.bDiv, Mi.bMod, Mi.bPow, Mi.sEq, Mi.bEq, Mi.bCmp, Mi.bLt, Mi.bLe, Mi.bGt, Mi.bGe, Mi.isNon, Mi.mIsN, Mi.mChain, Mi.mAnd, Mi.mOr, Mi.mNot, Mi.mTb, Mi.mTand, Mi.mTor, Mi.mTnot, Mi.mIf, Mi.mNil, Mi.mCons, Mi.mTup, Mi.mLst, Mi.mB, Mi.kOf, Mi.mFld, Mi.mCall, Mi.mCallK, Mi.mMeth, Mi.mMethK, Mi.mDef, Mi.fInt, Mi.fMax, Mi.fMin, Mi.isI, Mi.mIsI, Ms.mIsC, Mi.gNm, Mi.gNil, Mi.gCons, Mi.gTup, Mi.mSeq, Mi.mSkip, Mi.mBrk, Mi.mCont, Mi.mAsg, Mi.mPar, Mi.mExpr, Mi.mRet, Mi.mRetN, Mi.mIfS, Mi.tYes, Mi.wipe, Ms.mDct0, Ms.bAddI, List.map_cons, List.map_nil, List.nil_append, List.cons_append, List.length_cons, List.length_nil, List.replicate_succ, List.replicate_zero, List.getElem?_cons_zero, List.getElem?_cons_succ, List.getElem?_nil, List.set_cons_zero, List.set_cons_succ, Option.map_some, Option.map_none, if_true, if_false, reduceIte, decide_true, decide_false, Nat.reduceAdd, Nat.reduceLeDiff, List.mem_cons, List.mem_singleton, true_or, or_true, true_and, and_true, bne_self_eq_false, Bool.not_true, Bool.not_false, reduceCtorEq, Nat.reduceEqDiff, beq_self_eq_true, Nat.reduceLT, Int.reduceLT, Int.reduceLE, Int.reduceToNat, Int.reduceAdd, Int.reduceSub, Int.reduceMul, Int.reduceNeg, String.reduceEq, String.reduceBEq, List.lookup_cons, List.lookup_nil, Mi.big, Mi.putF, List.length_append, List.append_assoc, ite_true, ite_false, Bool.false_eq_true, and_self, not_true_eq_false, not_false_eq_true, Sum.inr.injEq, Sum.inl.injEq, Mi.look, Mi.put, List.any_cons, List.any_nil, Bool.or_true, Bool.or_false, Bool.true_or, Bool.false_or, List.find?_cons, Option.getD_some, Option.getD_none, Bool.bne_false, Bool.false_bne, Bool.true_bne, Bool.bne_true, Int.reduceEq, Int.reducePow, qb_law_read_1, e'] 
      exact ih
theorem qOf_rev (its : List (Nat × Dv)) : (qOf its).reverse = qOf its.reverse := by unfold qOf; rw [List.map_reverse]
theorem law_read_ok {fu : Dv} (e : G[hi]? = some (.dct (itD s k hs (.fls (qOf its)) fu))) (e2 : G[hs]? = some (.lst bl)) (p : Nat) (hp : p < bl.length) : m_law_read [.ref hi, .int p] G = some ((rd its p).getD (bl.getD p .non), G) := by
  obtain ⟨x', y', lp⟩ := read_loop (some (.ref hi)) p G its.reverse none none
  have w := sub_wait e
  have st := sub_stand e
  have e3 : qf_law_read_1 [some (.ref hi), some (.int p), none, none] G = match its.reverse.find? (fun q => decide (q.1 = p)) with
    | some q => some (.rt q.2, [some (.ref hi), some (.int p), x', y'], G)
    | none => some (.nx, [some (.ref hi), some (.int p), x', y'], G) := by
    rw [← lp]
    unfold qf_law_read_1 qi_law_read_1 Mi.mFor
    simp only [Mi.bnd, Mi.mVar, Mi.mC, Mi.mkL, Mi.m2, Mi.m1, Mi.uNeg, Mi.bAdd, Mi.bSub, Mi.bDiv, Mi.bMod, Mi.bPow, Mi.sEq, Mi.bEq, Mi.bCmp, Mi.bLt, Mi.bLe, Mi.bGt, Mi.bGe, Mi.isNon, Mi.mIsN, Mi.mChain, Mi.mAnd, Mi.mOr, Mi.mNot, Mi.mTb, Mi.mTand, Mi.mTor, Mi.mTnot, Mi.mIf, Mi.mNil, Mi.mCons, Mi.mTup, Mi.mLst, Mi.mB, Mi.kOf, Mi.mFld, Mi.mCall, Mi.mCallK, Mi.mMeth, Mi.mMethK, Mi.mDef, Mi.fInt, Mi.fMax, Mi.fMin, Mi.isI, Mi.mIsI, Ms.mIsC, Mi.gNm, Mi.gNil, Mi.gCons, Mi.gTup, Mi.mSeq, Mi.mSkip, Mi.mBrk, Mi.mCont, Mi.mAsg, Mi.mPar, Mi.mExpr, Mi.mRet, Mi.mRetN, Mi.mIfS, Mi.tYes, Mi.wipe, Ms.mDct0, Ms.bAddI, List.map_cons, List.map_nil, List.nil_append, List.cons_append, List.length_cons, List.length_nil, List.replicate_succ, List.replicate_zero, List.getElem?_cons_zero, List.getElem?_cons_succ, List.getElem?_nil, List.set_cons_zero, List.set_cons_succ, Option.map_some, Option.map_none, if_true, if_false, reduceIte, decide_true, decide_false, Nat.reduceAdd, Nat.reduceLeDiff, List.mem_cons, List.mem_singleton, true_or, or_true, true_and, and_true, bne_self_eq_false, Bool.not_true, Bool.not_false, reduceCtorEq, Nat.reduceEqDiff, beq_self_eq_true, Nat.reduceLT, Int.reduceLT, Int.reduceLE, Int.reduceToNat, Int.reduceAdd, Int.reduceSub, Int.reduceMul, Int.reduceNeg, String.reduceEq, String.reduceBEq, List.lookup_cons, List.lookup_nil, Mi.big, Mi.putF, List.length_append, List.append_assoc, ite_true, ite_false, Bool.false_eq_true, and_self, not_true_eq_false, not_false_eq_true, Sum.inr.injEq, Sum.inl.injEq, Mi.look, Mi.put, List.any_cons, List.any_nil, Bool.or_true, Bool.or_false, Bool.true_or, Bool.false_or, List.find?_cons, Option.getD_some, Option.getD_none, Bool.bne_false, Bool.false_bne, Bool.true_bne, Bool.bne_true, Int.reduceEq, Int.reducePow, Mi.iSeq, w, Mi.mRev, Mi.lstOf, Mi.seqOf, qOf_rev]
  have at2 := atI_nat hp
  have bs : Mi.bSubs (.ref hs) (.int (p : Int)) G = some (bl.getD p .non, G) := by
    simp only [Mi.bnd, Mi.mVar, Mi.mC, Mi.mkL, Mi.m2, Mi.m1, Mi.uNeg, Mi.bAdd, Mi.bSub, Mi.bDiv, Mi.bMod, Mi.bPow, Mi.sEq, Mi.bEq, Mi.bCmp, Mi.bLt, Mi.bLe, Mi.bGt, Mi.bGe, Mi.isNon, Mi.mIsN, Mi.mChain, Mi.mAnd, Mi.mOr, Mi.mNot, Mi.mTb, Mi.mTand, Mi.mTor, Mi.mTnot, Mi.mIf, Mi.mNil, Mi.mCons, Mi.mTup, Mi.mLst, Mi.mB, Mi.kOf, Mi.mFld, Mi.mCall, Mi.mCallK, Mi.mMeth, Mi.mMethK, Mi.mDef, Mi.fInt, Mi.fMax, Mi.fMin, Mi.isI, Mi.mIsI, Ms.mIsC, Mi.gNm, Mi.gNil, Mi.gCons, Mi.gTup, Mi.mSeq, Mi.mSkip, Mi.mBrk, Mi.mCont, Mi.mAsg, Mi.mPar, Mi.mExpr, Mi.mRet, Mi.mRetN, Mi.mIfS, Mi.tYes, Mi.wipe, Ms.mDct0, Ms.bAddI, List.map_cons, List.map_nil, List.nil_append, List.cons_append, List.length_cons, List.length_nil, List.replicate_succ, List.replicate_zero, List.getElem?_cons_zero, List.getElem?_cons_succ, List.getElem?_nil, List.set_cons_zero, List.set_cons_succ, Option.map_some, Option.map_none, if_true, if_false, reduceIte, decide_true, decide_false, Nat.reduceAdd, Nat.reduceLeDiff, List.mem_cons, List.mem_singleton, true_or, or_true, true_and, and_true, bne_self_eq_false, Bool.not_true, Bool.not_false, reduceCtorEq, Nat.reduceEqDiff, beq_self_eq_true, Nat.reduceLT, Int.reduceLT, Int.reduceLE, Int.reduceToNat, Int.reduceAdd, Int.reduceSub, Int.reduceMul, Int.reduceNeg, String.reduceEq, String.reduceBEq, List.lookup_cons, List.lookup_nil, Mi.big, Mi.putF, List.length_append, List.append_assoc, ite_true, ite_false, Bool.false_eq_true, and_self, not_true_eq_false, not_false_eq_true, Sum.inr.injEq, Sum.inl.injEq, Mi.look, Mi.put, List.any_cons, List.any_nil, Bool.or_true, Bool.or_false, Bool.true_or, Bool.false_or, List.find?_cons, Option.getD_some, Option.getD_none, Bool.bne_false, Bool.false_bne, Bool.true_bne, Bool.bne_true, Int.reduceEq, Int.reducePow, Mi.bSubs, Mi.bGet, e2, Mi.bIx, Mi.seqOf, Mi.lstOf, at2]
  unfold rd
  cases ef : its.reverse.find? (fun q => decide (q.1 = p)) with
  | none =>
    rw [ef] at e3
    simp only [Mi.bnd, Mi.mVar, Mi.mC, Mi.mkL, Mi.m2, Mi.m1, Mi.uNeg, Mi.bAdd, Mi.bSub, Mi.bDiv, Mi.bMod, Mi.bPow, Mi.sEq, Mi.bEq, Mi.bCmp, Mi.bLt, Mi.bLe, Mi.bGt, Mi.bGe, Mi.isNon, Mi.mIsN, Mi.mChain, Mi.mAnd, Mi.mOr, Mi.mNot, Mi.mTb, Mi.mTand, Mi.mTor, Mi.mTnot, Mi.mIf, Mi.mNil, Mi.mCons, Mi.mTup, Mi.mLst, Mi.mB, Mi.kOf, Mi.mFld, Mi.mCall, Mi.mCallK, Mi.mMeth, Mi.mMethK, Mi.mDef, Mi.fInt, Mi.fMax, Mi.fMin, Mi.isI, Mi.mIsI, Ms.mIsC, Mi.gNm, Mi.gNil, Mi.gCons, Mi.gTup, Mi.mSeq, Mi.mSkip, Mi.mBrk, Mi.mCont, Mi.mAsg, Mi.mPar, Mi.mExpr, Mi.mRet, Mi.mRetN, Mi.mIfS, Mi.tYes, Mi.wipe, Ms.mDct0, Ms.bAddI, List.map_cons, List.map_nil, List.nil_append, List.cons_append, List.length_cons, List.length_nil, List.replicate_succ, List.replicate_zero, List.getElem?_cons_zero, List.getElem?_cons_succ, List.getElem?_nil, List.set_cons_zero, List.set_cons_succ, Option.map_some, Option.map_none, if_true, if_false, reduceIte, decide_true, decide_false, Nat.reduceAdd, Nat.reduceLeDiff, List.mem_cons, List.mem_singleton, true_or, or_true, true_and, and_true, bne_self_eq_false, Bool.not_true, Bool.not_false, reduceCtorEq, Nat.reduceEqDiff, beq_self_eq_true, Nat.reduceLT, Int.reduceLT, Int.reduceLE, Int.reduceToNat, Int.reduceAdd, Int.reduceSub, Int.reduceMul, Int.reduceNeg, String.reduceEq, String.reduceBEq, List.lookup_cons, List.lookup_nil, Mi.big, Mi.putF, List.length_append, List.append_assoc, ite_true, ite_false, Bool.false_eq_true, and_self, not_true_eq_false, not_false_eq_true, Sum.inr.injEq, Sum.inl.injEq, Mi.look, Mi.put, List.any_cons, List.any_nil, Bool.or_true, Bool.or_false, Bool.true_or, Bool.false_or, List.find?_cons, Option.getD_some, Option.getD_none, Bool.bne_false, Bool.false_bne, Bool.true_bne, Bool.bne_true, Int.reduceEq, Int.reducePow, m_law_read, b_law_read, e3, st, bs]
  | some q =>
    rw [ef] at e3
    simp only [Mi.bnd, Mi.mVar, Mi.mC, Mi.mkL, Mi.m2, Mi.m1, Mi.uNeg, Mi.bAdd, Mi.bSub, Mi.bDiv, Mi.bMod, Mi.bPow, Mi.sEq, Mi.bEq, Mi.bCmp, Mi.bLt, Mi.bLe, Mi.bGt, Mi.bGe, Mi.isNon, Mi.mIsN, Mi.mChain, Mi.mAnd, Mi.mOr, Mi.mNot, Mi.mTb, Mi.mTand, Mi.mTor, Mi.mTnot, Mi.mIf, Mi.mNil, Mi.mCons, Mi.mTup, Mi.mLst, Mi.mB, Mi.kOf, Mi.mFld, Mi.mCall, Mi.mCallK, Mi.mMeth, Mi.mMethK, Mi.mDef, Mi.fInt, Mi.fMax, Mi.fMin, Mi.isI, Mi.mIsI, Ms.mIsC, Mi.gNm, Mi.gNil, Mi.gCons, Mi.gTup, Mi.mSeq, Mi.mSkip, Mi.mBrk, Mi.mCont, Mi.mAsg, Mi.mPar, Mi.mExpr, Mi.mRet, Mi.mRetN, Mi.mIfS, Mi.tYes, Mi.wipe, Ms.mDct0, Ms.bAddI, List.map_cons, List.map_nil, List.nil_append, List.cons_append, List.length_cons, List.length_nil, List.replicate_succ, List.replicate_zero, List.getElem?_cons_zero, List.getElem?_cons_succ, List.getElem?_nil, List.set_cons_zero, List.set_cons_succ, Option.map_some, Option.map_none, if_true, if_false, reduceIte, decide_true, decide_false, Nat.reduceAdd, Nat.reduceLeDiff, List.mem_cons, List.mem_singleton, true_or, or_true, true_and, and_true, bne_self_eq_false, Bool.not_true, Bool.not_false, reduceCtorEq, Nat.reduceEqDiff, beq_self_eq_true, Nat.reduceLT, Int.reduceLT, Int.reduceLE, Int.reduceToNat, Int.reduceAdd, Int.reduceSub, Int.reduceMul, Int.reduceNeg, String.reduceEq, String.reduceBEq, List.lookup_cons, List.lookup_nil, Mi.big, Mi.putF, List.length_append, List.append_assoc, ite_true, ite_false, Bool.false_eq_true, and_self, not_true_eq_false, not_false_eq_true, Sum.inr.injEq, Sum.inl.injEq, Mi.look, Mi.put, List.any_cons, List.any_nil, Bool.or_true, Bool.or_false, Bool.true_or, Bool.false_or, List.find?_cons, Option.getD_some, Option.getD_none, Bool.bne_false, Bool.false_bne, Bool.true_bne, Bool.bne_true, Int.reduceEq, Int.reducePow, m_law_read, b_law_read, e3]
theorem forced_ok {fu : Dv} (e : G[hi]? = some (.dct (itD s k hs (.fls (qOf its)) fu))) (e2 : G[hs]? = some (.lst bl)) (ne : hi ≠ hs) (hp : ∀ p ∈ its, p.1 < bl.length) :
    ∃ G', m_law_forced [.ref hi] G = some (.non, G') ∧ G'[hi]? = some (.dct (itD s k hs (.fls []) fu)) ∧ G'[hs]? = some (.lst (layAll bl its)) ∧ Sm [hi, hs] G G' ∧ G'.length = G.length := by
  obtain ⟨δ', G1, lp, bl', r, ⟨x, y, rfl⟩, er, g1, g2, S1, L1, hp1, ef⟩ := loop_inv (g := Mi.gTup 2 (Mi.gCons (Mi.gNm 2) (Mi.gCons (Mi.gNm 3) Mi.gNil))) (b := qb_law_forced_1) (st := fun _ => True)
    (fun rest δ G1 => ∃ (bl' : List Dv) (r : List (Nat × Dv)), (∃ x y, δ = [some (.ref hi), some (.ref hs), x, y]) ∧ rest = qOf r ∧ G1[hi]? = some (.dct (itD s k hs (.fls (qOf its)) fu)) ∧ G1[hs]? = some (.lst bl') ∧ Sm [hi, hs] G G1 ∧ G1.length = G.length ∧ (∀ p ∈ r, p.1 < bl'.length) ∧ layAll bl' r = layAll bl its)
    (fun d ds δ G1 ⟨bl', r, ⟨x, y, ed⟩, er, g1, g2, S1, L1, hp1, ef⟩ => by
      subst ed
      cases r with
      | nil => cases er
      | cons p r =>
        cases er
        refine ⟨trivial, _, _, rfl, [some (.ref hi), some (.ref hs), some (.int p.1), some p.2], G1.set hs (.lst (bl'.set p.1 p.2)), ?_, bl'.set p.1 p.2, r, ⟨_, _, rfl⟩, rfl, ?_, set_at g2, S1.trans (sm_set (by simp)), by rw [List.length_set]; exact L1, fun q hq => by rw [List.length_set]; exact hp1 q (List.mem_cons_of_mem _ hq), ef⟩
        · have ei := ixN_nat (hp1 p (List.mem_cons_self ..))
          simp only [Mi.bnd, Mi.mVar, Mi.mC, Mi.mkL, Mi.m2, Mi.m1, Mi.uNeg, Mi.bAdd, Mi.bSub, Mi.bDiv, Mi.bMod, Mi.bPow, Mi.sEq, Mi.bEq, Mi.bCmp, Mi.bLt, Mi.bLe, Mi.bGt, Mi.bGe, Mi.isNon, Mi.mIsN, Mi.mChain, Mi.mAnd, Mi.mOr, Mi.mNot, Mi.mTb, Mi.mTand, Mi.mTor, Mi.mTnot, Mi.mIf, Mi.mNil, Mi.mCons, Mi.mTup, Mi.mLst, Mi.mB, Mi.kOf, Mi.mFld, Mi.mCall, Mi.mCallK, Mi.mMeth, Mi.mMethK, Mi.mDef, Mi.fInt, Mi.fMax, Mi.fMin, Mi.isI, Mi.mIsI, Ms.mIsC, Mi.gNm, Mi.gNil, Mi.gCons, Mi.gTup, Mi.mSeq, Mi.mSkip, Mi.mBrk, Mi.mCont, Mi.mAsg, Mi.mPar, Mi.mExpr, Mi.mRet, Mi.mRetN, Mi.mIfS, Mi.tYes, Mi.wipe, Ms.mDct0, Ms.bAddI, List.map_cons, List.map_nil, List.nil_append, List.cons_append, List.length_cons, List.length_nil, List.replicate_succ, List.replicate_zero, List.getElem?_cons_zero, List.getElem?_cons_succ, List.getElem?_nil, List.set_cons_zero, List.set_cons_succ, Option.map_some, Option.map_none, if_true, if_false, reduceIte, decide_true, decide_false, Nat.reduceAdd, Nat.reduceLeDiff, List.mem_cons, List.mem_singleton, true_or, or_true, true_and, and_true, bne_self_eq_false, Bool.not_true, Bool.not_false, reduceCtorEq, Nat.reduceEqDiff, beq_self_eq_true, Nat.reduceLT, Int.reduceLT, Int.reduceLE, Int.reduceToNat, Int.reduceAdd, Int.reduceSub, Int.reduceMul, Int.reduceNeg, String.reduceEq, String.reduceBEq, List.lookup_cons, List.lookup_nil, Mi.big, Mi.putF, List.length_append, List.append_assoc, ite_true, ite_false, Bool.false_eq_true, and_self, not_true_eq_false, not_false_eq_true, Sum.inr.injEq, Sum.inl.injEq, Mi.look, Mi.put, List.any_cons, List.any_nil, Bool.or_true, Bool.or_false, Bool.true_or, Bool.false_or, List.find?_cons, Option.getD_some, Option.getD_none, Bool.bne_false, Bool.false_bne, Bool.true_bne, Bool.bne_true, Int.reduceEq, Int.reducePow, qb_law_forced_1, Mi.mSetI, g2, ei]
        · rw [List.getElem?_set_ne ne.symm]
          exact g1)
    (fun _ _ _ => trivial) (qOf its) [some (.ref hi), some (.ref hs), none, none] G ⟨bl, its, ⟨_, _, rfl⟩, rfl, e, e2, Sm.refl, rfl, hp, rfl⟩
  have hr : r = [] := by
    cases r with
    | nil => rfl
    | cons p r => cases er
  subst hr
  have w := sub_wait e
  have st := sub_stand e
  have e3 : qf_law_forced_1 [some (.ref hi), some (.ref hs), none, none] G = some (.nx, [some (.ref hi), some (.ref hs), x, y], G1) := by
    unfold qf_law_forced_1 qi_law_forced_1 Mi.mFor
    simp only [Mi.bnd, Mi.mVar, Mi.mC, Mi.mkL, Mi.m2, Mi.m1, Mi.uNeg, Mi.bAdd, Mi.bSub, Mi.bDiv, Mi.bMod, Mi.bPow, Mi.sEq, Mi.bEq, Mi.bCmp, Mi.bLt, Mi.bLe, Mi.bGt, Mi.bGe, Mi.isNon, Mi.mIsN, Mi.mChain, Mi.mAnd, Mi.mOr, Mi.mNot, Mi.mTb, Mi.mTand, Mi.mTor, Mi.mTnot, Mi.mIf, Mi.mNil, Mi.mCons, Mi.mTup, Mi.mLst, Mi.mB, Mi.kOf, Mi.mFld, Mi.mCall, Mi.mCallK, Mi.mMeth, Mi.mMethK, Mi.mDef, Mi.fInt, Mi.fMax, Mi.fMin, Mi.isI, Mi.mIsI, Ms.mIsC, Mi.gNm, Mi.gNil, Mi.gCons, Mi.gTup, Mi.mSeq, Mi.mSkip, Mi.mBrk, Mi.mCont, Mi.mAsg, Mi.mPar, Mi.mExpr, Mi.mRet, Mi.mRetN, Mi.mIfS, Mi.tYes, Mi.wipe, Ms.mDct0, Ms.bAddI, List.map_cons, List.map_nil, List.nil_append, List.cons_append, List.length_cons, List.length_nil, List.replicate_succ, List.replicate_zero, List.getElem?_cons_zero, List.getElem?_cons_succ, List.getElem?_nil, List.set_cons_zero, List.set_cons_succ, Option.map_some, Option.map_none, if_true, if_false, reduceIte, decide_true, decide_false, Nat.reduceAdd, Nat.reduceLeDiff, List.mem_cons, List.mem_singleton, true_or, or_true, true_and, and_true, bne_self_eq_false, Bool.not_true, Bool.not_false, reduceCtorEq, Nat.reduceEqDiff, beq_self_eq_true, Nat.reduceLT, Int.reduceLT, Int.reduceLE, Int.reduceToNat, Int.reduceAdd, Int.reduceSub, Int.reduceMul, Int.reduceNeg, String.reduceEq, String.reduceBEq, List.lookup_cons, List.lookup_nil, Mi.big, Mi.putF, List.length_append, List.append_assoc, ite_true, ite_false, Bool.false_eq_true, and_self, not_true_eq_false, not_false_eq_true, Sum.inr.injEq, Sum.inl.injEq, Mi.look, Mi.put, List.any_cons, List.any_nil, Bool.or_true, Bool.or_false, Bool.true_or, Bool.false_or, List.find?_cons, Option.getD_some, Option.getD_none, Bool.bne_false, Bool.false_bne, Bool.true_bne, Bool.bne_true, Int.reduceEq, Int.reducePow, Mi.iSeq, w, Mi.lstOf, Mi.seqOf, lp]
  have pw := put_wait (s := s) (k := k) (hs := hs) (.fls (qOf its)) (.fls []) fu
  have ln := itD_len (s := s) (k := k) (hs := hs) (.fls (qOf its)) fu
  refine ⟨G1.set hi (.dct (itD s k hs (.fls []) fu)), ?_, set_at g1, ?_, S1.trans (sm_set (by simp)), by rw [List.length_set]; exact L1⟩
  · simp only [Mi.bnd, Mi.mVar, Mi.mC, Mi.mkL, Mi.m2, Mi.m1, Mi.uNeg, Mi.bAdd, Mi.bSub, Mi.bDiv, Mi.bMod, Mi.bPow, Mi.sEq, Mi.bEq, Mi.bCmp, Mi.bLt, Mi.bLe, Mi.bGt, Mi.bGe, Mi.isNon, Mi.mIsN, Mi.mChain, Mi.mAnd, Mi.mOr, Mi.mNot, Mi.mTb, Mi.mTand, Mi.mTor, Mi.mTnot, Mi.mIf, Mi.mNil, Mi.mCons, Mi.mTup, Mi.mLst, Mi.mB, Mi.kOf, Mi.mFld, Mi.mCall, Mi.mCallK, Mi.mMeth, Mi.mMethK, Mi.mDef, Mi.fInt, Mi.fMax, Mi.fMin, Mi.isI, Mi.mIsI, Ms.mIsC, Mi.gNm, Mi.gNil, Mi.gCons, Mi.gTup, Mi.mSeq, Mi.mSkip, Mi.mBrk, Mi.mCont, Mi.mAsg, Mi.mPar, Mi.mExpr, Mi.mRet, Mi.mRetN, Mi.mIfS, Mi.tYes, Mi.wipe, Ms.mDct0, Ms.bAddI, List.map_cons, List.map_nil, List.nil_append, List.cons_append, List.length_cons, List.length_nil, List.replicate_succ, List.replicate_zero, List.getElem?_cons_zero, List.getElem?_cons_succ, List.getElem?_nil, List.set_cons_zero, List.set_cons_succ, Option.map_some, Option.map_none, if_true, if_false, reduceIte, decide_true, decide_false, Nat.reduceAdd, Nat.reduceLeDiff, List.mem_cons, List.mem_singleton, true_or, or_true, true_and, and_true, bne_self_eq_false, Bool.not_true, Bool.not_false, reduceCtorEq, Nat.reduceEqDiff, beq_self_eq_true, Nat.reduceLT, Int.reduceLT, Int.reduceLE, Int.reduceToNat, Int.reduceAdd, Int.reduceSub, Int.reduceMul, Int.reduceNeg, String.reduceEq, String.reduceBEq, List.lookup_cons, List.lookup_nil, Mi.big, Mi.putF, List.length_append, List.append_assoc, ite_true, ite_false, Bool.false_eq_true, and_self, not_true_eq_false, not_false_eq_true, Sum.inr.injEq, Sum.inl.injEq, Mi.look, Mi.put, List.any_cons, List.any_nil, Bool.or_true, Bool.or_false, Bool.true_or, Bool.false_or, List.find?_cons, Option.getD_some, Option.getD_none, Bool.bne_false, Bool.false_bne, Bool.true_bne, Bool.bne_true, Int.reduceEq, Int.reducePow, -Mi.put, m_law_forced, b_law_forced, st, e3, Mi.mSetK, g1, pw, ln]
  · rw [List.getElem?_set_ne ne, ← ef]
    exact g2
end
end Lw


namespace Lw
open Mi (Dv MO Sto Sl Rs bnd ME MT MA MS MF Fl MG MGs MI)
open PySem (PyData)
def AllB (bl : List Dv) : Prop := ∀ x ∈ bl, BlkD x
theorem AllB.get {bl : List Dv} (h : AllB bl) {p : Nat} (hp : p < bl.length) : BlkD (bl.getD p .non) := by
  rw [List.getD_eq_getElem?_getD, List.getElem?_eq_getElem hp]
  exact h _ (List.getElem_mem hp)
theorem AllB.set {bl : List Dv} (h : AllB bl) (p : Nat) {x : Dv} (hx : BlkD x) : AllB (bl.set p x) := fun y hy => by
  rcases List.mem_or_eq_of_mem_set hy with q | q
  · exact h y q
  · rw [q]; exact hx
theorem set_same {bl : List Dv} {p : Nat} (hp : p < bl.length) : bl.set p (bl.getD p .non) = bl := by
  rw [List.getD_eq_getElem?_getD, List.getElem?_eq_getElem hp]
  exact List.set_getElem_self hp
theorem enum_cons (n : Nat) (p : Nat × Dv) (r : List (Nat × Dv)) : Mi.enumD n (qOf (p :: r)) = .tup [.int (n : Nat), .tup [.int p.1, p.2]] :: Mi.enumD (n + 1) (qOf r) := rfl
section
variable {G : Sto} {hi hs h hb hq hn : Nat} {s k : Int} {bl : List Dv} {its : List (Nat × Dv)} {nw : List (Mi.Key × Dv)}
/-- one torn write of the law's own -/
theorem tearE {a b : Dv} (ha : BlkD a) (hb : BlkD b) (m : Int) (G : Sto) : (∃ xs ys, a = .tup xs ∧ b = .tup ys ∧ Mi.bAdd false (.tup (Mi.cut xs none (some m))) (.tup (Mi.cut ys (some m) none)) G = some (mix m a b, G)) := by
  obtain ⟨xs, rfl, l1⟩ := blk_len ha
  obtain ⟨ys, rfl, l2⟩ := blk_len hb
  exact ⟨xs, ys, rfl, rfl, mixE xs ys m G l1 l2⟩
end
end Lw


namespace Lw
open Mi (Dv MO Sto Sl Rs bnd ME MT MA MS MF Fl MG MGs MI)
open PySem (PyData)
abbrev kD (ks : List Nat) : List Dv := ks.map fun m => .int (m : Nat)
theorem zip_cons (p : Nat × Dv) (r : List (Nat × Dv)) (m : Nat) (ks : List Nat) : List.zipWith (fun a b => Dv.tup [a, b]) (qOf (p :: r)) (kD (m :: ks)) = .tup [.tup [.int p.1, p.2], .int (m : Nat)] :: List.zipWith (fun a b => Dv.tup [a, b]) (qOf r) (kD ks) := rfl
theorem lst_ref {G : Sto} {h : Nat} {xs : List Dv} (e : G[h]? = some (.lst xs)) : Mi.lstOf G (.ref h) = some xs := by simp only [Mi.lstOf, e]
section
variable {G : Sto} {hi hs h hb hq hn : Nat} {s k : Int} {bl : List Dv} {its : List (Nat × Dv)} {nw : List (Mi.Key × Dv)}
end
end Lw


namespace Lw
open Mi (Dv MO Sto Sl Rs bnd ME MT MA MS MF Fl MG MGs MI)
open PySem (PyData)
theorem lc_drw {hd hc i : Nat} {e : ME} {δ : Sl} {G : Sto} {P : Int → Prop} (d0 : Dk hd hc G) (ds : List Dv) (he : ∀ d ∈ ds, ∀ G1, Dr hd hc G G1 → ∃ y G', e (δ.set i (some d)) G1 = some (.int y, G') ∧ P y ∧ Dr hd hc G1 G') (hb : ds.length < 1000) :
    ∃ (ws : List Int) (G' : Sto), Mi.mLcLoop (Mi.gNm i) Mi.tYes e (fun _ => True) δ ds [] G = some (ws.map Dv.int, G') ∧ ws.length = ds.length ∧ (∀ w ∈ ws, P w) ∧ Dr hd hc G G' := by
  obtain ⟨acc, G', e1, ws, rfl, hl, hw, hr⟩ := lc_inv (g := Mi.gNm i) (t := Mi.tYes) (e := e) (st := fun _ => True) (δ := δ)
    (P := fun r acc G' => (∃ ws : List Int, acc = ws.map Dv.int ∧ ws.length + r.length = ds.length ∧ (∀ w ∈ ws, P w) ∧ Dr hd hc G G' ∧ ∀ d ∈ r, d ∈ ds))
    (fun d r acc G1 ⟨ws, ea, hl, hw, hr, hm⟩ => by
      obtain ⟨y, G2, e2, hy, r2⟩ := he d (hm d (List.mem_cons_self ..)) G1 hr
      rw [List.length_cons] at hl
      refine ⟨trivial, ?_, _, _, rfl, _, rfl, _, _, e2, ws ++ [y], ?_, ?_, ?_, hr.trans r2, fun x hx => hm x (List.mem_cons_of_mem _ hx)⟩
      · rw [ea, List.length_map]
        show ws.length < 16777216
        omega
      · rw [ea, List.map_append]; rfl
      · simp only [List.length_append, List.length_singleton]
        omega
      · intro w hw'
        rcases List.mem_append.mp hw' with q | q
        · exact hw w q
        · rw [List.mem_singleton.mp q]
          exact hy)
    (fun _ _ _ => trivial) ds [] G ⟨[], rfl, by simp, by simp, ⟨d0, Sm.refl, rfl⟩, fun d h => h⟩
  exact ⟨ws, G', e1, by simpa using hl, hw, hr.1⟩
theorem lc_pure {g : MG} {e : ME} {st : Sto → Prop} {δ : Sl} {f : Dv → Dv} {G : Sto} (hs : st G) : ∀ (ds acc : List Dv), (∀ d ∈ ds, ∃ δ1, g d δ G = some (δ1, G) ∧ e δ1 G = some (f d, G)) → acc.length + ds.length ≤ Mi.big →
    Mi.mLcLoop g Mi.tYes e st δ ds acc G = some (acc ++ ds.map f, G)
  | [], acc, _, _ => by unfold Mi.mLcLoop; rw [if_pos hs]; simp
  | d :: ds, acc, he, hb => by
    have h1 : acc.length < Mi.big := by rw [List.length_cons] at hb; omega
    obtain ⟨δ1, e1, e2⟩ := he d (List.mem_cons_self ..)
    unfold Mi.mLcLoop
    rw [if_pos ⟨hs, h1⟩, e1]
    simp only [Mi.tYes]
    rw [e2]
    dsimp only
    rw [lc_pure hs ds (acc ++ [f d]) (fun x hx => he x (List.mem_cons_of_mem _ hx)) (by rw [List.length_append]; simp at hb ⊢; omega)]
    simp
theorem kD_of {ws : List Int} (h : ∀ w ∈ ws, 0 ≤ w ∧ w ≤ 32) : ws.map Dv.int = kD (ws.map Int.toNat) ∧ ∀ m ∈ ws.map Int.toNat, m ≤ 32 := by
  refine ⟨?_, fun m hm => ?_⟩
  · show _ = (ws.map Int.toNat).map _
    rw [List.map_map]
    refine List.map_congr_left fun w hw => ?_
    show Dv.int w = Dv.int (w.toNat : Int)
    rw [Int.toNat_of_nonneg (h w hw).1]
  · obtain ⟨w, hw, rfl⟩ := List.mem_map.mp hm
    have := h w hw
    omega
theorem rng_toNat (z : Int) : (Mi.rng 0 z).length = z.toNat := by simp [Mi.rng]
theorem drawn_sizes {hd hc : Nat} {G : Sto} (d : Dk hd hc G) : ∃ s k G', m_law_drawn_sizes [.ref hd] G = some (.tup [.int s, .int k, .int (N' s k), .int (R' s k)], G') ∧ (6 ≤ s ∧ s ≤ 40) ∧ (4 ≤ k ∧ k ≤ 24) ∧ Dr hd hc G G' := by
  obtain ⟨r0, G0, e0, a0, b0, c0⟩ := draw d 16 (by omega) (by omega)
  by_cases h : r0 = 0
  · subst h
    obtain ⟨r1, G1, e1, a1, b1, c1⟩ := draw c0.d 35 (by omega) (by omega)
    obtain ⟨r2, G2, e2, a2, b2, c2⟩ := draw c1.d 21 (by omega) (by omega)
    have ls := law_sizes_ok (6 + r1) (4 + r2) G2 (by omega) (by omega)
    refine ⟨6 + r1, 4 + r2, G2, ?_, by omega, by omega, (c0.trans c1).trans c2⟩
    simp only [Mi.bnd, Mi.mVar, Mi.mC, Mi.mkL, Mi.m2, Mi.m1, Mi.uNeg, Mi.bAdd, Mi.bSub, Mi.bDiv, Mi.bMod, Mi.bPow, Mi.sEq, Mi.bEq, Mi.bCmp, Mi.bLt, Mi.bLe, Mi.bGt, Mi.bGe, Mi.isNon, Mi.mIsN, Mi.mChain, Mi.mAnd, Mi.mOr, Mi.mNot, Mi.mTb, Mi.mTand, Mi.mTor, Mi.mTnot, Mi.mIf, Mi.mNil, Mi.mCons, Mi.mTup, Mi.mLst, Mi.mB, Mi.kOf, Mi.mFld, Mi.mCall, Mi.mCallK, Mi.mMeth, Mi.mMethK, Mi.mDef, Mi.fInt, Mi.fMax, Mi.fMin, Mi.isI, Mi.mIsI, Ms.mIsC, Mi.gNm, Mi.gNil, Mi.gCons, Mi.gTup, Mi.mSeq, Mi.mSkip, Mi.mBrk, Mi.mCont, Mi.mAsg, Mi.mPar, Mi.mExpr, Mi.mRet, Mi.mRetN, Mi.mIfS, Mi.tYes, Mi.wipe, Ms.mDct0, Ms.bAddI, List.map_cons, List.map_nil, List.nil_append, List.cons_append, List.length_cons, List.length_nil, List.replicate_succ, List.replicate_zero, List.getElem?_cons_zero, List.getElem?_cons_succ, List.getElem?_nil, List.set_cons_zero, List.set_cons_succ, Option.map_some, Option.map_none, if_true, if_false, reduceIte, decide_true, decide_false, Nat.reduceAdd, Nat.reduceLeDiff, List.mem_cons, List.mem_singleton, true_or, or_true, true_and, and_true, bne_self_eq_false, Bool.not_true, Bool.not_false, reduceCtorEq, Nat.reduceEqDiff, beq_self_eq_true, Nat.reduceLT, Int.reduceLT, Int.reduceLE, Int.reduceToNat, Int.reduceAdd, Int.reduceSub, Int.reduceMul, Int.reduceNeg, String.reduceEq, String.reduceBEq, List.lookup_cons, List.lookup_nil, Mi.big, Mi.putF, List.length_append, List.append_assoc, ite_true, ite_false, Bool.false_eq_true, and_self, not_true_eq_false, not_false_eq_true, Sum.inr.injEq, Sum.inl.injEq, Mi.look, Mi.put, List.any_cons, List.any_nil, Bool.or_true, Bool.or_false, Bool.true_or, Bool.false_or, List.find?_cons, Option.getD_some, Option.getD_none, Bool.bne_false, Bool.false_bne, Bool.true_bne, Bool.bne_true, Int.reduceEq, Int.reducePow, m_law_drawn_sizes, b_law_drawn_sizes, e0, e1, e2, ls]
  · obtain ⟨r1, G1, e1, a1, b1, c1⟩ := draw c0.d 4 (by omega) (by omega)
    obtain ⟨r2, G2, e2, a2, b2, c2⟩ := draw c1.d 5 (by omega) (by omega)
    have ls := law_sizes_ok (6 + r1) (4 + r2) G2 (by omega) (by omega)
    refine ⟨6 + r1, 4 + r2, G2, ?_, by omega, by omega, (c0.trans c1).trans c2⟩
    simp only [Mi.bnd, Mi.mVar, Mi.mC, Mi.mkL, Mi.m2, Mi.m1, Mi.uNeg, Mi.bAdd, Mi.bSub, Mi.bDiv, Mi.bMod, Mi.bPow, Mi.sEq, Mi.bEq, Mi.bCmp, Mi.bLt, Mi.bLe, Mi.bGt, Mi.bGe, Mi.isNon, Mi.mIsN, Mi.mChain, Mi.mAnd, Mi.mOr, Mi.mNot, Mi.mTb, Mi.mTand, Mi.mTor, Mi.mTnot, Mi.mIf, Mi.mNil, Mi.mCons, Mi.mTup, Mi.mLst, Mi.mB, Mi.kOf, Mi.mFld, Mi.mCall, Mi.mCallK, Mi.mMeth, Mi.mMethK, Mi.mDef, Mi.fInt, Mi.fMax, Mi.fMin, Mi.isI, Mi.mIsI, Ms.mIsC, Mi.gNm, Mi.gNil, Mi.gCons, Mi.gTup, Mi.mSeq, Mi.mSkip, Mi.mBrk, Mi.mCont, Mi.mAsg, Mi.mPar, Mi.mExpr, Mi.mRet, Mi.mRetN, Mi.mIfS, Mi.tYes, Mi.wipe, Ms.mDct0, Ms.bAddI, List.map_cons, List.map_nil, List.nil_append, List.cons_append, List.length_cons, List.length_nil, List.replicate_succ, List.replicate_zero, List.getElem?_cons_zero, List.getElem?_cons_succ, List.getElem?_nil, List.set_cons_zero, List.set_cons_succ, Option.map_some, Option.map_none, if_true, if_false, reduceIte, decide_true, decide_false, Nat.reduceAdd, Nat.reduceLeDiff, List.mem_cons, List.mem_singleton, true_or, or_true, true_and, and_true, bne_self_eq_false, Bool.not_true, Bool.not_false, reduceCtorEq, Nat.reduceEqDiff, beq_self_eq_true, Nat.reduceLT, Int.reduceLT, Int.reduceLE, Int.reduceToNat, Int.reduceAdd, Int.reduceSub, Int.reduceMul, Int.reduceNeg, String.reduceEq, String.reduceBEq, List.lookup_cons, List.lookup_nil, Mi.big, Mi.putF, List.length_append, List.append_assoc, ite_true, ite_false, Bool.false_eq_true, and_self, not_true_eq_false, not_false_eq_true, Sum.inr.injEq, Sum.inl.injEq, Mi.look, Mi.put, List.any_cons, List.any_nil, Bool.or_true, Bool.or_false, Bool.true_or, Bool.false_or, List.find?_cons, Option.getD_some, Option.getD_none, Bool.bne_false, Bool.false_bne, Bool.true_bne, Bool.bne_true, Int.reduceEq, Int.reducePow, m_law_drawn_sizes, b_law_drawn_sizes, e0, e1, e2, ls, h]
/-! ### what repr tells of blocks -/
theorem re_blk {x : Dv} (h : BlkD x) : ∃ d, Re x d 707 1 := by
  obtain ⟨w, rfl, b⟩ := h
  have := re_tup (re_ints fun z hz => abs18' (b.2 z hz))
  rw [b.1] at this
  exact ⟨_, this⟩
theorem re_bl : ∀ {bl : List Dv}, AllB bl → ∃ ds, ReL bl ds (709 * bl.length) 1
  | [], _ => ⟨[], re_nil⟩
  | x :: bl, h => by
    obtain ⟨d, hd⟩ := re_blk (h x (List.mem_cons_self ..))
    obtain ⟨ds, hds⟩ := re_bl (bl := bl) fun y hy => h y (List.mem_cons_of_mem _ hy)
    have := re_cons hd hds (Nat.le_refl _)
    rw [show 707 + 709 * bl.length + 2 = 709 * (x :: bl).length by rw [List.length_cons]; omega] at this
    exact ⟨_, this⟩
theorem re_q : ∀ {its : List (Nat × Dv)}, (∀ p ∈ its, p.1 < 100000 ∧ BlkD p.2) → ∃ ds, ReL (qOf its) ds (736 * its.length) 2
  | [], _ => ⟨[], re_nil⟩
  | p :: its, h => by
    have ⟨h1, h2⟩ := h p (List.mem_cons_self ..)
    obtain ⟨d, hd⟩ := re_blk h2
    obtain ⟨ds, hds⟩ := re_q (its := its) fun y hy => h y (List.mem_cons_of_mem _ hy)
    have hi : Re (.int (p.1 : Int)) (.int p.1) 20 0 := re_int (abs18 (by omega))
    have := re_cons (re_tup (re_cons hi (re_cons hd (re_nil (m := 1)) (Nat.le_refl _)) (by omega))) hds (Nat.le_refl _)
    rw [show 20 + (707 + 0 + 2) + 2 + 3 + 736 * its.length + 2 = 736 * (p :: its).length by rw [List.length_cons]; omega] at this
    exact ⟨_, this⟩
end Lw


namespace Lw
open Mi (Dv MO Sto Sl Rs bnd ME MT MA MS MF Fl MG MGs MI)
open PySem (PyData)
/-- the whole state: the deck, the disk, the law's own disk -/
structure Wh (hd hc h hb hq hn hi hs : Nat) (s k : Int) (bl : List Dv) (its : List (Nat × Dv)) (n : Nat) (G : Sto) : Prop where
  dk : Dk hd hc G
  ds : Dsk G h hb hq hn s k bl (qOf its) (nwOf its)
  it : G[hi]? = some (.dct (itD s k hs (.fls (qOf its)) .non))
  sd : G[hs]? = some (.lst bl)
  ap : ∀ x ∈ [h, hb, hq, hn, hi, hs], x ≠ hd ∧ x ≠ hc
  a2 : ∀ x ∈ [h, hb, hq, hn], x ≠ hi ∧ x ≠ hs
  a3 : hi ≠ hs
  bb : AllB bl
  ib : ∀ p ∈ its, p.1 < bl.length ∧ BlkD p.2
  sz : bl.length = Many s k
  hS : 6 ≤ s ∧ s ≤ 40
  hK : 4 ≤ k ∧ k ≤ 24
  il : its.length ≤ n
section
variable {G G' : Sto} {hd hc hi hs h hb hq hn n : Nat} {s k : Int} {bl : List Dv} {its : List (Nat × Dv)}
theorem Wh.dr (W : Wh hd hc h hb hq hn hi hs s k bl its n G) (r : Dr hd hc G G') : Wh hd hc h hb hq hn hi hs s k bl its n G' := by
  have m : ∀ x ∈ [h, hb, hq, hn, hi, hs], x ∉ [hd, hc] := fun x hx => by
    obtain ⟨a, b⟩ := W.ap x hx
    simp only [List.mem_cons, List.not_mem_nil, or_false]
    omega
  exact ⟨r.d, W.ds.sm r.s (m _ (by simp)) (m _ (by simp)) (m _ (by simp)) (m _ (by simp)), r.s.get (m _ (by simp)) W.it, r.s.get (m _ (by simp)) W.sd, W.ap, W.a2, W.a3, W.bb, W.ib, W.sz, W.hS, W.hK, W.il⟩
theorem Wh.many (W : Wh hd hc h hb hq hn hi hs s k bl its n G) : 0 < Many s k ∧ Many s k ≤ 1020 := by
  have hp := prodB W.hS W.hK
  have hr := R'_b W.hS W.hK
  have hM : (Many s k : Int) = 2 * R' s k + s * k := by unfold Many; rw [Int.toNat_of_nonneg (by omega)]
  omega
/-- the value at a place -/
def valAt (bl : List Dv) (its : List (Nat × Dv)) : Dv → Dv
  | .int z => (rd its z.toNat).getD (bl.getD z.toNat .non)
  | d => d
theorem rd_blk (hI : ∀ p ∈ its, p.1 < bl.length ∧ BlkD p.2) {p : Nat} {x : Dv} (e : rd its p = some x) : BlkD x := by
  unfold rd at e
  obtain ⟨q, hq, rfl⟩ := Option.map_eq_some_iff.mp e
  exact (hI q (List.mem_reverse.mp (List.mem_of_find?_eq_some hq))).2
theorem Wh.val (W : Wh hd hc h hb hq hn hi hs s k bl its n G) {z : Int} (h1 : 0 ≤ z) (h2 : z < Many s k) : BlkD (valAt bl its (.int z)) ∧ m_Disk_read [.ref h, .int z] G = some (valAt bl its (.int z), G) ∧ m_law_read [.ref hi, .int z] G = some (valAt bl its (.int z), G) := by
  obtain ⟨p, rfl⟩ := Int.eq_ofNat_of_zero_le h1
  have hp : p < bl.length := by rw [W.sz]; omega
  refine ⟨?_, ?_, ?_⟩
  · show BlkD ((rd its p).getD (bl.getD p .non))
    cases e : rd its p with
    | none => exact W.bb.get hp
    | some x => exact rd_blk W.ib e
  · have := read_ok W.ds (p : Int) _ h1 (by omega) (atI_nat hp)
    rw [look_nw] at this
    exact this
  · exact law_read_ok W.it W.sd p hp
end
end Lw


namespace Lw
open Mi (Dv MO Sto Sl Rs bnd ME MT MA MS MF Fl MG MGs MI)
open PySem (PyData)
section
variable {G : Sto} {hd hc hi hs h hb hq hn n : Nat} {s k : Int} {bl : List Dv} {its : List (Nat × Dv)}
theorem layAll_len : ∀ (its : List (Nat × Dv)) (bl : List Dv), (layAll bl its).length = bl.length
  | [], _ => rfl
  | p :: its, bl => by
    show (layAll (bl.set p.1 p.2) its).length = _
    rw [layAll_len its, List.length_set]
theorem layAll_blk : ∀ (its : List (Nat × Dv)) (bl : List Dv), AllB bl → (∀ p ∈ its, BlkD p.2) → AllB (layAll bl its)
  | [], _, h, _ => h
  | p :: its, bl, h, hp => layAll_blk its (bl.set p.1 p.2) (h.set p.1 (hp p (List.mem_cons_self ..))) fun q hq => hp q (List.mem_cons_of_mem _ hq)
theorem cutAll_len : ∀ (its : List (Nat × Dv)) (ks : List Nat) (bl : List Dv), (cutAll bl its ks).length = bl.length
  | [], ks, _ => by cases ks <;> rfl
  | p :: its, [], bl => rfl
  | p :: its, m :: ks, bl => by
    show (cutAll (bl.set p.1 _) its ks).length = _
    rw [cutAll_len its, List.length_set]
theorem cutAll_blk : ∀ (its : List (Nat × Dv)) (ks : List Nat) (bl : List Dv), AllB bl → (∀ p ∈ its, p.1 < bl.length ∧ BlkD p.2) → (∀ m ∈ ks, m ≤ 32) → AllB (cutAll bl its ks)
  | [], ks, bl, h, _, _ => by cases ks <;> exact h
  | p :: its, [], bl, h, _, _ => h
  | p :: its, m :: ks, bl, h, hp, hk => by
    obtain ⟨a, b⟩ := hp p (List.mem_cons_self ..)
    exact cutAll_blk its ks _ (h.set p.1 (mix_blk b (h.get a) (hk m (List.mem_cons_self ..)))) (fun q hq => by rw [List.length_set]; exact hp q (List.mem_cons_of_mem _ hq)) fun j hj => hk j (List.mem_cons_of_mem _ hj)
/-- a write on both sides -/
theorem both_write (W : Wh hd hc h hb hq hn hi hs s k bl its n G) (hle : n ≤ 100) (p : Nat) (hp : p < bl.length) (x : Dv) (hx : BlkD x) :
    ∃ G1 G2, m_Disk_write [.ref h, .int (p : Int), x] G = some (.non, G1) ∧ Mi.bSubs (.ref hi) (.str "wait") G1 = some (.fls (qOf its), G1) ∧ G1[hi]? = some (.dct (itD s k hs (.fls (qOf its)) .non)) ∧ G2 = G1.set hi (.dct (itD s k hs (.fls (qOf (its ++ [(p, x)]))) .non)) ∧
      Wh hd hc h hb hq hn hi hs s k bl (its ++ [(p, x)]) (n + 1) G2 := by
  obtain ⟨w, rfl, B⟩ := hx
  have il := W.il
  have nl := nw_len its
  obtain ⟨G1, e1, D1, S1, L1⟩ := write_ok W.ds (p : Int) w B (by omega) (by omega) (by unfold qOf; rw [List.length_map]; omega) (by omega)
  have a2 := W.a2
  have m : ∀ x ∈ [hi, hs, hd, hc], x ∉ [hq, hn] := fun x hx => by
    have q1 := W.a2 hq (by simp)
    have q2 := W.a2 hn (by simp)
    have q3 := W.ap hq (by simp)
    have q4 := W.ap hn (by simp)
    simp only [List.mem_cons, List.not_mem_nil, or_false] at hx ⊢
    omega
  have g1 := S1.get (m hi (by simp)) W.it
  have g2 := S1.get (m hs (by simp)) W.sd
  have k1 := W.dk.sm S1 (m hd (by simp)) (m hc (by simp))
  refine ⟨G1, _, e1, sub_wait g1, g1, rfl, ?_⟩
  have S2 : Sm [hi] G1 (G1.set hi (.dct (itD s k hs (.fls (qOf (its ++ [(p, T w)]))) .non))) := sm_set (by simp)
  have ni : ∀ x, x ≠ hi → x ∉ [hi] := fun x hx => by simpa using hx
  have ap := W.ap
  have qa : qOf its ++ [.tup [.int (p : Int), T w]] = qOf (its ++ [(p, T w)]) := by unfold qOf; rw [List.map_append]; rfl
  have D1' : Dsk G1 h hb hq hn s k bl (qOf (its ++ [(p, T w)])) (nwOf (its ++ [(p, T w)])) := by rw [← qa, nwOf_app]; exact D1
  refine ⟨k1.sm S2 (ni _ (fun e => (ap hi (by simp)).1 e.symm)) (ni _ (fun e => (ap hi (by simp)).2 e.symm)), D1'.sm S2 (ni _ (a2 h (by simp)).1) (ni _ (a2 hb (by simp)).1) (ni _ (a2 hq (by simp)).1) (ni _ (a2 hn (by simp)).1), set_at g1, S2.get (ni _ W.a3.symm) g2, W.ap, W.a2, W.a3, W.bb, ?_, W.sz, W.hS, W.hK, by rw [List.length_append]; simp; omega⟩
  intro q hq
  rcases (List.mem_append.mp hq : _ ∨ _) with z | z
  · exact W.ib q z
  · cases List.mem_singleton.mp z
    exact ⟨hp, w, rfl, B⟩
/-- a force on both sides -/
theorem both_force (W : Wh hd hc h hb hq hn hi hs s k bl its n G) :
    ∃ G1 G2 hq' hn', m_Disk_force [.ref h] G = some (.non, G1) ∧ m_law_forced [.ref hi] G1 = some (.non, G2) ∧ Wh hd hc h hb hq' hn' hi hs s k (layAll bl its) [] n G2 := by
  obtain ⟨G1, e1, D1, S1, L1⟩ := force_ok W.ds fun p hp => (W.ib p hp).1
  have q1 := W.a2 h (by simp)
  have q2 := W.a2 hb (by simp)
  have q3 := W.ap h (by simp)
  have q4 := W.ap hb (by simp)
  have q5 := W.ap hi (by simp)
  have q6 := W.ap hs (by simp)
  have m : ∀ x ∈ [hi, hs, hd, hc], x ∉ [h, hb] := fun x hx => by
    simp only [List.mem_cons, List.not_mem_nil, or_false] at hx ⊢
    omega
  have g1 := S1.get (m hi (by simp)) W.it
  have g2 := S1.get (m hs (by simp)) W.sd
  have k1 := W.dk.sm S1 (m hd (by simp)) (m hc (by simp))
  obtain ⟨G2, e2, t1, t2, S2, L2⟩ := forced_ok g1 g2 W.a3 fun p hp => (W.ib p hp).1
  have l1 := lt_get W.it
  have l2 := lt_get W.sd
  have l3 := W.dk.lt
  have m2 : ∀ x ∈ [h, hb, G.length, G.length + 1, hd, hc], x ∉ [hi, hs] := fun x hx => by
    simp only [List.mem_cons, List.not_mem_nil, or_false] at hx ⊢
    omega
  refine ⟨G1, G2, G.length, G.length + 1, e1, e2, k1.sm S2 (m2 _ (by simp)) (m2 _ (by simp)), D1.sm S2 (m2 _ (by simp)) (m2 _ (by simp)) (m2 _ (by simp)) (m2 _ (by simp)), t1, t2, ?_, ?_, W.a3, layAll_blk its bl W.bb fun p hp => (W.ib p hp).2, fun p hp => (by simp at hp), by rw [layAll_len]; exact W.sz, W.hS, W.hK, Nat.zero_le _⟩
  · intro x hx
    simp only [List.mem_cons, or_false, List.not_mem_nil] at hx
    omega
  · intro x hx
    simp only [List.mem_cons, or_false, List.not_mem_nil] at hx
    omega
/-- a cut on both sides -/
theorem Wh.mono (W : Wh hd hc h hb hq hn hi hs s k bl its n G) {m : Nat} (hm : n ≤ m) : Wh hd hc h hb hq hn hi hs s k bl its m G :=
  ⟨W.dk, W.ds, W.it, W.sd, W.ap, W.a2, W.a3, W.bb, W.ib, W.sz, W.hS, W.hK, Nat.le_trans W.il hm⟩
end
end Lw


namespace Lw
open Mi (Dv MO Sto Sl Rs bnd ME MT MA MS MF Fl MG MGs MI)
open Ms (mExtend mPar3 fMaxL mLc2 mLc2Loop gUnL mReprK txt mZipT iEnumT bIn fSorted srt mPopAt fMaxTI fIntB)
open PySem (PyData Str)
/-! ### comprehensions -/
theorem lcf {g : MG} {t : MT} {e : ME} {st : Sto → Prop} {δ : Sl} {p : Dv → Bool} {f : Dv → Dv} {G : Sto} (hs : st G) : ∀ (ds acc : List Dv), (∀ d ∈ ds, ∃ δ1, g d δ G = some (δ1, G) ∧ t δ1 G = some (p d, G) ∧ (p d = true → e δ1 G = some (f d, G))) → acc.length + ds.length ≤ Mi.big →
    Mi.mLcLoop g t e st δ ds acc G = some (acc ++ (ds.filter p).map f, G)
  | [], acc, _, _ => by unfold Mi.mLcLoop; rw [if_pos hs]; simp
  | d :: ds, acc, he, hb => by
    rw [List.length_cons] at hb
    have h1 : acc.length < Mi.big := by omega
    obtain ⟨δ1, e1, e2, e3⟩ := he d (List.mem_cons_self ..)
    have tl : ∀ x ∈ ds, ∃ δ1, g x δ G = some (δ1, G) ∧ t δ1 G = some (p x, G) ∧ (p x = true → e δ1 G = some (f x, G)) := fun x hx => he x (List.mem_cons_of_mem _ hx)
    unfold Mi.mLcLoop
    rw [if_pos ⟨hs, h1⟩, e1]
    dsimp only
    rw [e2]
    cases hp : p d with
    | false =>
      dsimp only
      rw [lcf hs ds acc tl (by omega), List.filter_cons_of_neg (by rw [hp]; exact Bool.false_ne_true)]
    | true =>
      dsimp only
      rw [e3 hp]
      dsimp only
      rw [lcf hs ds (acc ++ [f d]) tl (by rw [List.length_append]; simp; omega), List.filter_cons_of_pos hp]
      simp
theorem bools_map {α : Type} (p : α → Bool) : ∀ xs : List α, Mi.bools (xs.map fun x => Dv.bl (p x)) = some (xs.map p)
  | [] => rfl
  | x :: xs => by rw [List.map_cons, Mi.bools, bools_map p xs]; rfl
def liftB (p : Int → Bool) : Dv → Bool
  | .int z => p z
  | _ => false
def liftD (p : Int → Dv) : Dv → Dv
  | .int z => p z
  | _ => .non
theorem map_liftD (p : Int → Dv) (zs : List Int) : (zs.map Dv.int).map (liftD p) = zs.map p := by rw [List.map_map]; rfl
theorem filter_liftB (p : Int → Bool) (zs : List Int) : (zs.map Dv.int).filter (liftB p) = (zs.filter p).map Dv.int := by
  rw [List.filter_map]
  rfl
/-- is it other than the empty list -/
theorem ne_nil (xs : List Int) (G : Sto) : Mi.bEq true (.fls (xs.map Dv.int)) (.fls []) G = some (.bl (!xs.isEmpty), G) := by
  have e := intsOf_map xs
  cases xs with
  | nil => rfl
  | cons x xs =>
    have e' := intsOf_map xs
    simp [Mi.bEq, Mi.sEq, Mi.qEq, Mi.lstOf, Mi.intsOf, e']
theorem filter_nil {α : Type} (p : α → Bool) (xs : List α) : (!(xs.filter fun x => !p x).isEmpty) = !xs.all p := by
  induction xs with
  | nil => rfl
  | cons x xs ih =>
    by_cases h : p x = true
    · rw [List.filter_cons_of_neg (by simp [h]), ih]; simp [h]
    · rw [List.filter_cons_of_pos (by simp [h])]; simp [h]
/-! ### rising -/
def rz : List Int → Bool
  | x :: y :: r => decide (x < y) && rz (y :: r)
  | _ => true
theorem rng_rz : ∀ ks : List Int, ((List.range (ks.length - 1)).all fun i => decide (ks.getD i 0 < ks.getD (i + 1) 0)) = rz ks
  | [] => rfl
  | [_] => rfl
  | x :: y :: r => by
    have ih := rng_rz (y :: r)
    rw [show (x :: y :: r).length - 1 = ((y :: r).length - 1) + 1 from rfl, List.range_succ_eq_map, List.all_cons, List.all_map]
    unfold rz
    rw [← ih]
    rfl
theorem zip_rz : ∀ ks : List Int, ((List.zipWith (fun a b => (a, b)) ks (ks.drop 1)).all fun p => decide (p.1 < p.2)) = rz ks
  | [] => rfl
  | [_] => rfl
  | x :: y :: r => by
    have ih := zip_rz (y :: r)
    unfold rz
    rw [← ih]
    rfl
theorem fAll_map {α : Type} (p : α → Bool) (xs : List α) (G : Sto) : Mi.fAll [.fls (xs.map fun x => Dv.bl (p x))] G = some (.bl (xs.all p), G) := by
  have e := bools_map p xs
  simp [Mi.fAll, Mi.lstOf, e, List.all_map]
theorem fAny_map {α : Type} (p : α → Bool) (xs : List α) (G : Sto) : Mi.fAny [.fls (xs.map fun x => Dv.bl (p x))] G = some (.bl (xs.any p), G) := by
  have e := bools_map p xs
  simp [Mi.fAny, Mi.lstOf, e, List.any_map]
theorem atT {ks : List Int} {i : Nat} (h : i < ks.length) (G : Sto) : Mi.bSubs (.tup (ks.map Dv.int)) (.int (i : Nat)) G = some (.int (ks.getD i 0), G) := by
  have e : Mi.atI (ks.map Dv.int) (i : Nat) = some (.int (ks.getD i 0)) := by
    unfold Mi.atI
    rw [ixN_nat (by rw [List.length_map]; exact h)]
    show (ks.map Dv.int)[i]? = _
    simp only [List.getElem?_map, List.getElem?_eq_getElem h, List.getD_eq_getElem?_getD]
    rfl
  simp [Mi.bSubs, Mi.bGet, Mi.bIx, Mi.seqOf, e]
theorem are_rising_ok (ks : List Int) (h : ks.length ≤ 1000) (G : Sto) : m_are_rising [.tup (ks.map Dv.int)] G = some (.bl (rz ks), G) := by
  obtain ⟨L, hL⟩ : ∃ L : Int, (ks.length : Int) = L := ⟨_, rfl⟩
  have i1 : -(2 ^ 62) ≤ L - 1 ∧ L - 1 < 2 ^ 62 := by omega
  have er : Mi.rng 0 (L - 1) = (List.range (ks.length - 1)).map fun i => .int ((i : Nat) : Int) := by
    unfold Mi.rng
    rw [show (L - 1 - 0).toNat = ks.length - 1 by omega]
    refine List.map_congr_left fun i _ => (by simp)
  have q := lc_pure (g := Mi.gNm 1) (e := qe_are_rising_1) (st := fun _ => True) (δ := [some (.tup (ks.map Dv.int)), none]) (f := liftD fun z => .bl (decide (ks.getD z.toNat 0 < ks.getD (z.toNat + 1) 0))) (G := G) trivial (Mi.rng 0 (L - 1)) [] (fun d hd => by
    rw [er] at hd
    obtain ⟨i, hi, rfl⟩ := List.mem_map.mp hd
    have hi' := (List.mem_range).mp hi
    have a1 := atT (ks := ks) (i := i) (by omega) G
    have a2 := atT (ks := ks) (i := i + 1) (by omega) G
    have e2 : (((i + 1 : Nat)) : Int) = (i : Int) + 1 := rfl
    rw [e2] at a2
    refine ⟨[some (.tup (ks.map Dv.int)), some (.int (i : Nat))], rfl, ?_⟩
    simp only [Mi.bnd, Mi.mVar, Mi.mC, Mi.mkL, Mi.m2, Mi.m1, Mi.uNeg, Mi.bAdd, Mi.bSub, Mi.bDiv, Mi.bMod, Mi.bPow, Mi.sEq, Mi.bEq, Mi.bCmp, Mi.bLt, Mi.bLe, Mi.bGt, Mi.bGe, Mi.isNon, Mi.mIsN, Mi.mChain, Mi.mAnd, Mi.mOr, Mi.mNot, Mi.mTb, Mi.mTand, Mi.mTor, Mi.mTnot, Mi.mIf, Mi.mNil, Mi.mCons, Mi.mTup, Mi.mLst, Mi.mB, Mi.kOf, Mi.mFld, Mi.mCall, Mi.mCallK, Mi.mMeth, Mi.mMethK, Mi.mDef, Mi.fInt, Mi.fMax, Mi.fMin, Mi.isI, Mi.mIsI, Ms.mIsC, Mi.gNm, Mi.gNil, Mi.gCons, Mi.gTup, Mi.mSeq, Mi.mSkip, Mi.mBrk, Mi.mCont, Mi.mAsg, Mi.mPar, Mi.mExpr, Mi.mRet, Mi.mRetN, Mi.mIfS, Mi.tYes, Mi.wipe, Ms.mDct0, Ms.bAddI, List.map_cons, List.map_nil, List.nil_append, List.cons_append, List.length_cons, List.length_nil, List.replicate_succ, List.replicate_zero, List.getElem?_cons_zero, List.getElem?_cons_succ, List.getElem?_nil, List.set_cons_zero, List.set_cons_succ, Option.map_some, Option.map_none, if_true, if_false, reduceIte, decide_true, decide_false, Nat.reduceAdd, Nat.reduceLeDiff, List.mem_cons, List.mem_singleton, true_or, or_true, true_and, and_true, bne_self_eq_false, Bool.not_true, Bool.not_false, reduceCtorEq, Nat.reduceEqDiff, beq_self_eq_true, Nat.reduceLT, Int.reduceLT, Int.reduceLE, Int.reduceToNat, Int.reduceAdd, Int.reduceSub, Int.reduceMul, Int.reduceNeg, String.reduceEq, String.reduceBEq, List.lookup_cons, List.lookup_nil, Mi.big, Mi.putF, List.length_append, List.append_assoc, ite_true, ite_false, Bool.false_eq_true, and_self, not_true_eq_false, not_false_eq_true, Sum.inr.injEq, Sum.inl.injEq, Mi.look, Mi.put, List.any_cons, List.any_nil, Bool.or_true, Bool.or_false, Bool.true_or, Bool.false_or, List.find?_cons, Option.getD_some, Option.getD_none, Bool.bne_false, Bool.false_bne, Bool.true_bne, Bool.bne_true, Int.reduceEq, Int.reducePow, qe_are_rising_1, a1, a2, liftD, Int.toNat_natCast]) (by rw [er, List.length_map, List.length_range]; show 0 + _ ≤ 16777216; omega)
  rw [er, List.map_map, List.nil_append] at q
  have e3 : (List.range (ks.length - 1)).map ((liftD fun z => .bl (decide (ks.getD z.toNat 0 < ks.getD (z.toNat + 1) 0))) ∘ fun i => Dv.int ((i : Nat) : Int)) = (List.range (ks.length - 1)).map fun i => Dv.bl (decide (ks.getD i 0 < ks.getD (i + 1) 0)) := List.map_congr_left fun i _ => by simp [liftD]
  rw [e3] at q
  have e4 := fAll_map (fun i => decide (ks.getD i 0 < ks.getD (i + 1) 0)) (List.range (ks.length - 1)) G
  rw [rng_rz] at e4
  have e5 : ql_are_rising_1 [some (.tup (ks.map Dv.int)), none] G = some (.fls ((List.range (ks.length - 1)).map fun i => Dv.bl (decide (ks.getD i 0 < ks.getD (i + 1) 0))), G) := by
    unfold ql_are_rising_1 qi_are_rising_1 Mi.mLc
    have lk : Mi.fLen [.tup (ks.map Dv.int)] G = some (.int L, G) := by rw [← hL]; simp [Mi.fLen]
    simp only [Mi.bnd, Mi.mVar, Mi.mC, Mi.mkL, Mi.m2, Mi.m1, Mi.uNeg, Mi.bAdd, Mi.bSub, Mi.bDiv, Mi.bMod, Mi.bPow, Mi.sEq, Mi.bEq, Mi.bCmp, Mi.bLt, Mi.bLe, Mi.bGt, Mi.bGe, Mi.isNon, Mi.mIsN, Mi.mChain, Mi.mAnd, Mi.mOr, Mi.mNot, Mi.mTb, Mi.mTand, Mi.mTor, Mi.mTnot, Mi.mIf, Mi.mNil, Mi.mCons, Mi.mTup, Mi.mLst, Mi.mB, Mi.kOf, Mi.mFld, Mi.mCall, Mi.mCallK, Mi.mMeth, Mi.mMethK, Mi.mDef, Mi.fInt, Mi.fMax, Mi.fMin, Mi.isI, Mi.mIsI, Ms.mIsC, Mi.gNm, Mi.gNil, Mi.gCons, Mi.gTup, Mi.mSeq, Mi.mSkip, Mi.mBrk, Mi.mCont, Mi.mAsg, Mi.mPar, Mi.mExpr, Mi.mRet, Mi.mRetN, Mi.mIfS, Mi.tYes, Mi.wipe, Ms.mDct0, Ms.bAddI, List.map_cons, List.map_nil, List.nil_append, List.cons_append, List.length_cons, List.length_nil, List.replicate_succ, List.replicate_zero, List.getElem?_cons_zero, List.getElem?_cons_succ, List.getElem?_nil, List.set_cons_zero, List.set_cons_succ, Option.map_some, Option.map_none, if_true, if_false, reduceIte, decide_true, decide_false, Nat.reduceAdd, Nat.reduceLeDiff, List.mem_cons, List.mem_singleton, true_or, or_true, true_and, and_true, bne_self_eq_false, Bool.not_true, Bool.not_false, reduceCtorEq, Nat.reduceEqDiff, beq_self_eq_true, Nat.reduceLT, Int.reduceLT, Int.reduceLE, Int.reduceToNat, Int.reduceAdd, Int.reduceSub, Int.reduceMul, Int.reduceNeg, String.reduceEq, String.reduceBEq, List.lookup_cons, List.lookup_nil, Mi.big, Mi.putF, List.length_append, List.append_assoc, ite_true, ite_false, Bool.false_eq_true, and_self, not_true_eq_false, not_false_eq_true, Sum.inr.injEq, Sum.inl.injEq, Mi.look, Mi.put, List.any_cons, List.any_nil, Bool.or_true, Bool.or_false, Bool.true_or, Bool.false_or, List.find?_cons, Option.getD_some, Option.getD_none, Bool.bne_false, Bool.false_bne, Bool.true_bne, Bool.bne_true, Int.reduceEq, Int.reducePow, -Int.reducePow, -Int.reduceNeg, Mi.iRange1, lk, if_pos i1, er, q]
  simp only [Mi.bnd, Mi.mVar, Mi.mC, Mi.mkL, Mi.m2, Mi.m1, Mi.uNeg, Mi.bAdd, Mi.bSub, Mi.bDiv, Mi.bMod, Mi.bPow, Mi.sEq, Mi.bEq, Mi.bCmp, Mi.bLt, Mi.bLe, Mi.bGt, Mi.bGe, Mi.isNon, Mi.mIsN, Mi.mChain, Mi.mAnd, Mi.mOr, Mi.mNot, Mi.mTb, Mi.mTand, Mi.mTor, Mi.mTnot, Mi.mIf, Mi.mNil, Mi.mCons, Mi.mTup, Mi.mLst, Mi.mB, Mi.kOf, Mi.mFld, Mi.mCall, Mi.mCallK, Mi.mMeth, Mi.mMethK, Mi.mDef, Mi.fInt, Mi.fMax, Mi.fMin, Mi.isI, Mi.mIsI, Ms.mIsC, Mi.gNm, Mi.gNil, Mi.gCons, Mi.gTup, Mi.mSeq, Mi.mSkip, Mi.mBrk, Mi.mCont, Mi.mAsg, Mi.mPar, Mi.mExpr, Mi.mRet, Mi.mRetN, Mi.mIfS, Mi.tYes, Mi.wipe, Ms.mDct0, Ms.bAddI, List.map_cons, List.map_nil, List.nil_append, List.cons_append, List.length_cons, List.length_nil, List.replicate_succ, List.replicate_zero, List.getElem?_cons_zero, List.getElem?_cons_succ, List.getElem?_nil, List.set_cons_zero, List.set_cons_succ, Option.map_some, Option.map_none, if_true, if_false, reduceIte, decide_true, decide_false, Nat.reduceAdd, Nat.reduceLeDiff, List.mem_cons, List.mem_singleton, true_or, or_true, true_and, and_true, bne_self_eq_false, Bool.not_true, Bool.not_false, reduceCtorEq, Nat.reduceEqDiff, beq_self_eq_true, Nat.reduceLT, Int.reduceLT, Int.reduceLE, Int.reduceToNat, Int.reduceAdd, Int.reduceSub, Int.reduceMul, Int.reduceNeg, String.reduceEq, String.reduceBEq, List.lookup_cons, List.lookup_nil, Mi.big, Mi.putF, List.length_append, List.append_assoc, ite_true, ite_false, Bool.false_eq_true, and_self, not_true_eq_false, not_false_eq_true, Sum.inr.injEq, Sum.inl.injEq, Mi.look, Mi.put, List.any_cons, List.any_nil, Bool.or_true, Bool.or_false, Bool.true_or, Bool.false_or, List.find?_cons, Option.getD_some, Option.getD_none, Bool.bne_false, Bool.false_bne, Bool.true_bne, Bool.bne_true, Int.reduceEq, Int.reducePow, m_are_rising, b_are_rising, e5, e4]
end Lw

namespace Lw
open Mi (Dv MO Sto Sl Rs bnd ME MT MA MS MF Fl MG MGs MI)
open Ms (mExtend mPar3 fMaxL mLc2 mLc2Loop gUnL mReprK txt mZipT iEnumT bIn fSorted srt mPopAt fMaxTI fIntB)
open PySem (PyData Str)
/-! ### the words of a block -/
theorem wAt {w : List Int} (h : w.length = 32) {i : Nat} (hi : i < 32) (G : Sto) : Mi.bSubs (T w) (.int (i : Nat)) G = some (.int (w.getD i 0), G) := atT (by omega) G
theorem wLast {w : List Int} (h : w.length = 32) (G : Sto) : Mi.bSubs (T w) (.int (-1)) G = some (.int (w.getD 31 0), G) := by
  have e : Mi.atI (w.map Dv.int) (-1) = some (.int (w.getD 31 0)) := by
    unfold Mi.atI Mi.ixN
    rw [if_neg (by decide), if_pos (by rw [List.length_map, h]; decide)]
    have : (-1 + ((w.map Dv.int).length : Int)).toNat = 31 := by rw [List.length_map, h]; rfl
    show (w.map Dv.int)[(-1 + ((w.map Dv.int).length : Int)).toNat]? = _
    rw [this, List.getElem?_map, List.getElem?_eq_getElem (by omega), List.getD_eq_getElem?_getD, List.getElem?_eq_getElem (by omega)]
    rfl
  simp [Mi.bSubs, Mi.bGet, Mi.bIx, Mi.seqOf, e]
theorem cut_mid (a : List Dv) (i j : Nat) (h1 : i ≤ j) (h2 : j ≤ a.length) : Mi.cut a (some (i : Int)) (some (j : Int)) = (a.drop i).take (j - i) := by
  unfold Mi.cut Mi.sIx
  simp only
  rw [if_neg (by omega)]; rw [if_neg (by omega)]
  have e1 : min (i : Int).toNat a.length = i := Nat.min_eq_left (by omega)
  have e2 : min (j : Int).toNat a.length = j := Nat.min_eq_left (by omega)
  rw [e1, e2]
theorem cut_neg (a : List Dv) (i : Nat) (h1 : i ≤ 31) (h2 : a.length = 32) : Mi.cut a (some (i : Int)) (some (-1)) = (a.drop i).take (31 - i) := by
  unfold Mi.cut Mi.sIx
  simp only
  rw [if_pos (show (-1 : Int) < 0 by decide), if_neg (show ¬ (i : Int) < 0 by omega), h2]
  have e1 : min (i : Int).toNat 32 = i := Nat.min_eq_left (by omega)
  rw [e1]
  rfl
theorem w6 {w : List Int} (h : w.length = 32) : ∃ a b c d e f r, w = a :: b :: c :: d :: e :: f :: r ∧ r.length = 26 := by
  match w, h with
  | a :: b :: c :: d :: e :: f :: r, h => exact ⟨a, b, c, d, e, f, r, rfl, by simpa using h⟩
/-! ### keys -/
def kOk (n : Int) (ks : List Int) : Bool := (ks.all fun z => decide (z < n)) && rz ks
section
variable {G : Sto} {h hb hq hn : Nat} {s k : Int} {bl qu : List Dv} {nw : List (Mi.Key × Dv)}
theorem are_keys_ok (D : Dsk G h hb hq hn s k bl qu nw) (ks : List Int) (hl : ks.length ≤ 1000) : m_are_keys_of [.ref h, .tup (ks.map Dv.int)] G = some (.bl (kOk (N' s k) ks), G) := by
  have ob := D.ob
  have q := lc_pure (g := Mi.gNm 2) (e := qe_are_keys_of_1) (st := fun _ => True) (δ := [some (.ref h), some (.tup (ks.map Dv.int)), none]) (f := liftD fun z => .bl (decide (z < N' s k))) (G := G) trivial (ks.map Dv.int) [] (fun d hd => by
    obtain ⟨z, hz, rfl⟩ := List.mem_map.mp hd
    refine ⟨[some (.ref h), some (.tup (ks.map Dv.int)), some (.int z)], rfl, ?_⟩
    simp only [Mi.bnd, Mi.mVar, Mi.mC, Mi.mkL, Mi.m2, Mi.m1, Mi.uNeg, Mi.bAdd, Mi.bSub, Mi.bDiv, Mi.bMod, Mi.bPow, Mi.sEq, Mi.bEq, Mi.bCmp, Mi.bLt, Mi.bLe, Mi.bGt, Mi.bGe, Mi.isNon, Mi.mIsN, Mi.mChain, Mi.mAnd, Mi.mOr, Mi.mNot, Mi.mTb, Mi.mTand, Mi.mTor, Mi.mTnot, Mi.mIf, Mi.mNil, Mi.mCons, Mi.mTup, Mi.mLst, Mi.mB, Mi.kOf, Mi.mFld, Mi.mCall, Mi.mCallK, Mi.mMeth, Mi.mMethK, Mi.mDef, Mi.fInt, Mi.fMax, Mi.fMin, Mi.isI, Mi.mIsI, Ms.mIsC, Mi.gNm, Mi.gNil, Mi.gCons, Mi.gTup, Mi.mSeq, Mi.mSkip, Mi.mBrk, Mi.mCont, Mi.mAsg, Mi.mPar, Mi.mExpr, Mi.mRet, Mi.mRetN, Mi.mIfS, Mi.tYes, Mi.wipe, Ms.mDct0, Ms.bAddI, List.map_cons, List.map_nil, List.nil_append, List.cons_append, List.length_cons, List.length_nil, List.replicate_succ, List.replicate_zero, List.getElem?_cons_zero, List.getElem?_cons_succ, List.getElem?_nil, List.set_cons_zero, List.set_cons_succ, Option.map_some, Option.map_none, if_true, if_false, reduceIte, decide_true, decide_false, Nat.reduceAdd, Nat.reduceLeDiff, List.mem_cons, List.mem_singleton, true_or, or_true, true_and, and_true, bne_self_eq_false, Bool.not_true, Bool.not_false, reduceCtorEq, Nat.reduceEqDiff, beq_self_eq_true, Nat.reduceLT, Int.reduceLT, Int.reduceLE, Int.reduceToNat, Int.reduceAdd, Int.reduceSub, Int.reduceMul, Int.reduceNeg, String.reduceEq, String.reduceBEq, List.lookup_cons, List.lookup_nil, Mi.big, Mi.putF, List.length_append, List.append_assoc, ite_true, ite_false, Bool.false_eq_true, and_self, not_true_eq_false, not_false_eq_true, Sum.inr.injEq, Sum.inl.injEq, Mi.look, Mi.put, List.any_cons, List.any_nil, Bool.or_true, Bool.or_false, Bool.true_or, Bool.false_or, List.find?_cons, Option.getD_some, Option.getD_none, Bool.bne_false, Bool.false_bne, Bool.true_bne, Bool.bne_true, Int.reduceEq, Int.reducePow, qe_are_keys_of_1, ob, dfs, liftD]) (by rw [List.length_map]; show 0 + _ ≤ 16777216; omega)
  rw [List.nil_append, map_liftD] at q
  have e4 := fAll_map (fun z => decide (z < N' s k)) ks G
  have e5 : ql_are_keys_of_1 [some (.ref h), some (.tup (ks.map Dv.int)), none] G = some (.fls (ks.map fun z => .bl (decide (z < N' s k))), G) := by
    unfold ql_are_keys_of_1 qi_are_keys_of_1 Mi.mLc
    simp only [Mi.bnd, Mi.mVar, Mi.mC, Mi.mkL, Mi.m2, Mi.m1, Mi.uNeg, Mi.bAdd, Mi.bSub, Mi.bDiv, Mi.bMod, Mi.bPow, Mi.sEq, Mi.bEq, Mi.bCmp, Mi.bLt, Mi.bLe, Mi.bGt, Mi.bGe, Mi.isNon, Mi.mIsN, Mi.mChain, Mi.mAnd, Mi.mOr, Mi.mNot, Mi.mTb, Mi.mTand, Mi.mTor, Mi.mTnot, Mi.mIf, Mi.mNil, Mi.mCons, Mi.mTup, Mi.mLst, Mi.mB, Mi.kOf, Mi.mFld, Mi.mCall, Mi.mCallK, Mi.mMeth, Mi.mMethK, Mi.mDef, Mi.fInt, Mi.fMax, Mi.fMin, Mi.isI, Mi.mIsI, Ms.mIsC, Mi.gNm, Mi.gNil, Mi.gCons, Mi.gTup, Mi.mSeq, Mi.mSkip, Mi.mBrk, Mi.mCont, Mi.mAsg, Mi.mPar, Mi.mExpr, Mi.mRet, Mi.mRetN, Mi.mIfS, Mi.tYes, Mi.wipe, Ms.mDct0, Ms.bAddI, List.map_cons, List.map_nil, List.nil_append, List.cons_append, List.length_cons, List.length_nil, List.replicate_succ, List.replicate_zero, List.getElem?_cons_zero, List.getElem?_cons_succ, List.getElem?_nil, List.set_cons_zero, List.set_cons_succ, Option.map_some, Option.map_none, if_true, if_false, reduceIte, decide_true, decide_false, Nat.reduceAdd, Nat.reduceLeDiff, List.mem_cons, List.mem_singleton, true_or, or_true, true_and, and_true, bne_self_eq_false, Bool.not_true, Bool.not_false, reduceCtorEq, Nat.reduceEqDiff, beq_self_eq_true, Nat.reduceLT, Int.reduceLT, Int.reduceLE, Int.reduceToNat, Int.reduceAdd, Int.reduceSub, Int.reduceMul, Int.reduceNeg, String.reduceEq, String.reduceBEq, List.lookup_cons, List.lookup_nil, Mi.big, Mi.putF, List.length_append, List.append_assoc, ite_true, ite_false, Bool.false_eq_true, and_self, not_true_eq_false, not_false_eq_true, Sum.inr.injEq, Sum.inl.injEq, Mi.look, Mi.put, List.any_cons, List.any_nil, Bool.or_true, Bool.or_false, Bool.true_or, Bool.false_or, List.find?_cons, Option.getD_some, Option.getD_none, Bool.bne_false, Bool.false_bne, Bool.true_bne, Bool.bne_true, Int.reduceEq, Int.reducePow, Mi.iSeq, Mi.seqOf, q]
  have e6 := are_rising_ok ks hl G
  unfold kOk
  cases hz : ks.all fun z => decide (z < N' s k) with
  | false =>
    rw [hz] at e4
    simp only [Mi.bnd, Mi.mVar, Mi.mC, Mi.mkL, Mi.m2, Mi.m1, Mi.uNeg, Mi.bAdd, Mi.bSub, Mi.bDiv, Mi.bMod, Mi.bPow, Mi.sEq, Mi.bEq, Mi.bCmp, Mi.bLt, Mi.bLe, Mi.bGt, Mi.bGe, Mi.isNon, Mi.mIsN, Mi.mChain, Mi.mAnd, Mi.mOr, Mi.mNot, Mi.mTb, Mi.mTand, Mi.mTor, Mi.mTnot, Mi.mIf, Mi.mNil, Mi.mCons, Mi.mTup, Mi.mLst, Mi.mB, Mi.kOf, Mi.mFld, Mi.mCall, Mi.mCallK, Mi.mMeth, Mi.mMethK, Mi.mDef, Mi.fInt, Mi.fMax, Mi.fMin, Mi.isI, Mi.mIsI, Ms.mIsC, Mi.gNm, Mi.gNil, Mi.gCons, Mi.gTup, Mi.mSeq, Mi.mSkip, Mi.mBrk, Mi.mCont, Mi.mAsg, Mi.mPar, Mi.mExpr, Mi.mRet, Mi.mRetN, Mi.mIfS, Mi.tYes, Mi.wipe, Ms.mDct0, Ms.bAddI, List.map_cons, List.map_nil, List.nil_append, List.cons_append, List.length_cons, List.length_nil, List.replicate_succ, List.replicate_zero, List.getElem?_cons_zero, List.getElem?_cons_succ, List.getElem?_nil, List.set_cons_zero, List.set_cons_succ, Option.map_some, Option.map_none, if_true, if_false, reduceIte, decide_true, decide_false, Nat.reduceAdd, Nat.reduceLeDiff, List.mem_cons, List.mem_singleton, true_or, or_true, true_and, and_true, bne_self_eq_false, Bool.not_true, Bool.not_false, reduceCtorEq, Nat.reduceEqDiff, beq_self_eq_true, Nat.reduceLT, Int.reduceLT, Int.reduceLE, Int.reduceToNat, Int.reduceAdd, Int.reduceSub, Int.reduceMul, Int.reduceNeg, String.reduceEq, String.reduceBEq, List.lookup_cons, List.lookup_nil, Mi.big, Mi.putF, List.length_append, List.append_assoc, ite_true, ite_false, Bool.false_eq_true, and_self, not_true_eq_false, not_false_eq_true, Sum.inr.injEq, Sum.inl.injEq, Mi.look, Mi.put, List.any_cons, List.any_nil, Bool.or_true, Bool.or_false, Bool.true_or, Bool.false_or, List.find?_cons, Option.getD_some, Option.getD_none, Bool.bne_false, Bool.false_bne, Bool.true_bne, Bool.bne_true, Int.reduceEq, Int.reducePow, m_are_keys_of, b_are_keys_of, e5, e4, Bool.false_and]
  | true =>
    rw [hz] at e4
    simp only [Mi.bnd, Mi.mVar, Mi.mC, Mi.mkL, Mi.m2, Mi.m1, Mi.uNeg, Mi.bAdd, Mi.bSub, Mi.bDiv, Mi.bMod, Mi.bPow, Mi.sEq, Mi.bEq, Mi.bCmp, Mi.bLt, Mi.bLe, Mi.bGt, Mi.bGe, Mi.isNon, Mi.mIsN, Mi.mChain, Mi.mAnd, Mi.mOr, Mi.mNot, Mi.mTb, Mi.mTand, Mi.mTor, Mi.mTnot, Mi.mIf, Mi.mNil, Mi.mCons, Mi.mTup, Mi.mLst, Mi.mB, Mi.kOf, Mi.mFld, Mi.mCall, Mi.mCallK, Mi.mMeth, Mi.mMethK, Mi.mDef, Mi.fInt, Mi.fMax, Mi.fMin, Mi.isI, Mi.mIsI, Ms.mIsC, Mi.gNm, Mi.gNil, Mi.gCons, Mi.gTup, Mi.mSeq, Mi.mSkip, Mi.mBrk, Mi.mCont, Mi.mAsg, Mi.mPar, Mi.mExpr, Mi.mRet, Mi.mRetN, Mi.mIfS, Mi.tYes, Mi.wipe, Ms.mDct0, Ms.bAddI, List.map_cons, List.map_nil, List.nil_append, List.cons_append, List.length_cons, List.length_nil, List.replicate_succ, List.replicate_zero, List.getElem?_cons_zero, List.getElem?_cons_succ, List.getElem?_nil, List.set_cons_zero, List.set_cons_succ, Option.map_some, Option.map_none, if_true, if_false, reduceIte, decide_true, decide_false, Nat.reduceAdd, Nat.reduceLeDiff, List.mem_cons, List.mem_singleton, true_or, or_true, true_and, and_true, bne_self_eq_false, Bool.not_true, Bool.not_false, reduceCtorEq, Nat.reduceEqDiff, beq_self_eq_true, Nat.reduceLT, Int.reduceLT, Int.reduceLE, Int.reduceToNat, Int.reduceAdd, Int.reduceSub, Int.reduceMul, Int.reduceNeg, String.reduceEq, String.reduceBEq, List.lookup_cons, List.lookup_nil, Mi.big, Mi.putF, List.length_append, List.append_assoc, ite_true, ite_false, Bool.false_eq_true, and_self, not_true_eq_false, not_false_eq_true, Sum.inr.injEq, Sum.inl.injEq, Mi.look, Mi.put, List.any_cons, List.any_nil, Bool.or_true, Bool.or_false, Bool.true_or, Bool.false_or, List.find?_cons, Option.getD_some, Option.getD_none, Bool.bne_false, Bool.false_bne, Bool.true_bne, Bool.bne_true, Int.reduceEq, Int.reducePow, m_are_keys_of, b_are_keys_of, e5, e4, e6, Bool.true_and]
theorem bIn_ok (neg : Bool) (i : Int) (zs : List Int) (G : Sto) : bIn neg (.int i) (.tup (zs.map Dv.int)) G = some (.bl (decide (i ∈ zs) != neg), G) := by
  have e := intsOf_map zs
  simp [bIn, Mi.seqOf, e]
/-- the form of a summary's keys -/
def fOk (s n : Int) (w3 : Int) (P Q Z : List Int) : Bool := decide (w3 < s) && kOk n P && kOk n Q && !(Q.any fun z => decide (z ∈ P)) && !(Z.any fun z => decide (0 < z))
theorem told_by_ok (D : Dsk G h hb hq hn s k bl qu nw) (o w0 w1 w2 w3 : Int) (m q : Nat) (P Q Z : List Int) (l : Int) (hm : P.length = m) (hq' : Q.length = q) (hz : m + q + Z.length = 25) :
    m_told_by [.ref h, .int o, T (w0 :: w1 :: w2 :: w3 :: (m : Int) :: (q : Int) :: (P ++ (Q ++ (Z ++ [l]))))] G = some (if (1 ≤ m + q ∧ m + q ≤ 24 ∧ o + 1 + m ≤ k) ∧ fOk s (N' s k) w3 P Q Z = true then .tup [.str "group", .int w0, .int w2, .int w3, .tup (P.map Dv.int), .tup (Q.map Dv.int)] else .non, G) := by
  have ob := D.ob
  have hl : (w0 :: w1 :: w2 :: w3 :: (m : Int) :: (q : Int) :: (P ++ (Q ++ (Z ++ [l])))).length = 32 := by simp only [List.length_cons, List.length_append, List.length_nil]; omega
  have c1 : Mi.cut ((w0 :: w1 :: w2 :: w3 :: (m : Int) :: (q : Int) :: (P ++ (Q ++ (Z ++ [l])))).map Dv.int) (some 2) (some 6) = [.int w2, .int w3, .int m, .int q] := cut_mid _ 2 6 (by decide) (by rw [List.length_map, hl]; decide)
  have c2 : Mi.cut ((w0 :: w1 :: w2 :: w3 :: (m : Int) :: (q : Int) :: (P ++ (Q ++ (Z ++ [l])))).map Dv.int) (some 6) (some (6 + (m : Int))) = P.map Dv.int := by
    have := cut_mid ((w0 :: w1 :: w2 :: w3 :: (m : Int) :: (q : Int) :: (P ++ (Q ++ (Z ++ [l])))).map Dv.int) 6 (6 + m) (by omega) (by rw [List.length_map, hl]; omega)
    rw [show ((6 + m : Nat) : Int) = 6 + (m : Int) by omega, ← List.map_drop, ← List.map_take, show 6 + m - 6 = m by omega] at this
    refine this.trans ?_
    show ((P ++ (Q ++ (Z ++ [l]))).take m).map Dv.int = _
    rw [List.take_left' hm]
  have c3 : Mi.cut ((w0 :: w1 :: w2 :: w3 :: (m : Int) :: (q : Int) :: (P ++ (Q ++ (Z ++ [l])))).map Dv.int) (some (6 + (m : Int))) (some (6 + (m : Int) + (q : Int))) = Q.map Dv.int := by
    have := cut_mid ((w0 :: w1 :: w2 :: w3 :: (m : Int) :: (q : Int) :: (P ++ (Q ++ (Z ++ [l])))).map Dv.int) (6 + m) (6 + m + q) (by omega) (by rw [List.length_map, hl]; omega)
    rw [show ((6 + m : Nat) : Int) = 6 + (m : Int) by omega, show ((6 + m + q : Nat) : Int) = 6 + (m : Int) + q by omega, ← List.map_drop, ← List.map_take, show 6 + m + q - (6 + m) = q by omega] at this
    refine this.trans ?_
    have e : (w0 :: w1 :: w2 :: w3 :: (m : Int) :: (q : Int) :: (P ++ (Q ++ (Z ++ [l])))).drop (6 + m) = Q ++ (Z ++ [l]) := by
      rw [show 6 + m = m + 6 by omega]
      show (P ++ (Q ++ (Z ++ [l]))).drop m = _
      rw [List.drop_left' hm]
    rw [e, List.take_left' hq']
  have c4 : m + q ≤ 24 → Mi.cut ((w0 :: w1 :: w2 :: w3 :: (m : Int) :: (q : Int) :: (P ++ (Q ++ (Z ++ [l])))).map Dv.int) (some (6 + (m : Int) + (q : Int))) (some (-1)) = Z.map Dv.int := fun hb => by
    have := cut_neg ((w0 :: w1 :: w2 :: w3 :: (m : Int) :: (q : Int) :: (P ++ (Q ++ (Z ++ [l])))).map Dv.int) (6 + m + q) (by omega) (by rw [List.length_map, hl])
    rw [show ((6 + m + q : Nat) : Int) = 6 + (m : Int) + q by omega, ← List.map_drop, ← List.map_take, show 31 - (6 + m + q) = Z.length by omega] at this
    refine this.trans ?_
    have e : (w0 :: w1 :: w2 :: w3 :: (m : Int) :: (q : Int) :: (P ++ (Q ++ (Z ++ [l])))).drop (6 + m + q) = Z ++ [l] := by
      rw [show 6 + m + q = (m + q) + 6 by omega]
      show (P ++ (Q ++ (Z ++ [l]))).drop (m + q) = _
      rw [← List.append_assoc, List.drop_left' (by rw [List.length_append]; omega)]
    rw [e, List.take_left' rfl]
  have s0 : ∀ G, Mi.bSubs (T (w0 :: w1 :: w2 :: w3 :: (m : Int) :: (q : Int) :: (P ++ (Q ++ (Z ++ [l]))))) (.int 0) G = some (.int w0, G) := fun G => wAt hl (i := 0) (by decide) G
  generalize hW : (w0 :: w1 :: w2 :: w3 :: (m : Int) :: (q : Int) :: (P ++ (Q ++ (Z ++ [l])))) = W at hl c1 c2 c3 c4 s0 ⊢
  by_cases h1 : 1 ≤ m + q ∧ m + q ≤ 24
  · by_cases h2 : s ≤ w3
    · have f : ¬ ((1 ≤ m + q ∧ m + q ≤ 24 ∧ o + 1 + m ≤ k) ∧ fOk s (N' s k) w3 P Q Z = true) := fun z => by
        have := z.2
        unfold fOk at this
        simp only [Bool.and_eq_true, decide_eq_true_eq] at this
        omega
      rw [if_neg f]
      have a1 : (1 : Int) ≤ (m : Int) + q := by omega
      have a2 : (m : Int) + q ≤ 24 := by omega
      simp only [Mi.bnd, Mi.mVar, Mi.mC, Mi.mkL, Mi.m2, Mi.m1, Mi.uNeg, Mi.bAdd, Mi.bSub, Mi.bDiv, Mi.bMod, Mi.bPow, Mi.sEq, Mi.bEq, Mi.bCmp, Mi.bLt, Mi.bLe, Mi.bGt, Mi.bGe, Mi.isNon, Mi.mIsN, Mi.mChain, Mi.mAnd, Mi.mOr, Mi.mNot, Mi.mTb, Mi.mTand, Mi.mTor, Mi.mTnot, Mi.mIf, Mi.mNil, Mi.mCons, Mi.mTup, Mi.mLst, Mi.mB, Mi.kOf, Mi.mFld, Mi.mCall, Mi.mCallK, Mi.mMeth, Mi.mMethK, Mi.mDef, Mi.fInt, Mi.fMax, Mi.fMin, Mi.isI, Mi.mIsI, Ms.mIsC, Mi.gNm, Mi.gNil, Mi.gCons, Mi.gTup, Mi.mSeq, Mi.mSkip, Mi.mBrk, Mi.mCont, Mi.mAsg, Mi.mPar, Mi.mExpr, Mi.mRet, Mi.mRetN, Mi.mIfS, Mi.tYes, Mi.wipe, Ms.mDct0, Ms.bAddI, List.map_cons, List.map_nil, List.nil_append, List.cons_append, List.length_cons, List.length_nil, List.replicate_succ, List.replicate_zero, List.getElem?_cons_zero, List.getElem?_cons_succ, List.getElem?_nil, List.set_cons_zero, List.set_cons_succ, Option.map_some, Option.map_none, if_true, if_false, reduceIte, decide_true, decide_false, Nat.reduceAdd, Nat.reduceLeDiff, List.mem_cons, List.mem_singleton, true_or, or_true, true_and, and_true, bne_self_eq_false, Bool.not_true, Bool.not_false, reduceCtorEq, Nat.reduceEqDiff, beq_self_eq_true, Nat.reduceLT, Int.reduceLT, Int.reduceLE, Int.reduceToNat, Int.reduceAdd, Int.reduceSub, Int.reduceMul, Int.reduceNeg, String.reduceEq, String.reduceBEq, List.lookup_cons, List.lookup_nil, Mi.big, Mi.putF, List.length_append, List.append_assoc, ite_true, ite_false, Bool.false_eq_true, and_self, not_true_eq_false, not_false_eq_true, Sum.inr.injEq, Sum.inl.injEq, Mi.look, Mi.put, List.any_cons, List.any_nil, Bool.or_true, Bool.or_false, Bool.true_or, Bool.false_or, List.find?_cons, Option.getD_some, Option.getD_none, Bool.bne_false, Bool.false_bne, Bool.true_bne, Bool.bne_true, Int.reduceEq, Int.reducePow, m_told_by, b_told_by, Mi.mSlice, Mi.mO, c1, a1, a2, ob, dfs, h2]
    · by_cases h3 : o + 1 + m > k
      · have f : ¬ ((1 ≤ m + q ∧ m + q ≤ 24 ∧ o + 1 + m ≤ k) ∧ fOk s (N' s k) w3 P Q Z = true) := fun z => by have := z.1; omega
        rw [if_neg f]
        have a1 : (1 : Int) ≤ (m : Int) + q := by omega
        have a2 : (m : Int) + q ≤ 24 := by omega
        have h3' : k < o + 1 + m := h3
        simp only [Mi.bnd, Mi.mVar, Mi.mC, Mi.mkL, Mi.m2, Mi.m1, Mi.uNeg, Mi.bAdd, Mi.bSub, Mi.bDiv, Mi.bMod, Mi.bPow, Mi.sEq, Mi.bEq, Mi.bCmp, Mi.bLt, Mi.bLe, Mi.bGt, Mi.bGe, Mi.isNon, Mi.mIsN, Mi.mChain, Mi.mAnd, Mi.mOr, Mi.mNot, Mi.mTb, Mi.mTand, Mi.mTor, Mi.mTnot, Mi.mIf, Mi.mNil, Mi.mCons, Mi.mTup, Mi.mLst, Mi.mB, Mi.kOf, Mi.mFld, Mi.mCall, Mi.mCallK, Mi.mMeth, Mi.mMethK, Mi.mDef, Mi.fInt, Mi.fMax, Mi.fMin, Mi.isI, Mi.mIsI, Ms.mIsC, Mi.gNm, Mi.gNil, Mi.gCons, Mi.gTup, Mi.mSeq, Mi.mSkip, Mi.mBrk, Mi.mCont, Mi.mAsg, Mi.mPar, Mi.mExpr, Mi.mRet, Mi.mRetN, Mi.mIfS, Mi.tYes, Mi.wipe, Ms.mDct0, Ms.bAddI, List.map_cons, List.map_nil, List.nil_append, List.cons_append, List.length_cons, List.length_nil, List.replicate_succ, List.replicate_zero, List.getElem?_cons_zero, List.getElem?_cons_succ, List.getElem?_nil, List.set_cons_zero, List.set_cons_succ, Option.map_some, Option.map_none, if_true, if_false, reduceIte, decide_true, decide_false, Nat.reduceAdd, Nat.reduceLeDiff, List.mem_cons, List.mem_singleton, true_or, or_true, true_and, and_true, bne_self_eq_false, Bool.not_true, Bool.not_false, reduceCtorEq, Nat.reduceEqDiff, beq_self_eq_true, Nat.reduceLT, Int.reduceLT, Int.reduceLE, Int.reduceToNat, Int.reduceAdd, Int.reduceSub, Int.reduceMul, Int.reduceNeg, String.reduceEq, String.reduceBEq, List.lookup_cons, List.lookup_nil, Mi.big, Mi.putF, List.length_append, List.append_assoc, ite_true, ite_false, Bool.false_eq_true, and_self, not_true_eq_false, not_false_eq_true, Sum.inr.injEq, Sum.inl.injEq, Mi.look, Mi.put, List.any_cons, List.any_nil, Bool.or_true, Bool.or_false, Bool.true_or, Bool.false_or, List.find?_cons, Option.getD_some, Option.getD_none, Bool.bne_false, Bool.false_bne, Bool.true_bne, Bool.bne_true, Int.reduceEq, Int.reducePow, m_told_by, b_told_by, Mi.mSlice, Mi.mO, c1, a1, a2, ob, dfs, h2, h3']
      · have a1 : (1 : Int) ≤ (m : Int) + q := by omega
        have a2 : (m : Int) + q ≤ 24 := by omega
        have h3' : ¬ k < o + 1 + m := h3
        have k1 := are_keys_ok D P (by omega)
        have k2 := are_keys_ok D Q (by omega)
        have g1 : (1 ≤ m + q ∧ m + q ≤ 24 ∧ o + 1 + m ≤ k) := ⟨h1.1, h1.2, by omega⟩
        have n1 : ∀ δ : Sl, δ = [some (.ref h), some (.int o), some (T W), some (.int w2), some (.int w3), some (.int m), some (.int q), some (.int (6 + (m : Int))), some (.int (6 + (m : Int) + q)), some (.tup (P.map Dv.int)), some (.tup (Q.map Dv.int)), none, none] → ql_told_by_1 δ G = some (.fls (Q.map fun z => .bl (decide (z ∈ P))), G) := fun δ hδ => by
          subst hδ
          have qq := lc_pure (g := Mi.gNm 11) (e := qe_told_by_1) (st := fun _ => True) (δ := [some (.ref h), some (.int o), some (T W), some (.int w2), some (.int w3), some (.int m), some (.int q), some (.int (6 + (m : Int))), some (.int (6 + (m : Int) + q)), some (.tup (P.map Dv.int)), some (.tup (Q.map Dv.int)), none, none]) (f := liftD fun z => .bl (decide (z ∈ P))) (G := G) trivial (Q.map Dv.int) [] (fun d hd => by
            obtain ⟨z, hz, rfl⟩ := List.mem_map.mp hd
            refine ⟨_, rfl, ?_⟩
            have b := bIn_ok false z P G
            simp only [Mi.bnd, Mi.mVar, Mi.mC, Mi.mkL, Mi.m2, Mi.m1, Mi.uNeg, Mi.bAdd, Mi.bSub, Mi.bDiv, Mi.bMod, Mi.bPow, Mi.sEq, Mi.bEq, Mi.bCmp, Mi.bLt, Mi.bLe, Mi.bGt, Mi.bGe, Mi.isNon, Mi.mIsN, Mi.mChain, Mi.mAnd, Mi.mOr, Mi.mNot, Mi.mTb, Mi.mTand, Mi.mTor, Mi.mTnot, Mi.mIf, Mi.mNil, Mi.mCons, Mi.mTup, Mi.mLst, Mi.mB, Mi.kOf, Mi.mFld, Mi.mCall, Mi.mCallK, Mi.mMeth, Mi.mMethK, Mi.mDef, Mi.fInt, Mi.fMax, Mi.fMin, Mi.isI, Mi.mIsI, Ms.mIsC, Mi.gNm, Mi.gNil, Mi.gCons, Mi.gTup, Mi.mSeq, Mi.mSkip, Mi.mBrk, Mi.mCont, Mi.mAsg, Mi.mPar, Mi.mExpr, Mi.mRet, Mi.mRetN, Mi.mIfS, Mi.tYes, Mi.wipe, Ms.mDct0, Ms.bAddI, List.map_cons, List.map_nil, List.nil_append, List.cons_append, List.length_cons, List.length_nil, List.replicate_succ, List.replicate_zero, List.getElem?_cons_zero, List.getElem?_cons_succ, List.getElem?_nil, List.set_cons_zero, List.set_cons_succ, Option.map_some, Option.map_none, if_true, if_false, reduceIte, decide_true, decide_false, Nat.reduceAdd, Nat.reduceLeDiff, List.mem_cons, List.mem_singleton, true_or, or_true, true_and, and_true, bne_self_eq_false, Bool.not_true, Bool.not_false, reduceCtorEq, Nat.reduceEqDiff, beq_self_eq_true, Nat.reduceLT, Int.reduceLT, Int.reduceLE, Int.reduceToNat, Int.reduceAdd, Int.reduceSub, Int.reduceMul, Int.reduceNeg, String.reduceEq, String.reduceBEq, List.lookup_cons, List.lookup_nil, Mi.big, Mi.putF, List.length_append, List.append_assoc, ite_true, ite_false, Bool.false_eq_true, and_self, not_true_eq_false, not_false_eq_true, Sum.inr.injEq, Sum.inl.injEq, Mi.look, Mi.put, List.any_cons, List.any_nil, Bool.or_true, Bool.or_false, Bool.true_or, Bool.false_or, List.find?_cons, Option.getD_some, Option.getD_none, Bool.bne_false, Bool.false_bne, Bool.true_bne, Bool.bne_true, Int.reduceEq, Int.reducePow, qe_told_by_1, b, liftD]) (by rw [List.length_map]; show 0 + _ ≤ 16777216; omega)
          rw [List.nil_append, map_liftD] at qq
          unfold ql_told_by_1 qi_told_by_1 Mi.mLc
          simp only [Mi.bnd, Mi.mVar, Mi.mC, Mi.mkL, Mi.m2, Mi.m1, Mi.uNeg, Mi.bAdd, Mi.bSub, Mi.bDiv, Mi.bMod, Mi.bPow, Mi.sEq, Mi.bEq, Mi.bCmp, Mi.bLt, Mi.bLe, Mi.bGt, Mi.bGe, Mi.isNon, Mi.mIsN, Mi.mChain, Mi.mAnd, Mi.mOr, Mi.mNot, Mi.mTb, Mi.mTand, Mi.mTor, Mi.mTnot, Mi.mIf, Mi.mNil, Mi.mCons, Mi.mTup, Mi.mLst, Mi.mB, Mi.kOf, Mi.mFld, Mi.mCall, Mi.mCallK, Mi.mMeth, Mi.mMethK, Mi.mDef, Mi.fInt, Mi.fMax, Mi.fMin, Mi.isI, Mi.mIsI, Ms.mIsC, Mi.gNm, Mi.gNil, Mi.gCons, Mi.gTup, Mi.mSeq, Mi.mSkip, Mi.mBrk, Mi.mCont, Mi.mAsg, Mi.mPar, Mi.mExpr, Mi.mRet, Mi.mRetN, Mi.mIfS, Mi.tYes, Mi.wipe, Ms.mDct0, Ms.bAddI, List.map_cons, List.map_nil, List.nil_append, List.cons_append, List.length_cons, List.length_nil, List.replicate_succ, List.replicate_zero, List.getElem?_cons_zero, List.getElem?_cons_succ, List.getElem?_nil, List.set_cons_zero, List.set_cons_succ, Option.map_some, Option.map_none, if_true, if_false, reduceIte, decide_true, decide_false, Nat.reduceAdd, Nat.reduceLeDiff, List.mem_cons, List.mem_singleton, true_or, or_true, true_and, and_true, bne_self_eq_false, Bool.not_true, Bool.not_false, reduceCtorEq, Nat.reduceEqDiff, beq_self_eq_true, Nat.reduceLT, Int.reduceLT, Int.reduceLE, Int.reduceToNat, Int.reduceAdd, Int.reduceSub, Int.reduceMul, Int.reduceNeg, String.reduceEq, String.reduceBEq, List.lookup_cons, List.lookup_nil, Mi.big, Mi.putF, List.length_append, List.append_assoc, ite_true, ite_false, Bool.false_eq_true, and_self, not_true_eq_false, not_false_eq_true, Sum.inr.injEq, Sum.inl.injEq, Mi.look, Mi.put, List.any_cons, List.any_nil, Bool.or_true, Bool.or_false, Bool.true_or, Bool.false_or, List.find?_cons, Option.getD_some, Option.getD_none, Bool.bne_false, Bool.false_bne, Bool.true_bne, Bool.bne_true, Int.reduceEq, Int.reducePow, Mi.iSeq, Mi.seqOf, qq]
        have n2 : ∀ δ : Sl, δ = [some (.ref h), some (.int o), some (T W), some (.int w2), some (.int w3), some (.int m), some (.int q), some (.int (6 + (m : Int))), some (.int (6 + (m : Int) + q)), some (.tup (P.map Dv.int)), some (.tup (Q.map Dv.int)), none, none] → ql_told_by_2 δ G = some (.fls (Z.map fun z => .bl (decide (0 < z))), G) := fun δ hδ => by
          subst hδ
          have qq := lc_pure (g := Mi.gNm 12) (e := qe_told_by_2) (st := fun _ => True) (δ := [some (.ref h), some (.int o), some (T W), some (.int w2), some (.int w3), some (.int m), some (.int q), some (.int (6 + (m : Int))), some (.int (6 + (m : Int) + q)), some (.tup (P.map Dv.int)), some (.tup (Q.map Dv.int)), none, none]) (f := liftD fun z => .bl (decide (0 < z))) (G := G) trivial (Z.map Dv.int) [] (fun d hd => by
            obtain ⟨z, hz, rfl⟩ := List.mem_map.mp hd
            refine ⟨_, rfl, ?_⟩
            simp only [Mi.bnd, Mi.mVar, Mi.mC, Mi.mkL, Mi.m2, Mi.m1, Mi.uNeg, Mi.bAdd, Mi.bSub, Mi.bDiv, Mi.bMod, Mi.bPow, Mi.sEq, Mi.bEq, Mi.bCmp, Mi.bLt, Mi.bLe, Mi.bGt, Mi.bGe, Mi.isNon, Mi.mIsN, Mi.mChain, Mi.mAnd, Mi.mOr, Mi.mNot, Mi.mTb, Mi.mTand, Mi.mTor, Mi.mTnot, Mi.mIf, Mi.mNil, Mi.mCons, Mi.mTup, Mi.mLst, Mi.mB, Mi.kOf, Mi.mFld, Mi.mCall, Mi.mCallK, Mi.mMeth, Mi.mMethK, Mi.mDef, Mi.fInt, Mi.fMax, Mi.fMin, Mi.isI, Mi.mIsI, Ms.mIsC, Mi.gNm, Mi.gNil, Mi.gCons, Mi.gTup, Mi.mSeq, Mi.mSkip, Mi.mBrk, Mi.mCont, Mi.mAsg, Mi.mPar, Mi.mExpr, Mi.mRet, Mi.mRetN, Mi.mIfS, Mi.tYes, Mi.wipe, Ms.mDct0, Ms.bAddI, List.map_cons, List.map_nil, List.nil_append, List.cons_append, List.length_cons, List.length_nil, List.replicate_succ, List.replicate_zero, List.getElem?_cons_zero, List.getElem?_cons_succ, List.getElem?_nil, List.set_cons_zero, List.set_cons_succ, Option.map_some, Option.map_none, if_true, if_false, reduceIte, decide_true, decide_false, Nat.reduceAdd, Nat.reduceLeDiff, List.mem_cons, List.mem_singleton, true_or, or_true, true_and, and_true, bne_self_eq_false, Bool.not_true, Bool.not_false, reduceCtorEq, Nat.reduceEqDiff, beq_self_eq_true, Nat.reduceLT, Int.reduceLT, Int.reduceLE, Int.reduceToNat, Int.reduceAdd, Int.reduceSub, Int.reduceMul, Int.reduceNeg, String.reduceEq, String.reduceBEq, List.lookup_cons, List.lookup_nil, Mi.big, Mi.putF, List.length_append, List.append_assoc, ite_true, ite_false, Bool.false_eq_true, and_self, not_true_eq_false, not_false_eq_true, Sum.inr.injEq, Sum.inl.injEq, Mi.look, Mi.put, List.any_cons, List.any_nil, Bool.or_true, Bool.or_false, Bool.true_or, Bool.false_or, List.find?_cons, Option.getD_some, Option.getD_none, Bool.bne_false, Bool.false_bne, Bool.true_bne, Bool.bne_true, Int.reduceEq, Int.reducePow, qe_told_by_2, liftD]) (by rw [List.length_map]; show 0 + _ ≤ 16777216; omega)
          rw [List.nil_append, map_liftD] at qq
          have c4' := c4 h1.2
          unfold ql_told_by_2 qi_told_by_2 Mi.mLc
          simp only [Mi.bnd, Mi.mVar, Mi.mC, Mi.mkL, Mi.m2, Mi.m1, Mi.uNeg, Mi.bAdd, Mi.bSub, Mi.bDiv, Mi.bMod, Mi.bPow, Mi.sEq, Mi.bEq, Mi.bCmp, Mi.bLt, Mi.bLe, Mi.bGt, Mi.bGe, Mi.isNon, Mi.mIsN, Mi.mChain, Mi.mAnd, Mi.mOr, Mi.mNot, Mi.mTb, Mi.mTand, Mi.mTor, Mi.mTnot, Mi.mIf, Mi.mNil, Mi.mCons, Mi.mTup, Mi.mLst, Mi.mB, Mi.kOf, Mi.mFld, Mi.mCall, Mi.mCallK, Mi.mMeth, Mi.mMethK, Mi.mDef, Mi.fInt, Mi.fMax, Mi.fMin, Mi.isI, Mi.mIsI, Ms.mIsC, Mi.gNm, Mi.gNil, Mi.gCons, Mi.gTup, Mi.mSeq, Mi.mSkip, Mi.mBrk, Mi.mCont, Mi.mAsg, Mi.mPar, Mi.mExpr, Mi.mRet, Mi.mRetN, Mi.mIfS, Mi.tYes, Mi.wipe, Ms.mDct0, Ms.bAddI, List.map_cons, List.map_nil, List.nil_append, List.cons_append, List.length_cons, List.length_nil, List.replicate_succ, List.replicate_zero, List.getElem?_cons_zero, List.getElem?_cons_succ, List.getElem?_nil, List.set_cons_zero, List.set_cons_succ, Option.map_some, Option.map_none, if_true, if_false, reduceIte, decide_true, decide_false, Nat.reduceAdd, Nat.reduceLeDiff, List.mem_cons, List.mem_singleton, true_or, or_true, true_and, and_true, bne_self_eq_false, Bool.not_true, Bool.not_false, reduceCtorEq, Nat.reduceEqDiff, beq_self_eq_true, Nat.reduceLT, Int.reduceLT, Int.reduceLE, Int.reduceToNat, Int.reduceAdd, Int.reduceSub, Int.reduceMul, Int.reduceNeg, String.reduceEq, String.reduceBEq, List.lookup_cons, List.lookup_nil, Mi.big, Mi.putF, List.length_append, List.append_assoc, ite_true, ite_false, Bool.false_eq_true, and_self, not_true_eq_false, not_false_eq_true, Sum.inr.injEq, Sum.inl.injEq, Mi.look, Mi.put, List.any_cons, List.any_nil, Bool.or_true, Bool.or_false, Bool.true_or, Bool.false_or, List.find?_cons, Option.getD_some, Option.getD_none, Bool.bne_false, Bool.false_bne, Bool.true_bne, Bool.bne_true, Int.reduceEq, Int.reducePow, Mi.mSlice, Mi.mO, c4', Mi.iSeq, Mi.seqOf, qq]
        have n1' := n1 _ rfl
        have n2' := n2 _ rfl
        have y1 := fAny_map (fun z => decide (z ∈ P)) Q G
        have y2 := fAny_map (fun z => decide (0 < z)) Z G
        have dw : decide (w3 < s) = true := decide_eq_true (by omega)
        unfold fOk
        rw [dw]
        cases hk1 : kOk (N' s k) P
        · rw [hk1] at k1
          rw [if_neg (by simp)]
          simp only [Mi.bnd, Mi.mVar, Mi.mC, Mi.mkL, Mi.m2, Mi.m1, Mi.uNeg, Mi.bAdd, Mi.bSub, Mi.bDiv, Mi.bMod, Mi.bPow, Mi.sEq, Mi.bEq, Mi.bCmp, Mi.bLt, Mi.bLe, Mi.bGt, Mi.bGe, Mi.isNon, Mi.mIsN, Mi.mChain, Mi.mAnd, Mi.mOr, Mi.mNot, Mi.mTb, Mi.mTand, Mi.mTor, Mi.mTnot, Mi.mIf, Mi.mNil, Mi.mCons, Mi.mTup, Mi.mLst, Mi.mB, Mi.kOf, Mi.mFld, Mi.mCall, Mi.mCallK, Mi.mMeth, Mi.mMethK, Mi.mDef, Mi.fInt, Mi.fMax, Mi.fMin, Mi.isI, Mi.mIsI, Ms.mIsC, Mi.gNm, Mi.gNil, Mi.gCons, Mi.gTup, Mi.mSeq, Mi.mSkip, Mi.mBrk, Mi.mCont, Mi.mAsg, Mi.mPar, Mi.mExpr, Mi.mRet, Mi.mRetN, Mi.mIfS, Mi.tYes, Mi.wipe, Ms.mDct0, Ms.bAddI, List.map_cons, List.map_nil, List.nil_append, List.cons_append, List.length_cons, List.length_nil, List.replicate_succ, List.replicate_zero, List.getElem?_cons_zero, List.getElem?_cons_succ, List.getElem?_nil, List.set_cons_zero, List.set_cons_succ, Option.map_some, Option.map_none, if_true, if_false, reduceIte, decide_true, decide_false, Nat.reduceAdd, Nat.reduceLeDiff, List.mem_cons, List.mem_singleton, true_or, or_true, true_and, and_true, bne_self_eq_false, Bool.not_true, Bool.not_false, reduceCtorEq, Nat.reduceEqDiff, beq_self_eq_true, Nat.reduceLT, Int.reduceLT, Int.reduceLE, Int.reduceToNat, Int.reduceAdd, Int.reduceSub, Int.reduceMul, Int.reduceNeg, String.reduceEq, String.reduceBEq, List.lookup_cons, List.lookup_nil, Mi.big, Mi.putF, List.length_append, List.append_assoc, ite_true, ite_false, Bool.false_eq_true, and_self, not_true_eq_false, not_false_eq_true, Sum.inr.injEq, Sum.inl.injEq, Mi.look, Mi.put, List.any_cons, List.any_nil, Bool.or_true, Bool.or_false, Bool.true_or, Bool.false_or, List.find?_cons, Option.getD_some, Option.getD_none, Bool.bne_false, Bool.false_bne, Bool.true_bne, Bool.bne_true, Int.reduceEq, Int.reducePow, m_told_by, b_told_by, Mi.mSlice, Mi.mO, c1, a1, a2, ob, dfs, h2, h3', c2, c3, k1]
        · rw [hk1] at k1
          cases hk2 : kOk (N' s k) Q
          · rw [hk2] at k2
            rw [if_neg (by simp)]
            simp only [Mi.bnd, Mi.mVar, Mi.mC, Mi.mkL, Mi.m2, Mi.m1, Mi.uNeg, Mi.bAdd, Mi.bSub, Mi.bDiv, Mi.bMod, Mi.bPow, Mi.sEq, Mi.bEq, Mi.bCmp, Mi.bLt, Mi.bLe, Mi.bGt, Mi.bGe, Mi.isNon, Mi.mIsN, Mi.mChain, Mi.mAnd, Mi.mOr, Mi.mNot, Mi.mTb, Mi.mTand, Mi.mTor, Mi.mTnot, Mi.mIf, Mi.mNil, Mi.mCons, Mi.mTup, Mi.mLst, Mi.mB, Mi.kOf, Mi.mFld, Mi.mCall, Mi.mCallK, Mi.mMeth, Mi.mMethK, Mi.mDef, Mi.fInt, Mi.fMax, Mi.fMin, Mi.isI, Mi.mIsI, Ms.mIsC, Mi.gNm, Mi.gNil, Mi.gCons, Mi.gTup, Mi.mSeq, Mi.mSkip, Mi.mBrk, Mi.mCont, Mi.mAsg, Mi.mPar, Mi.mExpr, Mi.mRet, Mi.mRetN, Mi.mIfS, Mi.tYes, Mi.wipe, Ms.mDct0, Ms.bAddI, List.map_cons, List.map_nil, List.nil_append, List.cons_append, List.length_cons, List.length_nil, List.replicate_succ, List.replicate_zero, List.getElem?_cons_zero, List.getElem?_cons_succ, List.getElem?_nil, List.set_cons_zero, List.set_cons_succ, Option.map_some, Option.map_none, if_true, if_false, reduceIte, decide_true, decide_false, Nat.reduceAdd, Nat.reduceLeDiff, List.mem_cons, List.mem_singleton, true_or, or_true, true_and, and_true, bne_self_eq_false, Bool.not_true, Bool.not_false, reduceCtorEq, Nat.reduceEqDiff, beq_self_eq_true, Nat.reduceLT, Int.reduceLT, Int.reduceLE, Int.reduceToNat, Int.reduceAdd, Int.reduceSub, Int.reduceMul, Int.reduceNeg, String.reduceEq, String.reduceBEq, List.lookup_cons, List.lookup_nil, Mi.big, Mi.putF, List.length_append, List.append_assoc, ite_true, ite_false, Bool.false_eq_true, and_self, not_true_eq_false, not_false_eq_true, Sum.inr.injEq, Sum.inl.injEq, Mi.look, Mi.put, List.any_cons, List.any_nil, Bool.or_true, Bool.or_false, Bool.true_or, Bool.false_or, List.find?_cons, Option.getD_some, Option.getD_none, Bool.bne_false, Bool.false_bne, Bool.true_bne, Bool.bne_true, Int.reduceEq, Int.reducePow, m_told_by, b_told_by, Mi.mSlice, Mi.mO, c1, a1, a2, ob, dfs, h2, h3', c2, c3, k1, k2]
          · rw [hk2] at k2
            cases hk3 : Q.any fun z => decide (z ∈ P)
            · rw [hk3] at y1
              cases hk4 : Z.any fun z => decide (0 < z)
              · rw [hk4] at y2
                rw [if_pos ⟨g1, by simp⟩]
                simp only [Mi.bnd, Mi.mVar, Mi.mC, Mi.mkL, Mi.m2, Mi.m1, Mi.uNeg, Mi.bAdd, Mi.bSub, Mi.bDiv, Mi.bMod, Mi.bPow, Mi.sEq, Mi.bEq, Mi.bCmp, Mi.bLt, Mi.bLe, Mi.bGt, Mi.bGe, Mi.isNon, Mi.mIsN, Mi.mChain, Mi.mAnd, Mi.mOr, Mi.mNot, Mi.mTb, Mi.mTand, Mi.mTor, Mi.mTnot, Mi.mIf, Mi.mNil, Mi.mCons, Mi.mTup, Mi.mLst, Mi.mB, Mi.kOf, Mi.mFld, Mi.mCall, Mi.mCallK, Mi.mMeth, Mi.mMethK, Mi.mDef, Mi.fInt, Mi.fMax, Mi.fMin, Mi.isI, Mi.mIsI, Ms.mIsC, Mi.gNm, Mi.gNil, Mi.gCons, Mi.gTup, Mi.mSeq, Mi.mSkip, Mi.mBrk, Mi.mCont, Mi.mAsg, Mi.mPar, Mi.mExpr, Mi.mRet, Mi.mRetN, Mi.mIfS, Mi.tYes, Mi.wipe, Ms.mDct0, Ms.bAddI, List.map_cons, List.map_nil, List.nil_append, List.cons_append, List.length_cons, List.length_nil, List.replicate_succ, List.replicate_zero, List.getElem?_cons_zero, List.getElem?_cons_succ, List.getElem?_nil, List.set_cons_zero, List.set_cons_succ, Option.map_some, Option.map_none, if_true, if_false, reduceIte, decide_true, decide_false, Nat.reduceAdd, Nat.reduceLeDiff, List.mem_cons, List.mem_singleton, true_or, or_true, true_and, and_true, bne_self_eq_false, Bool.not_true, Bool.not_false, reduceCtorEq, Nat.reduceEqDiff, beq_self_eq_true, Nat.reduceLT, Int.reduceLT, Int.reduceLE, Int.reduceToNat, Int.reduceAdd, Int.reduceSub, Int.reduceMul, Int.reduceNeg, String.reduceEq, String.reduceBEq, List.lookup_cons, List.lookup_nil, Mi.big, Mi.putF, List.length_append, List.append_assoc, ite_true, ite_false, Bool.false_eq_true, and_self, not_true_eq_false, not_false_eq_true, Sum.inr.injEq, Sum.inl.injEq, Mi.look, Mi.put, List.any_cons, List.any_nil, Bool.or_true, Bool.or_false, Bool.true_or, Bool.false_or, List.find?_cons, Option.getD_some, Option.getD_none, Bool.bne_false, Bool.false_bne, Bool.true_bne, Bool.bne_true, Int.reduceEq, Int.reducePow, m_told_by, b_told_by, Mi.mSlice, Mi.mO, c1, a1, a2, ob, dfs, h2, h3', c2, c3, k1, k2, n1', y1, n2', y2, s0]
              · rw [hk4] at y2
                rw [if_neg (by simp)]
                simp only [Mi.bnd, Mi.mVar, Mi.mC, Mi.mkL, Mi.m2, Mi.m1, Mi.uNeg, Mi.bAdd, Mi.bSub, Mi.bDiv, Mi.bMod, Mi.bPow, Mi.sEq, Mi.bEq, Mi.bCmp, Mi.bLt, Mi.bLe, Mi.bGt, Mi.bGe, Mi.isNon, Mi.mIsN, Mi.mChain, Mi.mAnd, Mi.mOr, Mi.mNot, Mi.mTb, Mi.mTand, Mi.mTor, Mi.mTnot, Mi.mIf, Mi.mNil, Mi.mCons, Mi.mTup, Mi.mLst, Mi.mB, Mi.kOf, Mi.mFld, Mi.mCall, Mi.mCallK, Mi.mMeth, Mi.mMethK, Mi.mDef, Mi.fInt, Mi.fMax, Mi.fMin, Mi.isI, Mi.mIsI, Ms.mIsC, Mi.gNm, Mi.gNil, Mi.gCons, Mi.gTup, Mi.mSeq, Mi.mSkip, Mi.mBrk, Mi.mCont, Mi.mAsg, Mi.mPar, Mi.mExpr, Mi.mRet, Mi.mRetN, Mi.mIfS, Mi.tYes, Mi.wipe, Ms.mDct0, Ms.bAddI, List.map_cons, List.map_nil, List.nil_append, List.cons_append, List.length_cons, List.length_nil, List.replicate_succ, List.replicate_zero, List.getElem?_cons_zero, List.getElem?_cons_succ, List.getElem?_nil, List.set_cons_zero, List.set_cons_succ, Option.map_some, Option.map_none, if_true, if_false, reduceIte, decide_true, decide_false, Nat.reduceAdd, Nat.reduceLeDiff, List.mem_cons, List.mem_singleton, true_or, or_true, true_and, and_true, bne_self_eq_false, Bool.not_true, Bool.not_false, reduceCtorEq, Nat.reduceEqDiff, beq_self_eq_true, Nat.reduceLT, Int.reduceLT, Int.reduceLE, Int.reduceToNat, Int.reduceAdd, Int.reduceSub, Int.reduceMul, Int.reduceNeg, String.reduceEq, String.reduceBEq, List.lookup_cons, List.lookup_nil, Mi.big, Mi.putF, List.length_append, List.append_assoc, ite_true, ite_false, Bool.false_eq_true, and_self, not_true_eq_false, not_false_eq_true, Sum.inr.injEq, Sum.inl.injEq, Mi.look, Mi.put, List.any_cons, List.any_nil, Bool.or_true, Bool.or_false, Bool.true_or, Bool.false_or, List.find?_cons, Option.getD_some, Option.getD_none, Bool.bne_false, Bool.false_bne, Bool.true_bne, Bool.bne_true, Int.reduceEq, Int.reducePow, m_told_by, b_told_by, Mi.mSlice, Mi.mO, c1, a1, a2, ob, dfs, h2, h3', c2, c3, k1, k2, n1', y1, n2', y2]
            · rw [hk3] at y1
              rw [if_neg (by simp)]
              simp only [Mi.bnd, Mi.mVar, Mi.mC, Mi.mkL, Mi.m2, Mi.m1, Mi.uNeg, Mi.bAdd, Mi.bSub, Mi.bDiv, Mi.bMod, Mi.bPow, Mi.sEq, Mi.bEq, Mi.bCmp, Mi.bLt, Mi.bLe, Mi.bGt, Mi.bGe, Mi.isNon, Mi.mIsN, Mi.mChain, Mi.mAnd, Mi.mOr, Mi.mNot, Mi.mTb, Mi.mTand, Mi.mTor, Mi.mTnot, Mi.mIf, Mi.mNil, Mi.mCons, Mi.mTup, Mi.mLst, Mi.mB, Mi.kOf, Mi.mFld, Mi.mCall, Mi.mCallK, Mi.mMeth, Mi.mMethK, Mi.mDef, Mi.fInt, Mi.fMax, Mi.fMin, Mi.isI, Mi.mIsI, Ms.mIsC, Mi.gNm, Mi.gNil, Mi.gCons, Mi.gTup, Mi.mSeq, Mi.mSkip, Mi.mBrk, Mi.mCont, Mi.mAsg, Mi.mPar, Mi.mExpr, Mi.mRet, Mi.mRetN, Mi.mIfS, Mi.tYes, Mi.wipe, Ms.mDct0, Ms.bAddI, List.map_cons, List.map_nil, List.nil_append, List.cons_append, List.length_cons, List.length_nil, List.replicate_succ, List.replicate_zero, List.getElem?_cons_zero, List.getElem?_cons_succ, List.getElem?_nil, List.set_cons_zero, List.set_cons_succ, Option.map_some, Option.map_none, if_true, if_false, reduceIte, decide_true, decide_false, Nat.reduceAdd, Nat.reduceLeDiff, List.mem_cons, List.mem_singleton, true_or, or_true, true_and, and_true, bne_self_eq_false, Bool.not_true, Bool.not_false, reduceCtorEq, Nat.reduceEqDiff, beq_self_eq_true, Nat.reduceLT, Int.reduceLT, Int.reduceLE, Int.reduceToNat, Int.reduceAdd, Int.reduceSub, Int.reduceMul, Int.reduceNeg, String.reduceEq, String.reduceBEq, List.lookup_cons, List.lookup_nil, Mi.big, Mi.putF, List.length_append, List.append_assoc, ite_true, ite_false, Bool.false_eq_true, and_self, not_true_eq_false, not_false_eq_true, Sum.inr.injEq, Sum.inl.injEq, Mi.look, Mi.put, List.any_cons, List.any_nil, Bool.or_true, Bool.or_false, Bool.true_or, Bool.false_or, List.find?_cons, Option.getD_some, Option.getD_none, Bool.bne_false, Bool.false_bne, Bool.true_bne, Bool.bne_true, Int.reduceEq, Int.reducePow, m_told_by, b_told_by, Mi.mSlice, Mi.mO, c1, a1, a2, ob, dfs, h2, h3', c2, c3, k1, k2, n1', y1]
  · have f : ¬ ((1 ≤ m + q ∧ m + q ≤ 24 ∧ o + 1 + m ≤ k) ∧ fOk s (N' s k) w3 P Q Z = true) := fun z => h1 ⟨z.1.1, z.1.2.1⟩
    rw [if_neg f]
    by_cases a1 : (1 : Int) ≤ (m : Int) + q
    · have a2 : ¬ (m : Int) + q ≤ 24 := by omega
      simp only [Mi.bnd, Mi.mVar, Mi.mC, Mi.mkL, Mi.m2, Mi.m1, Mi.uNeg, Mi.bAdd, Mi.bSub, Mi.bDiv, Mi.bMod, Mi.bPow, Mi.sEq, Mi.bEq, Mi.bCmp, Mi.bLt, Mi.bLe, Mi.bGt, Mi.bGe, Mi.isNon, Mi.mIsN, Mi.mChain, Mi.mAnd, Mi.mOr, Mi.mNot, Mi.mTb, Mi.mTand, Mi.mTor, Mi.mTnot, Mi.mIf, Mi.mNil, Mi.mCons, Mi.mTup, Mi.mLst, Mi.mB, Mi.kOf, Mi.mFld, Mi.mCall, Mi.mCallK, Mi.mMeth, Mi.mMethK, Mi.mDef, Mi.fInt, Mi.fMax, Mi.fMin, Mi.isI, Mi.mIsI, Ms.mIsC, Mi.gNm, Mi.gNil, Mi.gCons, Mi.gTup, Mi.mSeq, Mi.mSkip, Mi.mBrk, Mi.mCont, Mi.mAsg, Mi.mPar, Mi.mExpr, Mi.mRet, Mi.mRetN, Mi.mIfS, Mi.tYes, Mi.wipe, Ms.mDct0, Ms.bAddI, List.map_cons, List.map_nil, List.nil_append, List.cons_append, List.length_cons, List.length_nil, List.replicate_succ, List.replicate_zero, List.getElem?_cons_zero, List.getElem?_cons_succ, List.getElem?_nil, List.set_cons_zero, List.set_cons_succ, Option.map_some, Option.map_none, if_true, if_false, reduceIte, decide_true, decide_false, Nat.reduceAdd, Nat.reduceLeDiff, List.mem_cons, List.mem_singleton, true_or, or_true, true_and, and_true, bne_self_eq_false, Bool.not_true, Bool.not_false, reduceCtorEq, Nat.reduceEqDiff, beq_self_eq_true, Nat.reduceLT, Int.reduceLT, Int.reduceLE, Int.reduceToNat, Int.reduceAdd, Int.reduceSub, Int.reduceMul, Int.reduceNeg, String.reduceEq, String.reduceBEq, List.lookup_cons, List.lookup_nil, Mi.big, Mi.putF, List.length_append, List.append_assoc, ite_true, ite_false, Bool.false_eq_true, and_self, not_true_eq_false, not_false_eq_true, Sum.inr.injEq, Sum.inl.injEq, Mi.look, Mi.put, List.any_cons, List.any_nil, Bool.or_true, Bool.or_false, Bool.true_or, Bool.false_or, List.find?_cons, Option.getD_some, Option.getD_none, Bool.bne_false, Bool.false_bne, Bool.true_bne, Bool.bne_true, Int.reduceEq, Int.reducePow, m_told_by, b_told_by, Mi.mSlice, Mi.mO, c1, a1, a2]
    · simp only [Mi.bnd, Mi.mVar, Mi.mC, Mi.mkL, Mi.m2, Mi.m1, Mi.uNeg, Mi.bAdd, Mi.bSub, Mi.bDiv, Mi.bMod, Mi.bPow, Mi.sEq, Mi.bEq, Mi.bCmp, Mi.bLt, Mi.bLe, Mi.bGt, Mi.bGe, Mi.isNon, Mi.mIsN, Mi.mChain, Mi.mAnd, Mi.mOr, Mi.mNot, Mi.mTb, Mi.mTand, Mi.mTor, Mi.mTnot, Mi.mIf, Mi.mNil, Mi.mCons, Mi.mTup, Mi.mLst, Mi.mB, Mi.kOf, Mi.mFld, Mi.mCall, Mi.mCallK, Mi.mMeth, Mi.mMethK, Mi.mDef, Mi.fInt, Mi.fMax, Mi.fMin, Mi.isI, Mi.mIsI, Ms.mIsC, Mi.gNm, Mi.gNil, Mi.gCons, Mi.gTup, Mi.mSeq, Mi.mSkip, Mi.mBrk, Mi.mCont, Mi.mAsg, Mi.mPar, Mi.mExpr, Mi.mRet, Mi.mRetN, Mi.mIfS, Mi.tYes, Mi.wipe, Ms.mDct0, Ms.bAddI, List.map_cons, List.map_nil, List.nil_append, List.cons_append, List.length_cons, List.length_nil, List.replicate_succ, List.replicate_zero, List.getElem?_cons_zero, List.getElem?_cons_succ, List.getElem?_nil, List.set_cons_zero, List.set_cons_succ, Option.map_some, Option.map_none, if_true, if_false, reduceIte, decide_true, decide_false, Nat.reduceAdd, Nat.reduceLeDiff, List.mem_cons, List.mem_singleton, true_or, or_true, true_and, and_true, bne_self_eq_false, Bool.not_true, Bool.not_false, reduceCtorEq, Nat.reduceEqDiff, beq_self_eq_true, Nat.reduceLT, Int.reduceLT, Int.reduceLE, Int.reduceToNat, Int.reduceAdd, Int.reduceSub, Int.reduceMul, Int.reduceNeg, String.reduceEq, String.reduceBEq, List.lookup_cons, List.lookup_nil, Mi.big, Mi.putF, List.length_append, List.append_assoc, ite_true, ite_false, Bool.false_eq_true, and_self, not_true_eq_false, not_false_eq_true, Sum.inr.injEq, Sum.inl.injEq, Mi.look, Mi.put, List.any_cons, List.any_nil, Bool.or_true, Bool.or_false, Bool.true_or, Bool.false_or, List.find?_cons, Option.getD_some, Option.getD_none, Bool.bne_false, Bool.false_bne, Bool.true_bne, Bool.bne_true, Int.reduceEq, Int.reducePow, m_told_by, b_told_by, Mi.mSlice, Mi.mO, c1, a1]
end
end Lw

namespace Lw
open Mi (Dv MO Sto Sl Rs bnd ME MT MA MS MF Fl MG MGs MI)
open Ms (mExtend mPar3 fMaxL mLc2 mLc2Loop gUnL mReprK txt mZipT iEnumT bIn fSorted srt mPopAt fMaxTI fIntB)
open PySem (PyData Str)
/-! ### data blocks -/
def dataOk (n key : Int) (w : List Int) : Bool := decide (w.take 3 = [n, 2, key]) && decide (w.getD 31 0 = n)
theorem cut3 {w : List Int} (h : w.length = 32) : Mi.cut (w.map Dv.int) none (some 3) = (w.take 3).map Dv.int := by
  have := cut_lo (w.map Dv.int) 3 (by rw [List.length_map, h]; decide)
  rw [← List.map_take] at this
  exact this
theorem eqT (neg : Bool) (a b : List Int) (G : Sto) : Mi.bEq neg (.tup (a.map Dv.int)) (.tup (b.map Dv.int)) G = some (.bl (decide (a = b) != neg), G) := by
  have e1 := intsOf_map a
  have e2 := intsOf_map b
  simp [Mi.bEq, Mi.sEq, Mi.qEq, e1, e2]
theorem eq3 (neg : Bool) (a : List Int) (x y z : Int) (G : Sto) : Mi.bEq neg (.tup (a.map Dv.int)) (.tup [.int x, .int y, .int z]) G = some (.bl (decide (a = [x, y, z]) != neg), G) := eqT neg a [x, y, z] G
theorem is_data_ok {w : List Int} (h : w.length = 32) (n key : Int) (G : Sto) : m_is_data_of [T w, .int n, .int key] G = some (.bl (dataOk n key w), G) := by
  have c := cut3 h
  have l := wLast h G
  have e := eq3 false (w.take 3) n 2 key G
  unfold dataOk
  have u : T w = .tup (w.map Dv.int) := rfl
  cases hz : decide (w.take 3 = [n, 2, key])
  · rw [hz] at e
    simp only [Mi.bnd, Mi.mVar, Mi.mC, Mi.mkL, Mi.m2, Mi.m1, Mi.uNeg, Mi.bAdd, Mi.bSub, Mi.bDiv, Mi.bMod, Mi.bPow, Mi.sEq, Mi.bEq, Mi.bCmp, Mi.bLt, Mi.bLe, Mi.bGt, Mi.bGe, Mi.isNon, Mi.mIsN, Mi.mChain, Mi.mAnd, Mi.mOr, Mi.mNot, Mi.mTb, Mi.mTand, Mi.mTor, Mi.mTnot, Mi.mIf, Mi.mNil, Mi.mCons, Mi.mTup, Mi.mLst, Mi.mB, Mi.kOf, Mi.mFld, Mi.mCall, Mi.mCallK, Mi.mMeth, Mi.mMethK, Mi.mDef, Mi.fInt, Mi.fMax, Mi.fMin, Mi.isI, Mi.mIsI, Ms.mIsC, Mi.gNm, Mi.gNil, Mi.gCons, Mi.gTup, Mi.mSeq, Mi.mSkip, Mi.mBrk, Mi.mCont, Mi.mAsg, Mi.mPar, Mi.mExpr, Mi.mRet, Mi.mRetN, Mi.mIfS, Mi.tYes, Mi.wipe, Ms.mDct0, Ms.bAddI, List.map_cons, List.map_nil, List.nil_append, List.cons_append, List.length_cons, List.length_nil, List.replicate_succ, List.replicate_zero, List.getElem?_cons_zero, List.getElem?_cons_succ, List.getElem?_nil, List.set_cons_zero, List.set_cons_succ, Option.map_some, Option.map_none, if_true, if_false, reduceIte, decide_true, decide_false, Nat.reduceAdd, Nat.reduceLeDiff, List.mem_cons, List.mem_singleton, true_or, or_true, true_and, and_true, bne_self_eq_false, Bool.not_true, Bool.not_false, reduceCtorEq, Nat.reduceEqDiff, beq_self_eq_true, Nat.reduceLT, Int.reduceLT, Int.reduceLE, Int.reduceToNat, Int.reduceAdd, Int.reduceSub, Int.reduceMul, Int.reduceNeg, String.reduceEq, String.reduceBEq, List.lookup_cons, List.lookup_nil, Mi.big, Mi.putF, List.length_append, List.append_assoc, ite_true, ite_false, Bool.false_eq_true, and_self, not_true_eq_false, not_false_eq_true, Sum.inr.injEq, Sum.inl.injEq, Mi.look, Mi.put, List.any_cons, List.any_nil, Bool.or_true, Bool.or_false, Bool.true_or, Bool.false_or, List.find?_cons, Option.getD_some, Option.getD_none, Bool.bne_false, Bool.false_bne, Bool.true_bne, Bool.bne_true, Int.reduceEq, Int.reducePow, -Mi.bEq, m_is_data_of, b_is_data_of, Mi.mSlice, Mi.mO, c, e, Bool.false_and]
  · rw [hz] at e
    simp only [Mi.bnd, Mi.mVar, Mi.mC, Mi.mkL, Mi.m2, Mi.m1, Mi.uNeg, Mi.bAdd, Mi.bSub, Mi.bDiv, Mi.bMod, Mi.bPow, Mi.sEq, Mi.bEq, Mi.bCmp, Mi.bLt, Mi.bLe, Mi.bGt, Mi.bGe, Mi.isNon, Mi.mIsN, Mi.mChain, Mi.mAnd, Mi.mOr, Mi.mNot, Mi.mTb, Mi.mTand, Mi.mTor, Mi.mTnot, Mi.mIf, Mi.mNil, Mi.mCons, Mi.mTup, Mi.mLst, Mi.mB, Mi.kOf, Mi.mFld, Mi.mCall, Mi.mCallK, Mi.mMeth, Mi.mMethK, Mi.mDef, Mi.fInt, Mi.fMax, Mi.fMin, Mi.isI, Mi.mIsI, Ms.mIsC, Mi.gNm, Mi.gNil, Mi.gCons, Mi.gTup, Mi.mSeq, Mi.mSkip, Mi.mBrk, Mi.mCont, Mi.mAsg, Mi.mPar, Mi.mExpr, Mi.mRet, Mi.mRetN, Mi.mIfS, Mi.tYes, Mi.wipe, Ms.mDct0, Ms.bAddI, List.map_cons, List.map_nil, List.nil_append, List.cons_append, List.length_cons, List.length_nil, List.replicate_succ, List.replicate_zero, List.getElem?_cons_zero, List.getElem?_cons_succ, List.getElem?_nil, List.set_cons_zero, List.set_cons_succ, Option.map_some, Option.map_none, if_true, if_false, reduceIte, decide_true, decide_false, Nat.reduceAdd, Nat.reduceLeDiff, List.mem_cons, List.mem_singleton, true_or, or_true, true_and, and_true, bne_self_eq_false, Bool.not_true, Bool.not_false, reduceCtorEq, Nat.reduceEqDiff, beq_self_eq_true, Nat.reduceLT, Int.reduceLT, Int.reduceLE, Int.reduceToNat, Int.reduceAdd, Int.reduceSub, Int.reduceMul, Int.reduceNeg, String.reduceEq, String.reduceBEq, List.lookup_cons, List.lookup_nil, Mi.big, Mi.putF, List.length_append, List.append_assoc, ite_true, ite_false, Bool.false_eq_true, and_self, not_true_eq_false, not_false_eq_true, Sum.inr.injEq, Sum.inl.injEq, Mi.look, Mi.put, List.any_cons, List.any_nil, Bool.or_true, Bool.or_false, Bool.true_or, Bool.false_or, List.find?_cons, Option.getD_some, Option.getD_none, Bool.bne_false, Bool.false_bne, Bool.true_bne, Bool.bne_true, Int.reduceEq, Int.reducePow, -Mi.bEq, m_is_data_of, b_is_data_of, Mi.mSlice, Mi.mO, c, e, Bool.true_and, l, show ∀ a b, Mi.bEq false (.int a) (.int b) G = some (.bl (decide (a = b)), G) from fun a b => by simp [Mi.bEq, Mi.sEq]]
/-- the first block that is no data block -/
def fbi (n : Int) (bs : List (List Int)) : List Int → Nat → Option Nat
  | [], _ => none
  | key :: ks, j => if dataOk n key (bs.getD (j + 1) []) = true then fbi n bs ks (j + 1) else some j
theorem fbi_le (n : Int) (bs : List (List Int)) : ∀ (ks : List Int) (j i : Nat), fbi n bs ks j = some i → i < j + ks.length
  | [], j, i, h => by cases h
  | key :: ks, j, i, h => by
    unfold fbi at h
    rw [List.length_cons]
    split at h
    · have := fbi_le n bs ks (j + 1) i h
      omega
    · cases h
      omega
def fRes : Option Nat → Fl
  | none => .nx
  | some i => .rt (.tup [.str "block", .int (i : Nat)])
section
variable {G : Sto} {h hb hq hn : Nat} {s k : Int} {bl qu : List Dv} {nw : List (Mi.Key × Dv)}
theorem place_raw_ok (D : Dsk G h hb hq hn s k bl qu nw) (g o : Int) (b1 : 6 ≤ s ∧ s ≤ 40) (b2 : 4 ≤ k ∧ k ≤ 24) : m_place_raw [.ref h, .int g, .int o] G = some (.int (2 * R' s k + g * k + o), G) := by
  have hr := R'_b b1 b2
  have c1 : Mi.bMul false (.int 2) (.int (R' s k)) G = some (.int (2 * R' s k), G) := bMul_small' false _ _ G (by omega)
  have c2 : Mi.bMul false (.int g) (.int k) G = some (.int (g * k), G) := bMul_small false _ _ G (by omega)
  simp only [Mi.bnd, Mi.mVar, Mi.mC, Mi.mkL, Mi.m2, Mi.m1, Mi.uNeg, Mi.bAdd, Mi.bSub, Mi.bDiv, Mi.bMod, Mi.bPow, Mi.sEq, Mi.bEq, Mi.bCmp, Mi.bLt, Mi.bLe, Mi.bGt, Mi.bGe, Mi.isNon, Mi.mIsN, Mi.mChain, Mi.mAnd, Mi.mOr, Mi.mNot, Mi.mTb, Mi.mTand, Mi.mTor, Mi.mTnot, Mi.mIf, Mi.mNil, Mi.mCons, Mi.mTup, Mi.mLst, Mi.mB, Mi.kOf, Mi.mFld, Mi.mCall, Mi.mCallK, Mi.mMeth, Mi.mMethK, Mi.mDef, Mi.fInt, Mi.fMax, Mi.fMin, Mi.isI, Mi.mIsI, Ms.mIsC, Mi.gNm, Mi.gNil, Mi.gCons, Mi.gTup, Mi.mSeq, Mi.mSkip, Mi.mBrk, Mi.mCont, Mi.mAsg, Mi.mPar, Mi.mExpr, Mi.mRet, Mi.mRetN, Mi.mIfS, Mi.tYes, Mi.wipe, Ms.mDct0, Ms.bAddI, List.map_cons, List.map_nil, List.nil_append, List.cons_append, List.length_cons, List.length_nil, List.replicate_succ, List.replicate_zero, List.getElem?_cons_zero, List.getElem?_cons_succ, List.getElem?_nil, List.set_cons_zero, List.set_cons_succ, Option.map_some, Option.map_none, if_true, if_false, reduceIte, decide_true, decide_false, Nat.reduceAdd, Nat.reduceLeDiff, List.mem_cons, List.mem_singleton, true_or, or_true, true_and, and_true, bne_self_eq_false, Bool.not_true, Bool.not_false, reduceCtorEq, Nat.reduceEqDiff, beq_self_eq_true, Nat.reduceLT, Int.reduceLT, Int.reduceLE, Int.reduceToNat, Int.reduceAdd, Int.reduceSub, Int.reduceMul, Int.reduceNeg, String.reduceEq, String.reduceBEq, List.lookup_cons, List.lookup_nil, Mi.big, Mi.putF, List.length_append, List.append_assoc, ite_true, ite_false, Bool.false_eq_true, and_self, not_true_eq_false, not_false_eq_true, Sum.inr.injEq, Sum.inl.injEq, Mi.look, Mi.put, List.any_cons, List.any_nil, Bool.or_true, Bool.or_false, Bool.true_or, Bool.false_or, List.find?_cons, Option.getD_some, Option.getD_none, Bool.bne_false, Bool.false_bne, Bool.true_bne, Bool.bne_true, Int.reduceEq, Int.reducePow, D.ob, dfs, m_place_raw, b_place_raw, c1, c2]
theorem at_loop (D : Dsk G h hb hq hn s k bl qu nw) (b1 : 6 ≤ s ∧ s ≤ 40) (b2 : 4 ≤ k ∧ k ≤ 24) (g o n : Int) (bs : List (List Int)) (h32 : ∀ w ∈ bs, w.length = 32)
    (hrd : ∀ i : Nat, i < bs.length → m_Disk_read [.ref h, .int (2 * R' s k + g * k + (o + i))] G = some (T (bs.getD i []), G)) (a3 a5 : Option Dv) : ∀ (ks : List Int) (j : Nat) (x6 x7 x8 : Option Dv), j + ks.length + 1 ≤ bs.length →
    ∃ y6 y7 y8, Mi.mLoop (Mi.gTup 2 (Mi.gCons (Mi.gNm 6) (Mi.gCons (Mi.gNm 7) Mi.gNil))) qb_group_at_1 (fun _ => True) (Mi.enumD j (ks.map Dv.int)) [some (.ref h), some (.int g), some (.int o), a3, some (.int n), a5, x6, x7, x8] G = some (fRes (fbi n bs ks j), [some (.ref h), some (.int g), some (.int o), a3, some (.int n), a5, y6, y7, y8], G)
  | [], j, x6, x7, x8, _ => ⟨x6, x7, x8, by rw [List.map_nil, Mi.enumD, Mi.mLoop, if_pos trivial]; rfl⟩
  | key :: ks, j, x6, x7, x8, hl => by
    rw [List.length_cons] at hl
    have p := place_raw_ok D g (o + 1 + (j : Int)) b1 b2
    have r := hrd (j + 1) (by omega)
    rw [show o + ((j + 1 : Nat) : Int) = o + 1 + (j : Int) by omega] at r
    have m : (bs.getD (j + 1) []).length = 32 := by
      rw [List.getD_eq_getElem?_getD, List.getElem?_eq_getElem (by omega)]
      exact h32 _ (List.getElem_mem _)
    have dk := is_data_ok m n key G
    have ob := D.ob
    cases hz : dataOk n key (bs.getD (j + 1) []) with
    | true =>
      obtain ⟨y6, y7, y8, e⟩ := at_loop D b1 b2 g o n bs h32 hrd a3 a5 ks (j + 1) (some (.int (j : Nat))) (some (.int key)) (some (T (bs.getD (j + 1) []))) (by omega)
      refine ⟨y6, y7, y8, ?_⟩
      rw [hz] at dk
      rw [List.map_cons, Mi.enumD, Mi.mLoop, if_pos trivial]
      unfold fbi
      rw [if_pos hz]
      have hb : qb_group_at_1 [some (.ref h), some (.int g), some (.int o), a3, some (.int n), a5, some (.int (j : Nat)), some (.int key), x8] G = some (.nx, [some (.ref h), some (.int g), some (.int o), a3, some (.int n), a5, some (.int (j : Nat)), some (.int key), some (T (bs.getD (j + 1) []))], G) := by simp only [Mi.bnd, Mi.mVar, Mi.mC, Mi.mkL, Mi.m2, Mi.m1, Mi.uNeg, Mi.bAdd, Mi.bSub, Mi.bDiv, Mi.bMod, Mi.bPow, Mi.sEq, Mi.bEq, Mi.bCmp, Mi.bLt, Mi.bLe, Mi.bGt, Mi.bGe, Mi.isNon, Mi.mIsN, Mi.mChain, Mi.mAnd, Mi.mOr, Mi.mNot, Mi.mTb, Mi.mTand, Mi.mTor, Mi.mTnot, Mi.mIf, Mi.mNil, Mi.mCons, Mi.mTup, Mi.mLst, Mi.mB, Mi.kOf, Mi.mFld, Mi.mCall, Mi.mCallK, Mi.mMeth, Mi.mMethK, Mi.mDef, Mi.fInt, Mi.fMax, Mi.fMin, Mi.isI, Mi.mIsI, Ms.mIsC, Mi.gNm, Mi.gNil, Mi.gCons, Mi.gTup, Mi.mSeq, Mi.mSkip, Mi.mBrk, Mi.mCont, Mi.mAsg, Mi.mPar, Mi.mExpr, Mi.mRet, Mi.mRetN, Mi.mIfS, Mi.tYes, Mi.wipe, Ms.mDct0, Ms.bAddI, List.map_cons, List.map_nil, List.nil_append, List.cons_append, List.length_cons, List.length_nil, List.replicate_succ, List.replicate_zero, List.getElem?_cons_zero, List.getElem?_cons_succ, List.getElem?_nil, List.set_cons_zero, List.set_cons_succ, Option.map_some, Option.map_none, if_true, if_false, reduceIte, decide_true, decide_false, Nat.reduceAdd, Nat.reduceLeDiff, List.mem_cons, List.mem_singleton, true_or, or_true, true_and, and_true, bne_self_eq_false, Bool.not_true, Bool.not_false, reduceCtorEq, Nat.reduceEqDiff, beq_self_eq_true, Nat.reduceLT, Int.reduceLT, Int.reduceLE, Int.reduceToNat, Int.reduceAdd, Int.reduceSub, Int.reduceMul, Int.reduceNeg, String.reduceEq, String.reduceBEq, List.lookup_cons, List.lookup_nil, Mi.big, Mi.putF, List.length_append, List.append_assoc, ite_true, ite_false, Bool.false_eq_true, and_self, not_true_eq_false, not_false_eq_true, Sum.inr.injEq, Sum.inl.injEq, Mi.look, Mi.put, List.any_cons, List.any_nil, Bool.or_true, Bool.or_false, Bool.true_or, Bool.false_or, List.find?_cons, Option.getD_some, Option.getD_none, Bool.bne_false, Bool.false_bne, Bool.true_bne, Bool.bne_true, Int.reduceEq, Int.reducePow, qb_group_at_1, ob, dfs, p, r, dk]
      simp only [Mi.bnd, Mi.mVar, Mi.mC, Mi.mkL, Mi.m2, Mi.m1, Mi.uNeg, Mi.bAdd, Mi.bSub, Mi.bDiv, Mi.bMod, Mi.bPow, Mi.sEq, Mi.bEq, Mi.bCmp, Mi.bLt, Mi.bLe, Mi.bGt, Mi.bGe, Mi.isNon, Mi.mIsN, Mi.mChain, Mi.mAnd, Mi.mOr, Mi.mNot, Mi.mTb, Mi.mTand, Mi.mTor, Mi.mTnot, Mi.mIf, Mi.mNil, Mi.mCons, Mi.mTup, Mi.mLst, Mi.mB, Mi.kOf, Mi.mFld, Mi.mCall, Mi.mCallK, Mi.mMeth, Mi.mMethK, Mi.mDef, Mi.fInt, Mi.fMax, Mi.fMin, Mi.isI, Mi.mIsI, Ms.mIsC, Mi.gNm, Mi.gNil, Mi.gCons, Mi.gTup, Mi.mSeq, Mi.mSkip, Mi.mBrk, Mi.mCont, Mi.mAsg, Mi.mPar, Mi.mExpr, Mi.mRet, Mi.mRetN, Mi.mIfS, Mi.tYes, Mi.wipe, Ms.mDct0, Ms.bAddI, List.map_cons, List.map_nil, List.nil_append, List.cons_append, List.length_cons, List.length_nil, List.replicate_succ, List.replicate_zero, List.getElem?_cons_zero, List.getElem?_cons_succ, List.getElem?_nil, List.set_cons_zero, List.set_cons_succ, Option.map_some, Option.map_none, if_true, if_false, reduceIte, decide_true, decide_false, Nat.reduceAdd, Nat.reduceLeDiff, List.mem_cons, List.mem_singleton, true_or, or_true, true_and, and_true, bne_self_eq_false, Bool.not_true, Bool.not_false, reduceCtorEq, Nat.reduceEqDiff, beq_self_eq_true, Nat.reduceLT, Int.reduceLT, Int.reduceLE, Int.reduceToNat, Int.reduceAdd, Int.reduceSub, Int.reduceMul, Int.reduceNeg, String.reduceEq, String.reduceBEq, List.lookup_cons, List.lookup_nil, Mi.big, Mi.putF, List.length_append, List.append_assoc, ite_true, ite_false, Bool.false_eq_true, and_self, not_true_eq_false, not_false_eq_true, Sum.inr.injEq, Sum.inl.injEq, Mi.look, Mi.put, List.any_cons, List.any_nil, Bool.or_true, Bool.or_false, Bool.true_or, Bool.false_or, List.find?_cons, Option.getD_some, Option.getD_none, Bool.bne_false, Bool.false_bne, Bool.true_bne, Bool.bne_true, Int.reduceEq, Int.reducePow, hb]
      exact e
    | false =>
      refine ⟨some (.int (j : Nat)), some (.int key), some (T (bs.getD (j + 1) [])), ?_⟩
      rw [hz] at dk
      rw [List.map_cons, Mi.enumD, Mi.mLoop, if_pos trivial]
      unfold fbi
      rw [if_neg (by rw [hz]; exact Bool.false_ne_true)]
      have hb : qb_group_at_1 [some (.ref h), some (.int g), some (.int o), a3, some (.int n), a5, some (.int (j : Nat)), some (.int key), x8] G = some (.rt (.tup [.str "block", .int (j : Nat)]), [some (.ref h), some (.int g), some (.int o), a3, some (.int n), a5, some (.int (j : Nat)), some (.int key), some (T (bs.getD (j + 1) []))], G) := by simp only [Mi.bnd, Mi.mVar, Mi.mC, Mi.mkL, Mi.m2, Mi.m1, Mi.uNeg, Mi.bAdd, Mi.bSub, Mi.bDiv, Mi.bMod, Mi.bPow, Mi.sEq, Mi.bEq, Mi.bCmp, Mi.bLt, Mi.bLe, Mi.bGt, Mi.bGe, Mi.isNon, Mi.mIsN, Mi.mChain, Mi.mAnd, Mi.mOr, Mi.mNot, Mi.mTb, Mi.mTand, Mi.mTor, Mi.mTnot, Mi.mIf, Mi.mNil, Mi.mCons, Mi.mTup, Mi.mLst, Mi.mB, Mi.kOf, Mi.mFld, Mi.mCall, Mi.mCallK, Mi.mMeth, Mi.mMethK, Mi.mDef, Mi.fInt, Mi.fMax, Mi.fMin, Mi.isI, Mi.mIsI, Ms.mIsC, Mi.gNm, Mi.gNil, Mi.gCons, Mi.gTup, Mi.mSeq, Mi.mSkip, Mi.mBrk, Mi.mCont, Mi.mAsg, Mi.mPar, Mi.mExpr, Mi.mRet, Mi.mRetN, Mi.mIfS, Mi.tYes, Mi.wipe, Ms.mDct0, Ms.bAddI, List.map_cons, List.map_nil, List.nil_append, List.cons_append, List.length_cons, List.length_nil, List.replicate_succ, List.replicate_zero, List.getElem?_cons_zero, List.getElem?_cons_succ, List.getElem?_nil, List.set_cons_zero, List.set_cons_succ, Option.map_some, Option.map_none, if_true, if_false, reduceIte, decide_true, decide_false, Nat.reduceAdd, Nat.reduceLeDiff, List.mem_cons, List.mem_singleton, true_or, or_true, true_and, and_true, bne_self_eq_false, Bool.not_true, Bool.not_false, reduceCtorEq, Nat.reduceEqDiff, beq_self_eq_true, Nat.reduceLT, Int.reduceLT, Int.reduceLE, Int.reduceToNat, Int.reduceAdd, Int.reduceSub, Int.reduceMul, Int.reduceNeg, String.reduceEq, String.reduceBEq, List.lookup_cons, List.lookup_nil, Mi.big, Mi.putF, List.length_append, List.append_assoc, ite_true, ite_false, Bool.false_eq_true, and_self, not_true_eq_false, not_false_eq_true, Sum.inr.injEq, Sum.inl.injEq, Mi.look, Mi.put, List.any_cons, List.any_nil, Bool.or_true, Bool.or_false, Bool.true_or, Bool.false_or, List.find?_cons, Option.getD_some, Option.getD_none, Bool.bne_false, Bool.false_bne, Bool.true_bne, Bool.bne_true, Int.reduceEq, Int.reducePow, qb_group_at_1, ob, dfs, p, r, dk]
      simp only [Mi.bnd, Mi.mVar, Mi.mC, Mi.mkL, Mi.m2, Mi.m1, Mi.uNeg, Mi.bAdd, Mi.bSub, Mi.bDiv, Mi.bMod, Mi.bPow, Mi.sEq, Mi.bEq, Mi.bCmp, Mi.bLt, Mi.bLe, Mi.bGt, Mi.bGe, Mi.isNon, Mi.mIsN, Mi.mChain, Mi.mAnd, Mi.mOr, Mi.mNot, Mi.mTb, Mi.mTand, Mi.mTor, Mi.mTnot, Mi.mIf, Mi.mNil, Mi.mCons, Mi.mTup, Mi.mLst, Mi.mB, Mi.kOf, Mi.mFld, Mi.mCall, Mi.mCallK, Mi.mMeth, Mi.mMethK, Mi.mDef, Mi.fInt, Mi.fMax, Mi.fMin, Mi.isI, Mi.mIsI, Ms.mIsC, Mi.gNm, Mi.gNil, Mi.gCons, Mi.gTup, Mi.mSeq, Mi.mSkip, Mi.mBrk, Mi.mCont, Mi.mAsg, Mi.mPar, Mi.mExpr, Mi.mRet, Mi.mRetN, Mi.mIfS, Mi.tYes, Mi.wipe, Ms.mDct0, Ms.bAddI, List.map_cons, List.map_nil, List.nil_append, List.cons_append, List.length_cons, List.length_nil, List.replicate_succ, List.replicate_zero, List.getElem?_cons_zero, List.getElem?_cons_succ, List.getElem?_nil, List.set_cons_zero, List.set_cons_succ, Option.map_some, Option.map_none, if_true, if_false, reduceIte, decide_true, decide_false, Nat.reduceAdd, Nat.reduceLeDiff, List.mem_cons, List.mem_singleton, true_or, or_true, true_and, and_true, bne_self_eq_false, Bool.not_true, Bool.not_false, reduceCtorEq, Nat.reduceEqDiff, beq_self_eq_true, Nat.reduceLT, Int.reduceLT, Int.reduceLE, Int.reduceToNat, Int.reduceAdd, Int.reduceSub, Int.reduceMul, Int.reduceNeg, String.reduceEq, String.reduceBEq, List.lookup_cons, List.lookup_nil, Mi.big, Mi.putF, List.length_append, List.append_assoc, ite_true, ite_false, Bool.false_eq_true, and_self, not_true_eq_false, not_false_eq_true, Sum.inr.injEq, Sum.inl.injEq, Mi.look, Mi.put, List.any_cons, List.any_nil, Bool.or_true, Bool.or_false, Bool.true_or, Bool.false_or, List.find?_cons, Option.getD_some, Option.getD_none, Bool.bne_false, Bool.false_bne, Bool.true_bne, Bool.bne_true, Int.reduceEq, Int.reducePow, hb, fRes]
end
/-! ### the law's own look -/
theorem cut_1 (xs : List Dv) : Mi.cut xs (some 1) none = xs.drop 1 := by
  cases xs with
  | nil => rfl
  | cons x xs => exact cut_hi (x :: xs) 1 (by rw [List.length_cons]; omega)
theorem zip_ints (a b : List Int) : List.zipWith (fun p q => Dv.tup [p, q]) (a.map Dv.int) (b.map Dv.int) = (List.zipWith (fun x y => (x, y)) a b).map fun p => Dv.tup [.int p.1, .int p.2] := by
  rw [List.zipWith_map, List.map_zipWith]
def liftP (p : Int → Int → Bool) : Dv → Bool
  | .tup [.int a, .int b] => p a b
  | _ => false
theorem zip_test (a0 a1 a2 a3 a4 a5 a6 a7 a8 a10 a11 a12 a13 : Option Dv) (K : List Int) (hl : K.length ≤ 1000) (G : Sto) : ql_law_group_told_1 [a0, a1, a2, a3, a4, a5, a6, a7, a8, some (.tup (K.map Dv.int)), a10, a11, a12, a13] G = some (.fls (((List.zipWith (fun x y => (x, y)) K (K.drop 1)).filter fun p => !decide (p.1 < p.2)).map fun _ => .int 1), G) := by
  have q := lcf (g := Mi.gTup 2 (Mi.gCons (Mi.gNm 12) (Mi.gCons (Mi.gNm 13) Mi.gNil))) (t := qt_law_group_told_1) (e := qe_law_group_told_1) (st := fun _ => True) (δ := [a0, a1, a2, a3, a4, a5, a6, a7, a8, some (.tup (K.map Dv.int)), a10, a11, none, none]) (p := liftP fun a b => !decide (a < b)) (f := fun _ => .int 1) (G := G) trivial (List.zipWith (fun p q => Dv.tup [p, q]) (K.map Dv.int) ((K.drop 1).map Dv.int)) [] (fun d hd => by
    rw [zip_ints] at hd
    obtain ⟨⟨x, y⟩, _, rfl⟩ := List.mem_map.mp hd
    refine ⟨[a0, a1, a2, a3, a4, a5, a6, a7, a8, some (.tup (K.map Dv.int)), a10, a11, some (.int x), some (.int y)], rfl, ?_, fun _ => rfl⟩
    have e : decide (y ≤ x) = !decide (x < y) := by
      by_cases c : x < y
      · rw [decide_eq_true c, decide_eq_false (by omega)]; rfl
      · rw [decide_eq_false c, decide_eq_true (by omega)]; rfl
    simp only [Mi.bnd, Mi.mVar, Mi.mC, Mi.mkL, Mi.m2, Mi.m1, Mi.uNeg, Mi.bAdd, Mi.bSub, Mi.bDiv, Mi.bMod, Mi.bPow, Mi.sEq, Mi.bEq, Mi.bCmp, Mi.bLt, Mi.bLe, Mi.bGt, Mi.bGe, Mi.isNon, Mi.mIsN, Mi.mChain, Mi.mAnd, Mi.mOr, Mi.mNot, Mi.mTb, Mi.mTand, Mi.mTor, Mi.mTnot, Mi.mIf, Mi.mNil, Mi.mCons, Mi.mTup, Mi.mLst, Mi.mB, Mi.kOf, Mi.mFld, Mi.mCall, Mi.mCallK, Mi.mMeth, Mi.mMethK, Mi.mDef, Mi.fInt, Mi.fMax, Mi.fMin, Mi.isI, Mi.mIsI, Ms.mIsC, Mi.gNm, Mi.gNil, Mi.gCons, Mi.gTup, Mi.mSeq, Mi.mSkip, Mi.mBrk, Mi.mCont, Mi.mAsg, Mi.mPar, Mi.mExpr, Mi.mRet, Mi.mRetN, Mi.mIfS, Mi.tYes, Mi.wipe, Ms.mDct0, Ms.bAddI, List.map_cons, List.map_nil, List.nil_append, List.cons_append, List.length_cons, List.length_nil, List.replicate_succ, List.replicate_zero, List.getElem?_cons_zero, List.getElem?_cons_succ, List.getElem?_nil, List.set_cons_zero, List.set_cons_succ, Option.map_some, Option.map_none, if_true, if_false, reduceIte, decide_true, decide_false, Nat.reduceAdd, Nat.reduceLeDiff, List.mem_cons, List.mem_singleton, true_or, or_true, true_and, and_true, bne_self_eq_false, Bool.not_true, Bool.not_false, reduceCtorEq, Nat.reduceEqDiff, beq_self_eq_true, Nat.reduceLT, Int.reduceLT, Int.reduceLE, Int.reduceToNat, Int.reduceAdd, Int.reduceSub, Int.reduceMul, Int.reduceNeg, String.reduceEq, String.reduceBEq, List.lookup_cons, List.lookup_nil, Mi.big, Mi.putF, List.length_append, List.append_assoc, ite_true, ite_false, Bool.false_eq_true, and_self, not_true_eq_false, not_false_eq_true, Sum.inr.injEq, Sum.inl.injEq, Mi.look, Mi.put, List.any_cons, List.any_nil, Bool.or_true, Bool.or_false, Bool.true_or, Bool.false_or, List.find?_cons, Option.getD_some, Option.getD_none, Bool.bne_false, Bool.false_bne, Bool.true_bne, Bool.bne_true, Int.reduceEq, Int.reducePow, qt_law_group_told_1, e, liftP]) (by rw [List.length_zipWith, List.length_map]; show 0 + _ ≤ 16777216; omega)
  rw [zip_ints, List.filter_map, List.map_map, List.nil_append] at q
  have e2 : Mi.cut (K.map Dv.int) (some 1) none = (K.drop 1).map Dv.int := by rw [cut_1, List.map_drop]
  unfold ql_law_group_told_1 qi_law_group_told_1 Mi.mLc
  simp only [Mi.bnd, Mi.mVar, Mi.mC, Mi.mkL, Mi.m2, Mi.m1, Mi.uNeg, Mi.bAdd, Mi.bSub, Mi.bDiv, Mi.bMod, Mi.bPow, Mi.sEq, Mi.bEq, Mi.bCmp, Mi.bLt, Mi.bLe, Mi.bGt, Mi.bGe, Mi.isNon, Mi.mIsN, Mi.mChain, Mi.mAnd, Mi.mOr, Mi.mNot, Mi.mTb, Mi.mTand, Mi.mTor, Mi.mTnot, Mi.mIf, Mi.mNil, Mi.mCons, Mi.mTup, Mi.mLst, Mi.mB, Mi.kOf, Mi.mFld, Mi.mCall, Mi.mCallK, Mi.mMeth, Mi.mMethK, Mi.mDef, Mi.fInt, Mi.fMax, Mi.fMin, Mi.isI, Mi.mIsI, Ms.mIsC, Mi.gNm, Mi.gNil, Mi.gCons, Mi.gTup, Mi.mSeq, Mi.mSkip, Mi.mBrk, Mi.mCont, Mi.mAsg, Mi.mPar, Mi.mExpr, Mi.mRet, Mi.mRetN, Mi.mIfS, Mi.tYes, Mi.wipe, Ms.mDct0, Ms.bAddI, List.map_cons, List.map_nil, List.nil_append, List.cons_append, List.length_cons, List.length_nil, List.replicate_succ, List.replicate_zero, List.getElem?_cons_zero, List.getElem?_cons_succ, List.getElem?_nil, List.set_cons_zero, List.set_cons_succ, Option.map_some, Option.map_none, if_true, if_false, reduceIte, decide_true, decide_false, Nat.reduceAdd, Nat.reduceLeDiff, List.mem_cons, List.mem_singleton, true_or, or_true, true_and, and_true, bne_self_eq_false, Bool.not_true, Bool.not_false, reduceCtorEq, Nat.reduceEqDiff, beq_self_eq_true, Nat.reduceLT, Int.reduceLT, Int.reduceLE, Int.reduceToNat, Int.reduceAdd, Int.reduceSub, Int.reduceMul, Int.reduceNeg, String.reduceEq, String.reduceBEq, List.lookup_cons, List.lookup_nil, Mi.big, Mi.putF, List.length_append, List.append_assoc, ite_true, ite_false, Bool.false_eq_true, and_self, not_true_eq_false, not_false_eq_true, Sum.inr.injEq, Sum.inl.injEq, Mi.look, Mi.put, List.any_cons, List.any_nil, Bool.or_true, Bool.or_false, Bool.true_or, Bool.false_or, List.find?_cons, Option.getD_some, Option.getD_none, Bool.bne_false, Bool.false_bne, Bool.true_bne, Bool.bne_true, Int.reduceEq, Int.reducePow, mZipT, Mi.mSlice, Mi.mO, e2]
  rw [zip_ints, q]
  rfl
theorem room_test (a0 a1 a2 a4 a5 a6 a7 a8 a10 a11 a12 a13 : Option Dv) (K : List Int) (n : Int) (hl : K.length ≤ 1000) (G : Sto) : ql_law_group_told_2 [a0, a1, a2, some (.int n), a4, a5, a6, a7, a8, some (.tup (K.map Dv.int)), a10, a11, a12, a13] G = some (.fls ((K.filter fun z => !decide (z < n)).map Dv.int), G) := by
  have q := lcf (g := Mi.gNm 12) (t := qt_law_group_told_2) (e := qe_law_group_told_2) (st := fun _ => True) (δ := [a0, a1, a2, some (.int n), a4, a5, a6, a7, a8, some (.tup (K.map Dv.int)), a10, a11, none, a13]) (p := liftB fun a => !decide (a < n)) (f := fun d => d) (G := G) trivial (K.map Dv.int) [] (fun d hd => by
    obtain ⟨x, _, rfl⟩ := List.mem_map.mp hd
    refine ⟨[a0, a1, a2, some (.int n), a4, a5, a6, a7, a8, some (.tup (K.map Dv.int)), a10, a11, some (.int x), a13], rfl, ?_, fun _ => rfl⟩
    have e : decide (n ≤ x) = !decide (x < n) := by
      by_cases c : x < n
      · rw [decide_eq_true c, decide_eq_false (by omega)]; rfl
      · rw [decide_eq_false c, decide_eq_true (by omega)]; rfl
    simp only [Mi.bnd, Mi.mVar, Mi.mC, Mi.mkL, Mi.m2, Mi.m1, Mi.uNeg, Mi.bAdd, Mi.bSub, Mi.bDiv, Mi.bMod, Mi.bPow, Mi.sEq, Mi.bEq, Mi.bCmp, Mi.bLt, Mi.bLe, Mi.bGt, Mi.bGe, Mi.isNon, Mi.mIsN, Mi.mChain, Mi.mAnd, Mi.mOr, Mi.mNot, Mi.mTb, Mi.mTand, Mi.mTor, Mi.mTnot, Mi.mIf, Mi.mNil, Mi.mCons, Mi.mTup, Mi.mLst, Mi.mB, Mi.kOf, Mi.mFld, Mi.mCall, Mi.mCallK, Mi.mMeth, Mi.mMethK, Mi.mDef, Mi.fInt, Mi.fMax, Mi.fMin, Mi.isI, Mi.mIsI, Ms.mIsC, Mi.gNm, Mi.gNil, Mi.gCons, Mi.gTup, Mi.mSeq, Mi.mSkip, Mi.mBrk, Mi.mCont, Mi.mAsg, Mi.mPar, Mi.mExpr, Mi.mRet, Mi.mRetN, Mi.mIfS, Mi.tYes, Mi.wipe, Ms.mDct0, Ms.bAddI, List.map_cons, List.map_nil, List.nil_append, List.cons_append, List.length_cons, List.length_nil, List.replicate_succ, List.replicate_zero, List.getElem?_cons_zero, List.getElem?_cons_succ, List.getElem?_nil, List.set_cons_zero, List.set_cons_succ, Option.map_some, Option.map_none, if_true, if_false, reduceIte, decide_true, decide_false, Nat.reduceAdd, Nat.reduceLeDiff, List.mem_cons, List.mem_singleton, true_or, or_true, true_and, and_true, bne_self_eq_false, Bool.not_true, Bool.not_false, reduceCtorEq, Nat.reduceEqDiff, beq_self_eq_true, Nat.reduceLT, Int.reduceLT, Int.reduceLE, Int.reduceToNat, Int.reduceAdd, Int.reduceSub, Int.reduceMul, Int.reduceNeg, String.reduceEq, String.reduceBEq, List.lookup_cons, List.lookup_nil, Mi.big, Mi.putF, List.length_append, List.append_assoc, ite_true, ite_false, Bool.false_eq_true, and_self, not_true_eq_false, not_false_eq_true, Sum.inr.injEq, Sum.inl.injEq, Mi.look, Mi.put, List.any_cons, List.any_nil, Bool.or_true, Bool.or_false, Bool.true_or, Bool.false_or, List.find?_cons, Option.getD_some, Option.getD_none, Bool.bne_false, Bool.false_bne, Bool.true_bne, Bool.bne_true, Int.reduceEq, Int.reducePow, qt_law_group_told_2, e, liftB]) (by rw [List.length_map]; show 0 + _ ≤ 16777216; omega)
  rw [filter_liftB, List.map_id', List.nil_append] at q
  unfold ql_law_group_told_2 qi_law_group_told_2 Mi.mLc
  simp only [Mi.bnd, Mi.mVar, Mi.mC, Mi.mkL, Mi.m2, Mi.m1, Mi.uNeg, Mi.bAdd, Mi.bSub, Mi.bDiv, Mi.bMod, Mi.bPow, Mi.sEq, Mi.bEq, Mi.bCmp, Mi.bLt, Mi.bLe, Mi.bGt, Mi.bGe, Mi.isNon, Mi.mIsN, Mi.mChain, Mi.mAnd, Mi.mOr, Mi.mNot, Mi.mTb, Mi.mTand, Mi.mTor, Mi.mTnot, Mi.mIf, Mi.mNil, Mi.mCons, Mi.mTup, Mi.mLst, Mi.mB, Mi.kOf, Mi.mFld, Mi.mCall, Mi.mCallK, Mi.mMeth, Mi.mMethK, Mi.mDef, Mi.fInt, Mi.fMax, Mi.fMin, Mi.isI, Mi.mIsI, Ms.mIsC, Mi.gNm, Mi.gNil, Mi.gCons, Mi.gTup, Mi.mSeq, Mi.mSkip, Mi.mBrk, Mi.mCont, Mi.mAsg, Mi.mPar, Mi.mExpr, Mi.mRet, Mi.mRetN, Mi.mIfS, Mi.tYes, Mi.wipe, Ms.mDct0, Ms.bAddI, List.map_cons, List.map_nil, List.nil_append, List.cons_append, List.length_cons, List.length_nil, List.replicate_succ, List.replicate_zero, List.getElem?_cons_zero, List.getElem?_cons_succ, List.getElem?_nil, List.set_cons_zero, List.set_cons_succ, Option.map_some, Option.map_none, if_true, if_false, reduceIte, decide_true, decide_false, Nat.reduceAdd, Nat.reduceLeDiff, List.mem_cons, List.mem_singleton, true_or, or_true, true_and, and_true, bne_self_eq_false, Bool.not_true, Bool.not_false, reduceCtorEq, Nat.reduceEqDiff, beq_self_eq_true, Nat.reduceLT, Int.reduceLT, Int.reduceLE, Int.reduceToNat, Int.reduceAdd, Int.reduceSub, Int.reduceMul, Int.reduceNeg, String.reduceEq, String.reduceBEq, List.lookup_cons, List.lookup_nil, Mi.big, Mi.putF, List.length_append, List.append_assoc, ite_true, ite_false, Bool.false_eq_true, and_self, not_true_eq_false, not_false_eq_true, Sum.inr.injEq, Sum.inl.injEq, Mi.look, Mi.put, List.any_cons, List.any_nil, Bool.or_true, Bool.or_false, Bool.true_or, Bool.false_or, List.find?_cons, Option.getD_some, Option.getD_none, Bool.bne_false, Bool.false_bne, Bool.true_bne, Bool.bne_true, Int.reduceEq, Int.reducePow, Mi.iSeq, Mi.seqOf, q]
theorem keys_body (a0 a1 a2 a4 a5 a6 a7 a8 a10 a11 a12 a13 : Option Dv) (K : List Int) (n : Int) (hl : K.length ≤ 1000) (G : Sto) : qb_law_group_told_1 [a0, a1, a2, some (.int n), a4, a5, a6, a7, a8, some (.tup (K.map Dv.int)), a10, a11, a12, a13] G = some (if kOk n K = true then .nx else .rt (.tup [.str "form"]), [a0, a1, a2, some (.int n), a4, a5, a6, a7, a8, some (.tup (K.map Dv.int)), a10, a11, a12, a13], G) := by
  have e1 := zip_test a0 a1 a2 (some (.int n)) a4 a5 a6 a7 a8 a10 a11 a12 a13 K hl G
  have e2 := room_test a0 a1 a2 a4 a5 a6 a7 a8 a10 a11 a12 a13 K n hl G
  have f1 := ne_nil (((List.zipWith (fun x y => (x, y)) K (K.drop 1)).filter fun p => !decide (p.1 < p.2)).map fun _ => 1) G
  rw [List.map_map, List.isEmpty_map, filter_nil, zip_rz] at f1
  have f2 := ne_nil (K.filter fun z => !decide (z < n)) G
  rw [filter_nil] at f2
  have e1' : ql_law_group_told_1 [a0, a1, a2, some (.int n), a4, a5, a6, a7, a8, some (.tup (K.map Dv.int)), a10, a11, a12, a13] G = some (.fls (((List.zipWith (fun x y => (x, y)) K (K.drop 1)).filter fun p => !decide (p.1 < p.2)).map (Dv.int ∘ fun _ => 1)), G) := e1
  unfold kOk
  cases hr : rz K
  · rw [hr] at f1
    simp only [Mi.bnd, Mi.mVar, Mi.mC, Mi.mkL, Mi.m2, Mi.m1, Mi.uNeg, Mi.bAdd, Mi.bSub, Mi.bDiv, Mi.bMod, Mi.bPow, Mi.sEq, Mi.bEq, Mi.bCmp, Mi.bLt, Mi.bLe, Mi.bGt, Mi.bGe, Mi.isNon, Mi.mIsN, Mi.mChain, Mi.mAnd, Mi.mOr, Mi.mNot, Mi.mTb, Mi.mTand, Mi.mTor, Mi.mTnot, Mi.mIf, Mi.mNil, Mi.mCons, Mi.mTup, Mi.mLst, Mi.mB, Mi.kOf, Mi.mFld, Mi.mCall, Mi.mCallK, Mi.mMeth, Mi.mMethK, Mi.mDef, Mi.fInt, Mi.fMax, Mi.fMin, Mi.isI, Mi.mIsI, Ms.mIsC, Mi.gNm, Mi.gNil, Mi.gCons, Mi.gTup, Mi.mSeq, Mi.mSkip, Mi.mBrk, Mi.mCont, Mi.mAsg, Mi.mPar, Mi.mExpr, Mi.mRet, Mi.mRetN, Mi.mIfS, Mi.tYes, Mi.wipe, Ms.mDct0, Ms.bAddI, List.map_cons, List.map_nil, List.nil_append, List.cons_append, List.length_cons, List.length_nil, List.replicate_succ, List.replicate_zero, List.getElem?_cons_zero, List.getElem?_cons_succ, List.getElem?_nil, List.set_cons_zero, List.set_cons_succ, Option.map_some, Option.map_none, if_true, if_false, reduceIte, decide_true, decide_false, Nat.reduceAdd, Nat.reduceLeDiff, List.mem_cons, List.mem_singleton, true_or, or_true, true_and, and_true, bne_self_eq_false, Bool.not_true, Bool.not_false, reduceCtorEq, Nat.reduceEqDiff, beq_self_eq_true, Nat.reduceLT, Int.reduceLT, Int.reduceLE, Int.reduceToNat, Int.reduceAdd, Int.reduceSub, Int.reduceMul, Int.reduceNeg, String.reduceEq, String.reduceBEq, List.lookup_cons, List.lookup_nil, Mi.big, Mi.putF, List.length_append, List.append_assoc, ite_true, ite_false, Bool.false_eq_true, and_self, not_true_eq_false, not_false_eq_true, Sum.inr.injEq, Sum.inl.injEq, Mi.look, Mi.put, List.any_cons, List.any_nil, Bool.or_true, Bool.or_false, Bool.true_or, Bool.false_or, List.find?_cons, Option.getD_some, Option.getD_none, Bool.bne_false, Bool.false_bne, Bool.true_bne, Bool.bne_true, Int.reduceEq, Int.reducePow, -Mi.bEq, qb_law_group_told_1, e1', f1, Bool.and_false]
  · rw [hr] at f1
    cases ha : K.all fun z => decide (z < n)
    · rw [ha] at f2
      simp only [Mi.bnd, Mi.mVar, Mi.mC, Mi.mkL, Mi.m2, Mi.m1, Mi.uNeg, Mi.bAdd, Mi.bSub, Mi.bDiv, Mi.bMod, Mi.bPow, Mi.sEq, Mi.bEq, Mi.bCmp, Mi.bLt, Mi.bLe, Mi.bGt, Mi.bGe, Mi.isNon, Mi.mIsN, Mi.mChain, Mi.mAnd, Mi.mOr, Mi.mNot, Mi.mTb, Mi.mTand, Mi.mTor, Mi.mTnot, Mi.mIf, Mi.mNil, Mi.mCons, Mi.mTup, Mi.mLst, Mi.mB, Mi.kOf, Mi.mFld, Mi.mCall, Mi.mCallK, Mi.mMeth, Mi.mMethK, Mi.mDef, Mi.fInt, Mi.fMax, Mi.fMin, Mi.isI, Mi.mIsI, Ms.mIsC, Mi.gNm, Mi.gNil, Mi.gCons, Mi.gTup, Mi.mSeq, Mi.mSkip, Mi.mBrk, Mi.mCont, Mi.mAsg, Mi.mPar, Mi.mExpr, Mi.mRet, Mi.mRetN, Mi.mIfS, Mi.tYes, Mi.wipe, Ms.mDct0, Ms.bAddI, List.map_cons, List.map_nil, List.nil_append, List.cons_append, List.length_cons, List.length_nil, List.replicate_succ, List.replicate_zero, List.getElem?_cons_zero, List.getElem?_cons_succ, List.getElem?_nil, List.set_cons_zero, List.set_cons_succ, Option.map_some, Option.map_none, if_true, if_false, reduceIte, decide_true, decide_false, Nat.reduceAdd, Nat.reduceLeDiff, List.mem_cons, List.mem_singleton, true_or, or_true, true_and, and_true, bne_self_eq_false, Bool.not_true, Bool.not_false, reduceCtorEq, Nat.reduceEqDiff, beq_self_eq_true, Nat.reduceLT, Int.reduceLT, Int.reduceLE, Int.reduceToNat, Int.reduceAdd, Int.reduceSub, Int.reduceMul, Int.reduceNeg, String.reduceEq, String.reduceBEq, List.lookup_cons, List.lookup_nil, Mi.big, Mi.putF, List.length_append, List.append_assoc, ite_true, ite_false, Bool.false_eq_true, and_self, not_true_eq_false, not_false_eq_true, Sum.inr.injEq, Sum.inl.injEq, Mi.look, Mi.put, List.any_cons, List.any_nil, Bool.or_true, Bool.or_false, Bool.true_or, Bool.false_or, List.find?_cons, Option.getD_some, Option.getD_none, Bool.bne_false, Bool.false_bne, Bool.true_bne, Bool.bne_true, Int.reduceEq, Int.reducePow, -Mi.bEq, qb_law_group_told_1, e1', f1, e2, f2, Bool.false_and]
    · rw [ha] at f2
      simp only [Mi.bnd, Mi.mVar, Mi.mC, Mi.mkL, Mi.m2, Mi.m1, Mi.uNeg, Mi.bAdd, Mi.bSub, Mi.bDiv, Mi.bMod, Mi.bPow, Mi.sEq, Mi.bEq, Mi.bCmp, Mi.bLt, Mi.bLe, Mi.bGt, Mi.bGe, Mi.isNon, Mi.mIsN, Mi.mChain, Mi.mAnd, Mi.mOr, Mi.mNot, Mi.mTb, Mi.mTand, Mi.mTor, Mi.mTnot, Mi.mIf, Mi.mNil, Mi.mCons, Mi.mTup, Mi.mLst, Mi.mB, Mi.kOf, Mi.mFld, Mi.mCall, Mi.mCallK, Mi.mMeth, Mi.mMethK, Mi.mDef, Mi.fInt, Mi.fMax, Mi.fMin, Mi.isI, Mi.mIsI, Ms.mIsC, Mi.gNm, Mi.gNil, Mi.gCons, Mi.gTup, Mi.mSeq, Mi.mSkip, Mi.mBrk, Mi.mCont, Mi.mAsg, Mi.mPar, Mi.mExpr, Mi.mRet, Mi.mRetN, Mi.mIfS, Mi.tYes, Mi.wipe, Ms.mDct0, Ms.bAddI, List.map_cons, List.map_nil, List.nil_append, List.cons_append, List.length_cons, List.length_nil, List.replicate_succ, List.replicate_zero, List.getElem?_cons_zero, List.getElem?_cons_succ, List.getElem?_nil, List.set_cons_zero, List.set_cons_succ, Option.map_some, Option.map_none, if_true, if_false, reduceIte, decide_true, decide_false, Nat.reduceAdd, Nat.reduceLeDiff, List.mem_cons, List.mem_singleton, true_or, or_true, true_and, and_true, bne_self_eq_false, Bool.not_true, Bool.not_false, reduceCtorEq, Nat.reduceEqDiff, beq_self_eq_true, Nat.reduceLT, Int.reduceLT, Int.reduceLE, Int.reduceToNat, Int.reduceAdd, Int.reduceSub, Int.reduceMul, Int.reduceNeg, String.reduceEq, String.reduceBEq, List.lookup_cons, List.lookup_nil, Mi.big, Mi.putF, List.length_append, List.append_assoc, ite_true, ite_false, Bool.false_eq_true, and_self, not_true_eq_false, not_false_eq_true, Sum.inr.injEq, Sum.inl.injEq, Mi.look, Mi.put, List.any_cons, List.any_nil, Bool.or_true, Bool.or_false, Bool.true_or, Bool.false_or, List.find?_cons, Option.getD_some, Option.getD_none, Bool.bne_false, Bool.false_bne, Bool.true_bne, Bool.bne_true, Int.reduceEq, Int.reducePow, -Mi.bEq, qb_law_group_told_1, e1', f1, e2, f2, Bool.true_and]
theorem keys_loop (a0 a1 a2 a4 a5 a6 a10 a11 a12 a13 : Option Dv) (P Q : List Int) (n : Int) (h1 : P.length ≤ 1000) (h2 : Q.length ≤ 1000) (x9 : Option Dv) (G : Sto) : ∃ y9, qf_law_group_told_1 [a0, a1, a2, some (.int n), a4, a5, a6, some (.tup (P.map Dv.int)), some (.tup (Q.map Dv.int)), x9, a10, a11, a12, a13] G = some (if (kOk n P && kOk n Q) = true then .nx else .rt (.tup [.str "form"]), [a0, a1, a2, some (.int n), a4, a5, a6, some (.tup (P.map Dv.int)), some (.tup (Q.map Dv.int)), y9, a10, a11, a12, a13], G) := by
  have b1 := keys_body a0 a1 a2 a4 a5 a6 (some (.tup (P.map Dv.int))) (some (.tup (Q.map Dv.int))) a10 a11 a12 a13 P n h1 G
  have b2 := keys_body a0 a1 a2 a4 a5 a6 (some (.tup (P.map Dv.int))) (some (.tup (Q.map Dv.int))) a10 a11 a12 a13 Q n h2 G
  cases hp : kOk n P
  · rw [hp, if_neg (by simp)] at b1
    refine ⟨some (.tup (P.map Dv.int)), ?_⟩
    unfold qf_law_group_told_1 qi_law_group_told_3 Mi.mFor
    simp only [Mi.bnd, Mi.mVar, Mi.mC, Mi.mkL, Mi.m2, Mi.m1, Mi.uNeg, Mi.bAdd, Mi.bSub, Mi.bDiv, Mi.bMod, Mi.bPow, Mi.sEq, Mi.bEq, Mi.bCmp, Mi.bLt, Mi.bLe, Mi.bGt, Mi.bGe, Mi.isNon, Mi.mIsN, Mi.mChain, Mi.mAnd, Mi.mOr, Mi.mNot, Mi.mTb, Mi.mTand, Mi.mTor, Mi.mTnot, Mi.mIf, Mi.mNil, Mi.mCons, Mi.mTup, Mi.mLst, Mi.mB, Mi.kOf, Mi.mFld, Mi.mCall, Mi.mCallK, Mi.mMeth, Mi.mMethK, Mi.mDef, Mi.fInt, Mi.fMax, Mi.fMin, Mi.isI, Mi.mIsI, Ms.mIsC, Mi.gNm, Mi.gNil, Mi.gCons, Mi.gTup, Mi.mSeq, Mi.mSkip, Mi.mBrk, Mi.mCont, Mi.mAsg, Mi.mPar, Mi.mExpr, Mi.mRet, Mi.mRetN, Mi.mIfS, Mi.tYes, Mi.wipe, Ms.mDct0, Ms.bAddI, List.map_cons, List.map_nil, List.nil_append, List.cons_append, List.length_cons, List.length_nil, List.replicate_succ, List.replicate_zero, List.getElem?_cons_zero, List.getElem?_cons_succ, List.getElem?_nil, List.set_cons_zero, List.set_cons_succ, Option.map_some, Option.map_none, if_true, if_false, reduceIte, decide_true, decide_false, Nat.reduceAdd, Nat.reduceLeDiff, List.mem_cons, List.mem_singleton, true_or, or_true, true_and, and_true, bne_self_eq_false, Bool.not_true, Bool.not_false, reduceCtorEq, Nat.reduceEqDiff, beq_self_eq_true, Nat.reduceLT, Int.reduceLT, Int.reduceLE, Int.reduceToNat, Int.reduceAdd, Int.reduceSub, Int.reduceMul, Int.reduceNeg, String.reduceEq, String.reduceBEq, List.lookup_cons, List.lookup_nil, Mi.big, Mi.putF, List.length_append, List.append_assoc, ite_true, ite_false, Bool.false_eq_true, and_self, not_true_eq_false, not_false_eq_true, Sum.inr.injEq, Sum.inl.injEq, Mi.look, Mi.put, List.any_cons, List.any_nil, Bool.or_true, Bool.or_false, Bool.true_or, Bool.false_or, List.find?_cons, Option.getD_some, Option.getD_none, Bool.bne_false, Bool.false_bne, Bool.true_bne, Bool.bne_true, Int.reduceEq, Int.reducePow, Mi.iSeq, Mi.seqOf, Mi.mLoop, b1, Bool.false_and]
  · rw [hp, if_pos rfl] at b1
    refine ⟨some (.tup (Q.map Dv.int)), ?_⟩
    cases hq : kOk n Q
    · rw [hq, if_neg (by simp)] at b2
      unfold qf_law_group_told_1 qi_law_group_told_3 Mi.mFor
      simp only [Mi.bnd, Mi.mVar, Mi.mC, Mi.mkL, Mi.m2, Mi.m1, Mi.uNeg, Mi.bAdd, Mi.bSub, Mi.bDiv, Mi.bMod, Mi.bPow, Mi.sEq, Mi.bEq, Mi.bCmp, Mi.bLt, Mi.bLe, Mi.bGt, Mi.bGe, Mi.isNon, Mi.mIsN, Mi.mChain, Mi.mAnd, Mi.mOr, Mi.mNot, Mi.mTb, Mi.mTand, Mi.mTor, Mi.mTnot, Mi.mIf, Mi.mNil, Mi.mCons, Mi.mTup, Mi.mLst, Mi.mB, Mi.kOf, Mi.mFld, Mi.mCall, Mi.mCallK, Mi.mMeth, Mi.mMethK, Mi.mDef, Mi.fInt, Mi.fMax, Mi.fMin, Mi.isI, Mi.mIsI, Ms.mIsC, Mi.gNm, Mi.gNil, Mi.gCons, Mi.gTup, Mi.mSeq, Mi.mSkip, Mi.mBrk, Mi.mCont, Mi.mAsg, Mi.mPar, Mi.mExpr, Mi.mRet, Mi.mRetN, Mi.mIfS, Mi.tYes, Mi.wipe, Ms.mDct0, Ms.bAddI, List.map_cons, List.map_nil, List.nil_append, List.cons_append, List.length_cons, List.length_nil, List.replicate_succ, List.replicate_zero, List.getElem?_cons_zero, List.getElem?_cons_succ, List.getElem?_nil, List.set_cons_zero, List.set_cons_succ, Option.map_some, Option.map_none, if_true, if_false, reduceIte, decide_true, decide_false, Nat.reduceAdd, Nat.reduceLeDiff, List.mem_cons, List.mem_singleton, true_or, or_true, true_and, and_true, bne_self_eq_false, Bool.not_true, Bool.not_false, reduceCtorEq, Nat.reduceEqDiff, beq_self_eq_true, Nat.reduceLT, Int.reduceLT, Int.reduceLE, Int.reduceToNat, Int.reduceAdd, Int.reduceSub, Int.reduceMul, Int.reduceNeg, String.reduceEq, String.reduceBEq, List.lookup_cons, List.lookup_nil, Mi.big, Mi.putF, List.length_append, List.append_assoc, ite_true, ite_false, Bool.false_eq_true, and_self, not_true_eq_false, not_false_eq_true, Sum.inr.injEq, Sum.inl.injEq, Mi.look, Mi.put, List.any_cons, List.any_nil, Bool.or_true, Bool.or_false, Bool.true_or, Bool.false_or, List.find?_cons, Option.getD_some, Option.getD_none, Bool.bne_false, Bool.false_bne, Bool.true_bne, Bool.bne_true, Int.reduceEq, Int.reducePow, Mi.iSeq, Mi.seqOf, Mi.mLoop, b1, b2, Bool.true_and]
    · rw [hq, if_pos rfl] at b2
      unfold qf_law_group_told_1 qi_law_group_told_3 Mi.mFor
      simp only [Mi.bnd, Mi.mVar, Mi.mC, Mi.mkL, Mi.m2, Mi.m1, Mi.uNeg, Mi.bAdd, Mi.bSub, Mi.bDiv, Mi.bMod, Mi.bPow, Mi.sEq, Mi.bEq, Mi.bCmp, Mi.bLt, Mi.bLe, Mi.bGt, Mi.bGe, Mi.isNon, Mi.mIsN, Mi.mChain, Mi.mAnd, Mi.mOr, Mi.mNot, Mi.mTb, Mi.mTand, Mi.mTor, Mi.mTnot, Mi.mIf, Mi.mNil, Mi.mCons, Mi.mTup, Mi.mLst, Mi.mB, Mi.kOf, Mi.mFld, Mi.mCall, Mi.mCallK, Mi.mMeth, Mi.mMethK, Mi.mDef, Mi.fInt, Mi.fMax, Mi.fMin, Mi.isI, Mi.mIsI, Ms.mIsC, Mi.gNm, Mi.gNil, Mi.gCons, Mi.gTup, Mi.mSeq, Mi.mSkip, Mi.mBrk, Mi.mCont, Mi.mAsg, Mi.mPar, Mi.mExpr, Mi.mRet, Mi.mRetN, Mi.mIfS, Mi.tYes, Mi.wipe, Ms.mDct0, Ms.bAddI, List.map_cons, List.map_nil, List.nil_append, List.cons_append, List.length_cons, List.length_nil, List.replicate_succ, List.replicate_zero, List.getElem?_cons_zero, List.getElem?_cons_succ, List.getElem?_nil, List.set_cons_zero, List.set_cons_succ, Option.map_some, Option.map_none, if_true, if_false, reduceIte, decide_true, decide_false, Nat.reduceAdd, Nat.reduceLeDiff, List.mem_cons, List.mem_singleton, true_or, or_true, true_and, and_true, bne_self_eq_false, Bool.not_true, Bool.not_false, reduceCtorEq, Nat.reduceEqDiff, beq_self_eq_true, Nat.reduceLT, Int.reduceLT, Int.reduceLE, Int.reduceToNat, Int.reduceAdd, Int.reduceSub, Int.reduceMul, Int.reduceNeg, String.reduceEq, String.reduceBEq, List.lookup_cons, List.lookup_nil, Mi.big, Mi.putF, List.length_append, List.append_assoc, ite_true, ite_false, Bool.false_eq_true, and_self, not_true_eq_false, not_false_eq_true, Sum.inr.injEq, Sum.inl.injEq, Mi.look, Mi.put, List.any_cons, List.any_nil, Bool.or_true, Bool.or_false, Bool.true_or, Bool.false_or, List.find?_cons, Option.getD_some, Option.getD_none, Bool.bne_false, Bool.false_bne, Bool.true_bne, Bool.bne_true, Int.reduceEq, Int.reducePow, Mi.iSeq, Mi.seqOf, Mi.mLoop, b1, b2, Bool.true_and]
theorem both_test (a0 a1 a2 a3 a4 a5 a6 a9 a10 a11 a12 a13 : Option Dv) (P Q : List Int) (hl : P.length ≤ 1000) (G : Sto) : ql_law_group_told_3 [a0, a1, a2, a3, a4, a5, a6, some (.tup (P.map Dv.int)), some (.tup (Q.map Dv.int)), a9, a10, a11, a12, a13] G = some (.fls ((P.filter fun z => decide (z ∈ Q)).map Dv.int), G) := by
  have q := lcf (g := Mi.gNm 12) (t := qt_law_group_told_3) (e := qe_law_group_told_3) (st := fun _ => True) (δ := [a0, a1, a2, a3, a4, a5, a6, some (.tup (P.map Dv.int)), some (.tup (Q.map Dv.int)), a9, a10, a11, none, a13]) (p := liftB fun a => decide (a ∈ Q)) (f := fun d => d) (G := G) trivial (P.map Dv.int) [] (fun d hd => by
    obtain ⟨x, _, rfl⟩ := List.mem_map.mp hd
    refine ⟨[a0, a1, a2, a3, a4, a5, a6, some (.tup (P.map Dv.int)), some (.tup (Q.map Dv.int)), a9, a10, a11, some (.int x), a13], rfl, ?_, fun _ => rfl⟩
    have b := bIn_ok false x Q G
    simp only [Mi.bnd, Mi.mVar, Mi.mC, Mi.mkL, Mi.m2, Mi.m1, Mi.uNeg, Mi.bAdd, Mi.bSub, Mi.bDiv, Mi.bMod, Mi.bPow, Mi.sEq, Mi.bEq, Mi.bCmp, Mi.bLt, Mi.bLe, Mi.bGt, Mi.bGe, Mi.isNon, Mi.mIsN, Mi.mChain, Mi.mAnd, Mi.mOr, Mi.mNot, Mi.mTb, Mi.mTand, Mi.mTor, Mi.mTnot, Mi.mIf, Mi.mNil, Mi.mCons, Mi.mTup, Mi.mLst, Mi.mB, Mi.kOf, Mi.mFld, Mi.mCall, Mi.mCallK, Mi.mMeth, Mi.mMethK, Mi.mDef, Mi.fInt, Mi.fMax, Mi.fMin, Mi.isI, Mi.mIsI, Ms.mIsC, Mi.gNm, Mi.gNil, Mi.gCons, Mi.gTup, Mi.mSeq, Mi.mSkip, Mi.mBrk, Mi.mCont, Mi.mAsg, Mi.mPar, Mi.mExpr, Mi.mRet, Mi.mRetN, Mi.mIfS, Mi.tYes, Mi.wipe, Ms.mDct0, Ms.bAddI, List.map_cons, List.map_nil, List.nil_append, List.cons_append, List.length_cons, List.length_nil, List.replicate_succ, List.replicate_zero, List.getElem?_cons_zero, List.getElem?_cons_succ, List.getElem?_nil, List.set_cons_zero, List.set_cons_succ, Option.map_some, Option.map_none, if_true, if_false, reduceIte, decide_true, decide_false, Nat.reduceAdd, Nat.reduceLeDiff, List.mem_cons, List.mem_singleton, true_or, or_true, true_and, and_true, bne_self_eq_false, Bool.not_true, Bool.not_false, reduceCtorEq, Nat.reduceEqDiff, beq_self_eq_true, Nat.reduceLT, Int.reduceLT, Int.reduceLE, Int.reduceToNat, Int.reduceAdd, Int.reduceSub, Int.reduceMul, Int.reduceNeg, String.reduceEq, String.reduceBEq, List.lookup_cons, List.lookup_nil, Mi.big, Mi.putF, List.length_append, List.append_assoc, ite_true, ite_false, Bool.false_eq_true, and_self, not_true_eq_false, not_false_eq_true, Sum.inr.injEq, Sum.inl.injEq, Mi.look, Mi.put, List.any_cons, List.any_nil, Bool.or_true, Bool.or_false, Bool.true_or, Bool.false_or, List.find?_cons, Option.getD_some, Option.getD_none, Bool.bne_false, Bool.false_bne, Bool.true_bne, Bool.bne_true, Int.reduceEq, Int.reducePow, qt_law_group_told_3, b, liftB]) (by rw [List.length_map]; show 0 + _ ≤ 16777216; omega)
  rw [filter_liftB, List.map_id', List.nil_append] at q
  unfold ql_law_group_told_3 qi_law_group_told_4 Mi.mLc
  simp only [Mi.bnd, Mi.mVar, Mi.mC, Mi.mkL, Mi.m2, Mi.m1, Mi.uNeg, Mi.bAdd, Mi.bSub, Mi.bDiv, Mi.bMod, Mi.bPow, Mi.sEq, Mi.bEq, Mi.bCmp, Mi.bLt, Mi.bLe, Mi.bGt, Mi.bGe, Mi.isNon, Mi.mIsN, Mi.mChain, Mi.mAnd, Mi.mOr, Mi.mNot, Mi.mTb, Mi.mTand, Mi.mTor, Mi.mTnot, Mi.mIf, Mi.mNil, Mi.mCons, Mi.mTup, Mi.mLst, Mi.mB, Mi.kOf, Mi.mFld, Mi.mCall, Mi.mCallK, Mi.mMeth, Mi.mMethK, Mi.mDef, Mi.fInt, Mi.fMax, Mi.fMin, Mi.isI, Mi.mIsI, Ms.mIsC, Mi.gNm, Mi.gNil, Mi.gCons, Mi.gTup, Mi.mSeq, Mi.mSkip, Mi.mBrk, Mi.mCont, Mi.mAsg, Mi.mPar, Mi.mExpr, Mi.mRet, Mi.mRetN, Mi.mIfS, Mi.tYes, Mi.wipe, Ms.mDct0, Ms.bAddI, List.map_cons, List.map_nil, List.nil_append, List.cons_append, List.length_cons, List.length_nil, List.replicate_succ, List.replicate_zero, List.getElem?_cons_zero, List.getElem?_cons_succ, List.getElem?_nil, List.set_cons_zero, List.set_cons_succ, Option.map_some, Option.map_none, if_true, if_false, reduceIte, decide_true, decide_false, Nat.reduceAdd, Nat.reduceLeDiff, List.mem_cons, List.mem_singleton, true_or, or_true, true_and, and_true, bne_self_eq_false, Bool.not_true, Bool.not_false, reduceCtorEq, Nat.reduceEqDiff, beq_self_eq_true, Nat.reduceLT, Int.reduceLT, Int.reduceLE, Int.reduceToNat, Int.reduceAdd, Int.reduceSub, Int.reduceMul, Int.reduceNeg, String.reduceEq, String.reduceBEq, List.lookup_cons, List.lookup_nil, Mi.big, Mi.putF, List.length_append, List.append_assoc, ite_true, ite_false, Bool.false_eq_true, and_self, not_true_eq_false, not_false_eq_true, Sum.inr.injEq, Sum.inl.injEq, Mi.look, Mi.put, List.any_cons, List.any_nil, Bool.or_true, Bool.or_false, Bool.true_or, Bool.false_or, List.find?_cons, Option.getD_some, Option.getD_none, Bool.bne_false, Bool.false_bne, Bool.true_bne, Bool.bne_true, Int.reduceEq, Int.reducePow, Mi.iSeq, Mi.seqOf, q]
theorem max_test (Z : List Int) (hz : 0 < Z.length) (G : Sto) : ∃ m, fMaxTI [.tup (Z.map Dv.int)] G = some (.int m, G) ∧ decide (0 < m) = Z.any fun z => decide (0 < z) := by
  have e := intsOf_map Z
  cases Z with
  | nil => simp at hz
  | cons z zs =>
    refine ⟨zs.foldl max z, by unfold fMaxTI; dsimp only; rw [e], ?_⟩
    obtain ⟨h1, h2⟩ := Ms.foldl_max_le zs z
    have h3 := Ms.foldl_max_mem zs z
    by_cases c : 0 < zs.foldl max z
    · rw [decide_eq_true c]
      symm
      rw [List.any_eq_true]
      exact ⟨_, h3, decide_eq_true c⟩
    · rw [decide_eq_false c]
      symm
      rw [List.any_eq_false]
      intro y hy
      rcases (List.mem_cons.mp hy : _ ∨ _) with rfl | hy
      · simp; omega
      · have := h2 y hy
        simp; omega
theorem any_in (P Q : List Int) : (Q.any fun z => decide (z ∈ P)) = !(P.filter fun z => decide (z ∈ Q)).isEmpty := by
  by_cases h : ∃ z, z ∈ P ∧ z ∈ Q
  · obtain ⟨z, hp, hq⟩ := h
    have a : (Q.any fun z => decide (z ∈ P)) = true := List.any_eq_true.mpr ⟨z, hq, decide_eq_true hp⟩
    have b : z ∈ P.filter fun z => decide (z ∈ Q) := List.mem_filter.mpr ⟨hp, decide_eq_true hq⟩
    rw [a]
    cases hf : P.filter fun z => decide (z ∈ Q) with
    | nil => rw [hf] at b; cases b
    | cons x xs => rfl
  · have a : (Q.any fun z => decide (z ∈ P)) = false := List.any_eq_false.mpr fun z hz => by
      simp only [decide_eq_true_eq]
      exact fun q => h ⟨z, q, hz⟩
    rw [a]
    cases hf : P.filter fun z => decide (z ∈ Q) with
    | nil => rfl
    | cons x xs =>
      have : x ∈ P.filter fun z => decide (z ∈ Q) := by rw [hf]; exact List.mem_cons_self ..
      obtain ⟨h1, h2⟩ := List.mem_filter.mp this
      exact absurd ⟨x, h1, of_decide_eq_true h2⟩ h
end Lw

namespace Lw
open Mi (Dv MO Sto Sl Rs bnd ME MT MA MS MF Fl MG MGs MI)
open Ms (mExtend mPar3 fMaxL mLc2 mLc2Loop gUnL mReprK txt mZipT iEnumT bIn fSorted srt mPopAt fMaxTI fIntB)
open PySem (PyData Str)
theorem fAt {bs : List (List Int)} {i : Nat} (h : i < bs.length) (G : Sto) : Mi.bSubs (.fls (bs.map T)) (.int (i : Nat)) G = some (T (bs.getD i []), G) := by
  have e : Mi.atI (bs.map T) (i : Nat) = some (T (bs.getD i [])) := by
    unfold Mi.atI
    rw [ixN_nat (by rw [List.length_map]; exact h)]
    show (bs.map T)[i]? = _
    simp only [List.getElem?_map, List.getElem?_eq_getElem h, List.getD_eq_getElem?_getD]
    rfl
  simp [Mi.bSubs, Mi.bGet, Mi.bIx, Mi.seqOf, Mi.lstOf, e]
theorem neI (a b : Int) (G : Sto) : Mi.bEq true (.int a) (.int b) G = some (.bl (!decide (a = b)), G) := by simp [Mi.bEq, Mi.sEq]
theorem eqI (a b : Int) (G : Sto) : Mi.bEq false (.int a) (.int b) G = some (.bl (decide (a = b)), G) := by simp [Mi.bEq, Mi.sEq]
theorem told_body (a0 a2 a3 a5 a6 a7 a8 a9 a12 a13 : Option Dv) (n key : Int) (bs : List (List Int)) (j : Nat) (hj : j + 1 < bs.length) (h32 : ∀ w ∈ bs, w.length = 32) (G : Sto) :
    qb_law_group_told_2 [a0, some (.fls (bs.map T)), a2, a3, some (.int n), a5, a6, a7, a8, a9, some (.int (j : Nat)), some (.int key), a12, a13] G = some (if dataOk n key (bs.getD (j + 1) []) = true then .nx else .rt (.tup [.str "block", .int (j : Nat)]), [a0, some (.fls (bs.map T)), a2, a3, some (.int n), a5, a6, a7, a8, a9, some (.int (j : Nat)), some (.int key), a12, a13], G) := by
  have m : (bs.getD (j + 1) []).length = 32 := by
    rw [List.getD_eq_getElem?_getD, List.getElem?_eq_getElem hj]
    exact h32 _ (List.getElem_mem _)
  have e1 := fAt hj G
  rw [show ((j + 1 : Nat) : Int) = (j : Int) + 1 from rfl] at e1
  generalize bs.getD (j + 1) [] = w at m e1
  have c := cut3 m
  have e2 := eq3 true (w.take 3) n 2 key G
  have e3 : Mi.bSubs (T w) (.int 31) G = some (.int (w.getD 31 0), G) := wAt m (i := 31) (by decide) G
  have e4 := neI (w.getD 31 0) n G
  unfold dataOk
  cases hz : decide (w.take 3 = [n, 2, key])
  · rw [hz] at e2
    simp only [Mi.bnd, Mi.mVar, Mi.mC, Mi.mkL, Mi.m2, Mi.m1, Mi.uNeg, Mi.bAdd, Mi.bSub, Mi.bDiv, Mi.bMod, Mi.bPow, Mi.sEq, Mi.bEq, Mi.bCmp, Mi.bLt, Mi.bLe, Mi.bGt, Mi.bGe, Mi.isNon, Mi.mIsN, Mi.mChain, Mi.mAnd, Mi.mOr, Mi.mNot, Mi.mTb, Mi.mTand, Mi.mTor, Mi.mTnot, Mi.mIf, Mi.mNil, Mi.mCons, Mi.mTup, Mi.mLst, Mi.mB, Mi.kOf, Mi.mFld, Mi.mCall, Mi.mCallK, Mi.mMeth, Mi.mMethK, Mi.mDef, Mi.fInt, Mi.fMax, Mi.fMin, Mi.isI, Mi.mIsI, Ms.mIsC, Mi.gNm, Mi.gNil, Mi.gCons, Mi.gTup, Mi.mSeq, Mi.mSkip, Mi.mBrk, Mi.mCont, Mi.mAsg, Mi.mPar, Mi.mExpr, Mi.mRet, Mi.mRetN, Mi.mIfS, Mi.tYes, Mi.wipe, Ms.mDct0, Ms.bAddI, List.map_cons, List.map_nil, List.nil_append, List.cons_append, List.length_cons, List.length_nil, List.replicate_succ, List.replicate_zero, List.getElem?_cons_zero, List.getElem?_cons_succ, List.getElem?_nil, List.set_cons_zero, List.set_cons_succ, Option.map_some, Option.map_none, if_true, if_false, reduceIte, decide_true, decide_false, Nat.reduceAdd, Nat.reduceLeDiff, List.mem_cons, List.mem_singleton, true_or, or_true, true_and, and_true, bne_self_eq_false, Bool.not_true, Bool.not_false, reduceCtorEq, Nat.reduceEqDiff, beq_self_eq_true, Nat.reduceLT, Int.reduceLT, Int.reduceLE, Int.reduceToNat, Int.reduceAdd, Int.reduceSub, Int.reduceMul, Int.reduceNeg, String.reduceEq, String.reduceBEq, List.lookup_cons, List.lookup_nil, Mi.big, Mi.putF, List.length_append, List.append_assoc, ite_true, ite_false, Bool.false_eq_true, and_self, not_true_eq_false, not_false_eq_true, Sum.inr.injEq, Sum.inl.injEq, Mi.look, Mi.put, List.any_cons, List.any_nil, Bool.or_true, Bool.or_false, Bool.true_or, Bool.false_or, List.find?_cons, Option.getD_some, Option.getD_none, Bool.bne_false, Bool.false_bne, Bool.true_bne, Bool.bne_true, Int.reduceEq, Int.reducePow, -Mi.bEq, qb_law_group_told_2, e1, Mi.mSlice, Mi.mO, c, e2, Bool.false_and]
  · rw [hz] at e2
    cases hy : decide (w.getD 31 0 = n)
    · rw [hy] at e4
      simp only [Mi.bnd, Mi.mVar, Mi.mC, Mi.mkL, Mi.m2, Mi.m1, Mi.uNeg, Mi.bAdd, Mi.bSub, Mi.bDiv, Mi.bMod, Mi.bPow, Mi.sEq, Mi.bEq, Mi.bCmp, Mi.bLt, Mi.bLe, Mi.bGt, Mi.bGe, Mi.isNon, Mi.mIsN, Mi.mChain, Mi.mAnd, Mi.mOr, Mi.mNot, Mi.mTb, Mi.mTand, Mi.mTor, Mi.mTnot, Mi.mIf, Mi.mNil, Mi.mCons, Mi.mTup, Mi.mLst, Mi.mB, Mi.kOf, Mi.mFld, Mi.mCall, Mi.mCallK, Mi.mMeth, Mi.mMethK, Mi.mDef, Mi.fInt, Mi.fMax, Mi.fMin, Mi.isI, Mi.mIsI, Ms.mIsC, Mi.gNm, Mi.gNil, Mi.gCons, Mi.gTup, Mi.mSeq, Mi.mSkip, Mi.mBrk, Mi.mCont, Mi.mAsg, Mi.mPar, Mi.mExpr, Mi.mRet, Mi.mRetN, Mi.mIfS, Mi.tYes, Mi.wipe, Ms.mDct0, Ms.bAddI, List.map_cons, List.map_nil, List.nil_append, List.cons_append, List.length_cons, List.length_nil, List.replicate_succ, List.replicate_zero, List.getElem?_cons_zero, List.getElem?_cons_succ, List.getElem?_nil, List.set_cons_zero, List.set_cons_succ, Option.map_some, Option.map_none, if_true, if_false, reduceIte, decide_true, decide_false, Nat.reduceAdd, Nat.reduceLeDiff, List.mem_cons, List.mem_singleton, true_or, or_true, true_and, and_true, bne_self_eq_false, Bool.not_true, Bool.not_false, reduceCtorEq, Nat.reduceEqDiff, beq_self_eq_true, Nat.reduceLT, Int.reduceLT, Int.reduceLE, Int.reduceToNat, Int.reduceAdd, Int.reduceSub, Int.reduceMul, Int.reduceNeg, String.reduceEq, String.reduceBEq, List.lookup_cons, List.lookup_nil, Mi.big, Mi.putF, List.length_append, List.append_assoc, ite_true, ite_false, Bool.false_eq_true, and_self, not_true_eq_false, not_false_eq_true, Sum.inr.injEq, Sum.inl.injEq, Mi.look, Mi.put, List.any_cons, List.any_nil, Bool.or_true, Bool.or_false, Bool.true_or, Bool.false_or, List.find?_cons, Option.getD_some, Option.getD_none, Bool.bne_false, Bool.false_bne, Bool.true_bne, Bool.bne_true, Int.reduceEq, Int.reducePow, -Mi.bEq, qb_law_group_told_2, e1, Mi.mSlice, Mi.mO, c, e2, e3, e4, Bool.true_and]
    · rw [hy] at e4
      simp only [Mi.bnd, Mi.mVar, Mi.mC, Mi.mkL, Mi.m2, Mi.m1, Mi.uNeg, Mi.bAdd, Mi.bSub, Mi.bDiv, Mi.bMod, Mi.bPow, Mi.sEq, Mi.bEq, Mi.bCmp, Mi.bLt, Mi.bLe, Mi.bGt, Mi.bGe, Mi.isNon, Mi.mIsN, Mi.mChain, Mi.mAnd, Mi.mOr, Mi.mNot, Mi.mTb, Mi.mTand, Mi.mTor, Mi.mTnot, Mi.mIf, Mi.mNil, Mi.mCons, Mi.mTup, Mi.mLst, Mi.mB, Mi.kOf, Mi.mFld, Mi.mCall, Mi.mCallK, Mi.mMeth, Mi.mMethK, Mi.mDef, Mi.fInt, Mi.fMax, Mi.fMin, Mi.isI, Mi.mIsI, Ms.mIsC, Mi.gNm, Mi.gNil, Mi.gCons, Mi.gTup, Mi.mSeq, Mi.mSkip, Mi.mBrk, Mi.mCont, Mi.mAsg, Mi.mPar, Mi.mExpr, Mi.mRet, Mi.mRetN, Mi.mIfS, Mi.tYes, Mi.wipe, Ms.mDct0, Ms.bAddI, List.map_cons, List.map_nil, List.nil_append, List.cons_append, List.length_cons, List.length_nil, List.replicate_succ, List.replicate_zero, List.getElem?_cons_zero, List.getElem?_cons_succ, List.getElem?_nil, List.set_cons_zero, List.set_cons_succ, Option.map_some, Option.map_none, if_true, if_false, reduceIte, decide_true, decide_false, Nat.reduceAdd, Nat.reduceLeDiff, List.mem_cons, List.mem_singleton, true_or, or_true, true_and, and_true, bne_self_eq_false, Bool.not_true, Bool.not_false, reduceCtorEq, Nat.reduceEqDiff, beq_self_eq_true, Nat.reduceLT, Int.reduceLT, Int.reduceLE, Int.reduceToNat, Int.reduceAdd, Int.reduceSub, Int.reduceMul, Int.reduceNeg, String.reduceEq, String.reduceBEq, List.lookup_cons, List.lookup_nil, Mi.big, Mi.putF, List.length_append, List.append_assoc, ite_true, ite_false, Bool.false_eq_true, and_self, not_true_eq_false, not_false_eq_true, Sum.inr.injEq, Sum.inl.injEq, Mi.look, Mi.put, List.any_cons, List.any_nil, Bool.or_true, Bool.or_false, Bool.true_or, Bool.false_or, List.find?_cons, Option.getD_some, Option.getD_none, Bool.bne_false, Bool.false_bne, Bool.true_bne, Bool.bne_true, Int.reduceEq, Int.reducePow, -Mi.bEq, qb_law_group_told_2, e1, Mi.mSlice, Mi.mO, c, e2, e3, e4, Bool.true_and]
theorem told_loop (a0 a2 a3 a5 a6 a7 a8 a9 a12 a13 : Option Dv) (n : Int) (bs : List (List Int)) (h32 : ∀ w ∈ bs, w.length = 32) (G : Sto) : ∀ (ks : List Int) (j : Nat) (x10 x11 : Option Dv), j + ks.length + 1 ≤ bs.length →
    ∃ y10 y11, Mi.mLoop (Mi.gTup 2 (Mi.gCons (Mi.gNm 10) (Mi.gCons (Mi.gNm 11) Mi.gNil))) qb_law_group_told_2 (fun _ => True) (Mi.enumD j (ks.map Dv.int)) [a0, some (.fls (bs.map T)), a2, a3, some (.int n), a5, a6, a7, a8, a9, x10, x11, a12, a13] G = some (fRes (fbi n bs ks j), [a0, some (.fls (bs.map T)), a2, a3, some (.int n), a5, a6, a7, a8, a9, y10, y11, a12, a13], G)
  | [], j, x10, x11, _ => ⟨x10, x11, by rw [List.map_nil, Mi.enumD, Mi.mLoop, if_pos trivial]; rfl⟩
  | key :: ks, j, x10, x11, hl => by
    rw [List.length_cons] at hl
    have hb := told_body a0 a2 a3 a5 a6 a7 a8 a9 a12 a13 n key bs j (by omega) h32 G
    by_cases hz : dataOk n key (bs.getD (j + 1) []) = true
    · rw [if_pos hz] at hb
      obtain ⟨y10, y11, e⟩ := told_loop a0 a2 a3 a5 a6 a7 a8 a9 a12 a13 n bs h32 G ks (j + 1) (some (.int (j : Nat))) (some (.int key)) (by omega)
      refine ⟨y10, y11, ?_⟩
      rw [List.map_cons, Mi.enumD, Mi.mLoop, if_pos trivial]
      unfold fbi
      rw [if_pos hz]
      simp only [Mi.bnd, Mi.mVar, Mi.mC, Mi.mkL, Mi.m2, Mi.m1, Mi.uNeg, Mi.bAdd, Mi.bSub, Mi.bDiv, Mi.bMod, Mi.bPow, Mi.sEq, Mi.bEq, Mi.bCmp, Mi.bLt, Mi.bLe, Mi.bGt, Mi.bGe, Mi.isNon, Mi.mIsN, Mi.mChain, Mi.mAnd, Mi.mOr, Mi.mNot, Mi.mTb, Mi.mTand, Mi.mTor, Mi.mTnot, Mi.mIf, Mi.mNil, Mi.mCons, Mi.mTup, Mi.mLst, Mi.mB, Mi.kOf, Mi.mFld, Mi.mCall, Mi.mCallK, Mi.mMeth, Mi.mMethK, Mi.mDef, Mi.fInt, Mi.fMax, Mi.fMin, Mi.isI, Mi.mIsI, Ms.mIsC, Mi.gNm, Mi.gNil, Mi.gCons, Mi.gTup, Mi.mSeq, Mi.mSkip, Mi.mBrk, Mi.mCont, Mi.mAsg, Mi.mPar, Mi.mExpr, Mi.mRet, Mi.mRetN, Mi.mIfS, Mi.tYes, Mi.wipe, Ms.mDct0, Ms.bAddI, List.map_cons, List.map_nil, List.nil_append, List.cons_append, List.length_cons, List.length_nil, List.replicate_succ, List.replicate_zero, List.getElem?_cons_zero, List.getElem?_cons_succ, List.getElem?_nil, List.set_cons_zero, List.set_cons_succ, Option.map_some, Option.map_none, if_true, if_false, reduceIte, decide_true, decide_false, Nat.reduceAdd, Nat.reduceLeDiff, List.mem_cons, List.mem_singleton, true_or, or_true, true_and, and_true, bne_self_eq_false, Bool.not_true, Bool.not_false, reduceCtorEq, Nat.reduceEqDiff, beq_self_eq_true, Nat.reduceLT, Int.reduceLT, Int.reduceLE, Int.reduceToNat, Int.reduceAdd, Int.reduceSub, Int.reduceMul, Int.reduceNeg, String.reduceEq, String.reduceBEq, List.lookup_cons, List.lookup_nil, Mi.big, Mi.putF, List.length_append, List.append_assoc, ite_true, ite_false, Bool.false_eq_true, and_self, not_true_eq_false, not_false_eq_true, Sum.inr.injEq, Sum.inl.injEq, Mi.look, Mi.put, List.any_cons, List.any_nil, Bool.or_true, Bool.or_false, Bool.true_or, Bool.false_or, List.find?_cons, Option.getD_some, Option.getD_none, Bool.bne_false, Bool.false_bne, Bool.true_bne, Bool.bne_true, Int.reduceEq, Int.reducePow, hb]
      exact e
    · rw [if_neg hz] at hb
      refine ⟨some (.int (j : Nat)), some (.int key), ?_⟩
      rw [List.map_cons, Mi.enumD, Mi.mLoop, if_pos trivial]
      unfold fbi
      rw [if_neg hz]
      simp only [Mi.bnd, Mi.mVar, Mi.mC, Mi.mkL, Mi.m2, Mi.m1, Mi.uNeg, Mi.bAdd, Mi.bSub, Mi.bDiv, Mi.bMod, Mi.bPow, Mi.sEq, Mi.bEq, Mi.bCmp, Mi.bLt, Mi.bLe, Mi.bGt, Mi.bGe, Mi.isNon, Mi.mIsN, Mi.mChain, Mi.mAnd, Mi.mOr, Mi.mNot, Mi.mTb, Mi.mTand, Mi.mTor, Mi.mTnot, Mi.mIf, Mi.mNil, Mi.mCons, Mi.mTup, Mi.mLst, Mi.mB, Mi.kOf, Mi.mFld, Mi.mCall, Mi.mCallK, Mi.mMeth, Mi.mMethK, Mi.mDef, Mi.fInt, Mi.fMax, Mi.fMin, Mi.isI, Mi.mIsI, Ms.mIsC, Mi.gNm, Mi.gNil, Mi.gCons, Mi.gTup, Mi.mSeq, Mi.mSkip, Mi.mBrk, Mi.mCont, Mi.mAsg, Mi.mPar, Mi.mExpr, Mi.mRet, Mi.mRetN, Mi.mIfS, Mi.tYes, Mi.wipe, Ms.mDct0, Ms.bAddI, List.map_cons, List.map_nil, List.nil_append, List.cons_append, List.length_cons, List.length_nil, List.replicate_succ, List.replicate_zero, List.getElem?_cons_zero, List.getElem?_cons_succ, List.getElem?_nil, List.set_cons_zero, List.set_cons_succ, Option.map_some, Option.map_none, if_true, if_false, reduceIte, decide_true, decide_false, Nat.reduceAdd, Nat.reduceLeDiff, List.mem_cons, List.mem_singleton, true_or, or_true, true_and, and_true, bne_self_eq_false, Bool.not_true, Bool.not_false, reduceCtorEq, Nat.reduceEqDiff, beq_self_eq_true, Nat.reduceLT, Int.reduceLT, Int.reduceLE, Int.reduceToNat, Int.reduceAdd, Int.reduceSub, Int.reduceMul, Int.reduceNeg, String.reduceEq, String.reduceBEq, List.lookup_cons, List.lookup_nil, Mi.big, Mi.putF, List.length_append, List.append_assoc, ite_true, ite_false, Bool.false_eq_true, and_self, not_true_eq_false, not_false_eq_true, Sum.inr.injEq, Sum.inl.injEq, Mi.look, Mi.put, List.any_cons, List.any_nil, Bool.or_true, Bool.or_false, Bool.true_or, Bool.false_or, List.find?_cons, Option.getD_some, Option.getD_none, Bool.bne_false, Bool.false_bne, Bool.true_bne, Bool.bne_true, Int.reduceEq, Int.reducePow, hb, fRes]
/-- what there is, of a summary in range -/
def GT (s n : Int) (len : Nat) (w0 w2 w3 : Int) (m : Nat) (P Q Z : List Int) (bs : List (List Int)) : Dv :=
  if m + 1 ≤ len ∧ fOk s n w3 P Q Z = true then (match fbi w0 bs P 0 with
    | some i => .tup [.str "block", .int (i : Nat)]
    | none => .tup [.str "group", .int w0, .int w2, .int w3, .tup (P.map Dv.int), .tup (Q.map Dv.int)]) else .tup [.str "form"]
abbrev szs (s k : Int) : Dv := .tup [.int s, .int k, .int (N' s k), .int (R' s k)]
section
variable {s k : Int}
theorem law_first (b : List Int) (hb : b.length = 32) (r : List (List Int)) (G : Sto) : Mi.bSubs (.fls (T b :: r.map T)) (.int 0) G = some (T b, G) := fAt (bs := b :: r) (i := 0) (by simp) G
theorem law_torn (b : List Int) (hb : b.length = 32) (r : List (List Int)) (G : Sto) (h : ¬ (b.getD 31 0 = b.getD 0 0 ∧ b.getD 0 0 ≠ 0)) : m_law_group_told [szs s k, .fls ((b :: r).map T)] G = some (.tup [.str "torn"], G) := by
  have e0 := law_first b hb r G
  have e1 : Mi.bSubs (T b) (.int 0) G = some (.int (b.getD 0 0), G) := wAt hb (i := 0) (by decide) G
  have e2 : Mi.bSubs (T b) (.int 31) G = some (.int (b.getD 31 0), G) := wAt hb (i := 31) (by decide) G
  have e3 : Mi.bSubs (szs s k) (.int 2) G = some (.int (N' s k), G) := rfl
  by_cases h1 : b.getD 0 0 = b.getD 31 0
  · have h2 : b.getD 0 0 = 0 := Classical.byContradiction fun z => h ⟨h1.symm, z⟩
    have e4 := neI (b.getD 0 0) (b.getD 31 0) G
    have e5 := eqI (b.getD 0 0) 0 G
    rw [decide_eq_true h1] at e4
    rw [decide_eq_true h2] at e5
    simp only [Mi.bnd, Mi.mVar, Mi.mC, Mi.mkL, Mi.m2, Mi.m1, Mi.uNeg, Mi.bAdd, Mi.bSub, Mi.bDiv, Mi.bMod, Mi.bPow, Mi.sEq, Mi.bEq, Mi.bCmp, Mi.bLt, Mi.bLe, Mi.bGt, Mi.bGe, Mi.isNon, Mi.mIsN, Mi.mChain, Mi.mAnd, Mi.mOr, Mi.mNot, Mi.mTb, Mi.mTand, Mi.mTor, Mi.mTnot, Mi.mIf, Mi.mNil, Mi.mCons, Mi.mTup, Mi.mLst, Mi.mB, Mi.kOf, Mi.mFld, Mi.mCall, Mi.mCallK, Mi.mMeth, Mi.mMethK, Mi.mDef, Mi.fInt, Mi.fMax, Mi.fMin, Mi.isI, Mi.mIsI, Ms.mIsC, Mi.gNm, Mi.gNil, Mi.gCons, Mi.gTup, Mi.mSeq, Mi.mSkip, Mi.mBrk, Mi.mCont, Mi.mAsg, Mi.mPar, Mi.mExpr, Mi.mRet, Mi.mRetN, Mi.mIfS, Mi.tYes, Mi.wipe, Ms.mDct0, Ms.bAddI, List.map_cons, List.map_nil, List.nil_append, List.cons_append, List.length_cons, List.length_nil, List.replicate_succ, List.replicate_zero, List.getElem?_cons_zero, List.getElem?_cons_succ, List.getElem?_nil, List.set_cons_zero, List.set_cons_succ, Option.map_some, Option.map_none, if_true, if_false, reduceIte, decide_true, decide_false, Nat.reduceAdd, Nat.reduceLeDiff, List.mem_cons, List.mem_singleton, true_or, or_true, true_and, and_true, bne_self_eq_false, Bool.not_true, Bool.not_false, reduceCtorEq, Nat.reduceEqDiff, beq_self_eq_true, Nat.reduceLT, Int.reduceLT, Int.reduceLE, Int.reduceToNat, Int.reduceAdd, Int.reduceSub, Int.reduceMul, Int.reduceNeg, String.reduceEq, String.reduceBEq, List.lookup_cons, List.lookup_nil, Mi.big, Mi.putF, List.length_append, List.append_assoc, ite_true, ite_false, Bool.false_eq_true, and_self, not_true_eq_false, not_false_eq_true, Sum.inr.injEq, Sum.inl.injEq, Mi.look, Mi.put, List.any_cons, List.any_nil, Bool.or_true, Bool.or_false, Bool.true_or, Bool.false_or, List.find?_cons, Option.getD_some, Option.getD_none, Bool.bne_false, Bool.false_bne, Bool.true_bne, Bool.bne_true, Int.reduceEq, Int.reducePow, -Mi.bEq, m_law_group_told, b_law_group_told, e0, e1, e2, e3, e4, e5]
  · have e4 := neI (b.getD 0 0) (b.getD 31 0) G
    rw [decide_eq_false h1] at e4
    simp only [Mi.bnd, Mi.mVar, Mi.mC, Mi.mkL, Mi.m2, Mi.m1, Mi.uNeg, Mi.bAdd, Mi.bSub, Mi.bDiv, Mi.bMod, Mi.bPow, Mi.sEq, Mi.bEq, Mi.bCmp, Mi.bLt, Mi.bLe, Mi.bGt, Mi.bGe, Mi.isNon, Mi.mIsN, Mi.mChain, Mi.mAnd, Mi.mOr, Mi.mNot, Mi.mTb, Mi.mTand, Mi.mTor, Mi.mTnot, Mi.mIf, Mi.mNil, Mi.mCons, Mi.mTup, Mi.mLst, Mi.mB, Mi.kOf, Mi.mFld, Mi.mCall, Mi.mCallK, Mi.mMeth, Mi.mMethK, Mi.mDef, Mi.fInt, Mi.fMax, Mi.fMin, Mi.isI, Mi.mIsI, Ms.mIsC, Mi.gNm, Mi.gNil, Mi.gCons, Mi.gTup, Mi.mSeq, Mi.mSkip, Mi.mBrk, Mi.mCont, Mi.mAsg, Mi.mPar, Mi.mExpr, Mi.mRet, Mi.mRetN, Mi.mIfS, Mi.tYes, Mi.wipe, Ms.mDct0, Ms.bAddI, List.map_cons, List.map_nil, List.nil_append, List.cons_append, List.length_cons, List.length_nil, List.replicate_succ, List.replicate_zero, List.getElem?_cons_zero, List.getElem?_cons_succ, List.getElem?_nil, List.set_cons_zero, List.set_cons_succ, Option.map_some, Option.map_none, if_true, if_false, reduceIte, decide_true, decide_false, Nat.reduceAdd, Nat.reduceLeDiff, List.mem_cons, List.mem_singleton, true_or, or_true, true_and, and_true, bne_self_eq_false, Bool.not_true, Bool.not_false, reduceCtorEq, Nat.reduceEqDiff, beq_self_eq_true, Nat.reduceLT, Int.reduceLT, Int.reduceLE, Int.reduceToNat, Int.reduceAdd, Int.reduceSub, Int.reduceMul, Int.reduceNeg, String.reduceEq, String.reduceBEq, List.lookup_cons, List.lookup_nil, Mi.big, Mi.putF, List.length_append, List.append_assoc, ite_true, ite_false, Bool.false_eq_true, and_self, not_true_eq_false, not_false_eq_true, Sum.inr.injEq, Sum.inl.injEq, Mi.look, Mi.put, List.any_cons, List.any_nil, Bool.or_true, Bool.or_false, Bool.true_or, Bool.false_or, List.find?_cons, Option.getD_some, Option.getD_none, Bool.bne_false, Bool.false_bne, Bool.true_bne, Bool.bne_true, Int.reduceEq, Int.reducePow, -Mi.bEq, m_law_group_told, b_law_group_told, e0, e1, e2, e3, e4]
theorem law_kind (b : List Int) (hb : b.length = 32) (r : List (List Int)) (G : Sto) (h : b.getD 31 0 = b.getD 0 0 ∧ b.getD 0 0 ≠ 0) (h2 : b.getD 1 0 ≠ 1) : m_law_group_told [szs s k, .fls ((b :: r).map T)] G = some (.tup [.str "kind"], G) := by
  have e0 := law_first b hb r G
  have e1 : Mi.bSubs (T b) (.int 0) G = some (.int (b.getD 0 0), G) := wAt hb (i := 0) (by decide) G
  have e2 : Mi.bSubs (T b) (.int 31) G = some (.int (b.getD 31 0), G) := wAt hb (i := 31) (by decide) G
  have e3 : Mi.bSubs (szs s k) (.int 2) G = some (.int (N' s k), G) := rfl
  have e6 : Mi.bSubs (T b) (.int 1) G = some (.int (b.getD 1 0), G) := wAt hb (i := 1) (by decide) G
  have e4 := neI (b.getD 0 0) (b.getD 31 0) G
  have e5 := eqI (b.getD 0 0) 0 G
  have e7 := neI (b.getD 1 0) 1 G
  rw [decide_eq_true h.1.symm] at e4
  rw [decide_eq_false h.2] at e5
  rw [decide_eq_false h2] at e7
  simp only [Mi.bnd, Mi.mVar, Mi.mC, Mi.mkL, Mi.m2, Mi.m1, Mi.uNeg, Mi.bAdd, Mi.bSub, Mi.bDiv, Mi.bMod, Mi.bPow, Mi.sEq, Mi.bEq, Mi.bCmp, Mi.bLt, Mi.bLe, Mi.bGt, Mi.bGe, Mi.isNon, Mi.mIsN, Mi.mChain, Mi.mAnd, Mi.mOr, Mi.mNot, Mi.mTb, Mi.mTand, Mi.mTor, Mi.mTnot, Mi.mIf, Mi.mNil, Mi.mCons, Mi.mTup, Mi.mLst, Mi.mB, Mi.kOf, Mi.mFld, Mi.mCall, Mi.mCallK, Mi.mMeth, Mi.mMethK, Mi.mDef, Mi.fInt, Mi.fMax, Mi.fMin, Mi.isI, Mi.mIsI, Ms.mIsC, Mi.gNm, Mi.gNil, Mi.gCons, Mi.gTup, Mi.mSeq, Mi.mSkip, Mi.mBrk, Mi.mCont, Mi.mAsg, Mi.mPar, Mi.mExpr, Mi.mRet, Mi.mRetN, Mi.mIfS, Mi.tYes, Mi.wipe, Ms.mDct0, Ms.bAddI, List.map_cons, List.map_nil, List.nil_append, List.cons_append, List.length_cons, List.length_nil, List.replicate_succ, List.replicate_zero, List.getElem?_cons_zero, List.getElem?_cons_succ, List.getElem?_nil, List.set_cons_zero, List.set_cons_succ, Option.map_some, Option.map_none, if_true, if_false, reduceIte, decide_true, decide_false, Nat.reduceAdd, Nat.reduceLeDiff, List.mem_cons, List.mem_singleton, true_or, or_true, true_and, and_true, bne_self_eq_false, Bool.not_true, Bool.not_false, reduceCtorEq, Nat.reduceEqDiff, beq_self_eq_true, Nat.reduceLT, Int.reduceLT, Int.reduceLE, Int.reduceToNat, Int.reduceAdd, Int.reduceSub, Int.reduceMul, Int.reduceNeg, String.reduceEq, String.reduceBEq, List.lookup_cons, List.lookup_nil, Mi.big, Mi.putF, List.length_append, List.append_assoc, ite_true, ite_false, Bool.false_eq_true, and_self, not_true_eq_false, not_false_eq_true, Sum.inr.injEq, Sum.inl.injEq, Mi.look, Mi.put, List.any_cons, List.any_nil, Bool.or_true, Bool.or_false, Bool.true_or, Bool.false_or, List.find?_cons, Option.getD_some, Option.getD_none, Bool.bne_false, Bool.false_bne, Bool.true_bne, Bool.bne_true, Int.reduceEq, Int.reducePow, -Mi.bEq, m_law_group_told, b_law_group_told, e0, e1, e2, e3, e4, e5, e6, e7]
/-- the law's look at a right first word: the form -/
theorem law_form (b : List Int) (hb : b.length = 32) (r : List (List Int)) (G : Sto) (h : b.getD 31 0 = b.getD 0 0 ∧ b.getD 0 0 ≠ 0) (h2 : b.getD 1 0 = 1) (h3 : ¬ (b.getD 3 0 < s ∧ 1 ≤ b.getD 4 0 + b.getD 5 0 ∧ b.getD 4 0 + b.getD 5 0 ≤ 24 ∧ b.getD 4 0 + 1 ≤ r.length + 1)) : m_law_group_told [szs s k, .fls ((b :: r).map T)] G = some (.tup [.str "form"], G) := by
  have e0 := law_first b hb r G
  have e1 : Mi.bSubs (T b) (.int 0) G = some (.int (b.getD 0 0), G) := wAt hb (i := 0) (by decide) G
  have e2 : Mi.bSubs (T b) (.int 31) G = some (.int (b.getD 31 0), G) := wAt hb (i := 31) (by decide) G
  have e3 : Mi.bSubs (szs s k) (.int 2) G = some (.int (N' s k), G) := rfl
  have e3' : Mi.bSubs (szs s k) (.int 0) G = some (.int s, G) := rfl
  have e6 : Mi.bSubs (T b) (.int 1) G = some (.int (b.getD 1 0), G) := wAt hb (i := 1) (by decide) G
  have g3 : Mi.bSubs (T b) (.int 3) G = some (.int (b.getD 3 0), G) := wAt hb (i := 3) (by decide) G
  have g4 : Mi.bSubs (T b) (.int 4) G = some (.int (b.getD 4 0), G) := wAt hb (i := 4) (by decide) G
  have g5 : Mi.bSubs (T b) (.int 5) G = some (.int (b.getD 5 0), G) := wAt hb (i := 5) (by decide) G
  have e4 := neI (b.getD 0 0) (b.getD 31 0) G
  have e5 := eqI (b.getD 0 0) 0 G
  have e7 := neI (b.getD 1 0) 1 G
  rw [decide_eq_true h.1.symm] at e4
  rw [decide_eq_false h.2] at e5
  rw [decide_eq_true h2] at e7
  have lk : Mi.fLen [.fls (T b :: r.map T)] G = some (.int ((r.length : Int) + 1), G) := by simp [Mi.fLen, Mi.lstOf]
  by_cases c1 : s ≤ b.getD 3 0
  · simp only [Mi.bnd, Mi.mVar, Mi.mC, Mi.mkL, Mi.m2, Mi.m1, Mi.uNeg, Mi.bAdd, Mi.bSub, Mi.bDiv, Mi.bMod, Mi.bPow, Mi.sEq, Mi.bEq, Mi.bCmp, Mi.bLt, Mi.bLe, Mi.bGt, Mi.bGe, Mi.isNon, Mi.mIsN, Mi.mChain, Mi.mAnd, Mi.mOr, Mi.mNot, Mi.mTb, Mi.mTand, Mi.mTor, Mi.mTnot, Mi.mIf, Mi.mNil, Mi.mCons, Mi.mTup, Mi.mLst, Mi.mB, Mi.kOf, Mi.mFld, Mi.mCall, Mi.mCallK, Mi.mMeth, Mi.mMethK, Mi.mDef, Mi.fInt, Mi.fMax, Mi.fMin, Mi.isI, Mi.mIsI, Ms.mIsC, Mi.gNm, Mi.gNil, Mi.gCons, Mi.gTup, Mi.mSeq, Mi.mSkip, Mi.mBrk, Mi.mCont, Mi.mAsg, Mi.mPar, Mi.mExpr, Mi.mRet, Mi.mRetN, Mi.mIfS, Mi.tYes, Mi.wipe, Ms.mDct0, Ms.bAddI, List.map_cons, List.map_nil, List.nil_append, List.cons_append, List.length_cons, List.length_nil, List.replicate_succ, List.replicate_zero, List.getElem?_cons_zero, List.getElem?_cons_succ, List.getElem?_nil, List.set_cons_zero, List.set_cons_succ, Option.map_some, Option.map_none, if_true, if_false, reduceIte, decide_true, decide_false, Nat.reduceAdd, Nat.reduceLeDiff, List.mem_cons, List.mem_singleton, true_or, or_true, true_and, and_true, bne_self_eq_false, Bool.not_true, Bool.not_false, reduceCtorEq, Nat.reduceEqDiff, beq_self_eq_true, Nat.reduceLT, Int.reduceLT, Int.reduceLE, Int.reduceToNat, Int.reduceAdd, Int.reduceSub, Int.reduceMul, Int.reduceNeg, String.reduceEq, String.reduceBEq, List.lookup_cons, List.lookup_nil, Mi.big, Mi.putF, List.length_append, List.append_assoc, ite_true, ite_false, Bool.false_eq_true, and_self, not_true_eq_false, not_false_eq_true, Sum.inr.injEq, Sum.inl.injEq, Mi.look, Mi.put, List.any_cons, List.any_nil, Bool.or_true, Bool.or_false, Bool.true_or, Bool.false_or, List.find?_cons, Option.getD_some, Option.getD_none, Bool.bne_false, Bool.false_bne, Bool.true_bne, Bool.bne_true, Int.reduceEq, Int.reducePow, -Mi.bEq, m_law_group_told, b_law_group_told, e0, e1, e2, e3, e3', e4, e5, e6, e7, g3, g4, g5, c1]
  · by_cases c2 : 1 ≤ b.getD 4 0 + b.getD 5 0
    · by_cases c3 : b.getD 4 0 + b.getD 5 0 ≤ 24
      · have c4 : (r.length : Int) + 1 < b.getD 4 0 + 1 := by omega
        simp only [Mi.bnd, Mi.mVar, Mi.mC, Mi.mkL, Mi.m2, Mi.m1, Mi.uNeg, Mi.bAdd, Mi.bSub, Mi.bDiv, Mi.bMod, Mi.bPow, Mi.sEq, Mi.bEq, Mi.bCmp, Mi.bLt, Mi.bLe, Mi.bGt, Mi.bGe, Mi.isNon, Mi.mIsN, Mi.mChain, Mi.mAnd, Mi.mOr, Mi.mNot, Mi.mTb, Mi.mTand, Mi.mTor, Mi.mTnot, Mi.mIf, Mi.mNil, Mi.mCons, Mi.mTup, Mi.mLst, Mi.mB, Mi.kOf, Mi.mFld, Mi.mCall, Mi.mCallK, Mi.mMeth, Mi.mMethK, Mi.mDef, Mi.fInt, Mi.fMax, Mi.fMin, Mi.isI, Mi.mIsI, Ms.mIsC, Mi.gNm, Mi.gNil, Mi.gCons, Mi.gTup, Mi.mSeq, Mi.mSkip, Mi.mBrk, Mi.mCont, Mi.mAsg, Mi.mPar, Mi.mExpr, Mi.mRet, Mi.mRetN, Mi.mIfS, Mi.tYes, Mi.wipe, Ms.mDct0, Ms.bAddI, List.map_cons, List.map_nil, List.nil_append, List.cons_append, List.length_cons, List.length_nil, List.replicate_succ, List.replicate_zero, List.getElem?_cons_zero, List.getElem?_cons_succ, List.getElem?_nil, List.set_cons_zero, List.set_cons_succ, Option.map_some, Option.map_none, if_true, if_false, reduceIte, decide_true, decide_false, Nat.reduceAdd, Nat.reduceLeDiff, List.mem_cons, List.mem_singleton, true_or, or_true, true_and, and_true, bne_self_eq_false, Bool.not_true, Bool.not_false, reduceCtorEq, Nat.reduceEqDiff, beq_self_eq_true, Nat.reduceLT, Int.reduceLT, Int.reduceLE, Int.reduceToNat, Int.reduceAdd, Int.reduceSub, Int.reduceMul, Int.reduceNeg, String.reduceEq, String.reduceBEq, List.lookup_cons, List.lookup_nil, Mi.big, Mi.putF, List.length_append, List.append_assoc, ite_true, ite_false, Bool.false_eq_true, and_self, not_true_eq_false, not_false_eq_true, Sum.inr.injEq, Sum.inl.injEq, Mi.look, Mi.put, List.any_cons, List.any_nil, Bool.or_true, Bool.or_false, Bool.true_or, Bool.false_or, List.find?_cons, Option.getD_some, Option.getD_none, Bool.bne_false, Bool.false_bne, Bool.true_bne, Bool.bne_true, Int.reduceEq, Int.reducePow, -Mi.bEq, m_law_group_told, b_law_group_told, e0, e1, e2, e3, e3', e4, e5, e6, e7, g3, g4, g5, c1, c2, c3, lk, c4]
      · simp only [Mi.bnd, Mi.mVar, Mi.mC, Mi.mkL, Mi.m2, Mi.m1, Mi.uNeg, Mi.bAdd, Mi.bSub, Mi.bDiv, Mi.bMod, Mi.bPow, Mi.sEq, Mi.bEq, Mi.bCmp, Mi.bLt, Mi.bLe, Mi.bGt, Mi.bGe, Mi.isNon, Mi.mIsN, Mi.mChain, Mi.mAnd, Mi.mOr, Mi.mNot, Mi.mTb, Mi.mTand, Mi.mTor, Mi.mTnot, Mi.mIf, Mi.mNil, Mi.mCons, Mi.mTup, Mi.mLst, Mi.mB, Mi.kOf, Mi.mFld, Mi.mCall, Mi.mCallK, Mi.mMeth, Mi.mMethK, Mi.mDef, Mi.fInt, Mi.fMax, Mi.fMin, Mi.isI, Mi.mIsI, Ms.mIsC, Mi.gNm, Mi.gNil, Mi.gCons, Mi.gTup, Mi.mSeq, Mi.mSkip, Mi.mBrk, Mi.mCont, Mi.mAsg, Mi.mPar, Mi.mExpr, Mi.mRet, Mi.mRetN, Mi.mIfS, Mi.tYes, Mi.wipe, Ms.mDct0, Ms.bAddI, List.map_cons, List.map_nil, List.nil_append, List.cons_append, List.length_cons, List.length_nil, List.replicate_succ, List.replicate_zero, List.getElem?_cons_zero, List.getElem?_cons_succ, List.getElem?_nil, List.set_cons_zero, List.set_cons_succ, Option.map_some, Option.map_none, if_true, if_false, reduceIte, decide_true, decide_false, Nat.reduceAdd, Nat.reduceLeDiff, List.mem_cons, List.mem_singleton, true_or, or_true, true_and, and_true, bne_self_eq_false, Bool.not_true, Bool.not_false, reduceCtorEq, Nat.reduceEqDiff, beq_self_eq_true, Nat.reduceLT, Int.reduceLT, Int.reduceLE, Int.reduceToNat, Int.reduceAdd, Int.reduceSub, Int.reduceMul, Int.reduceNeg, String.reduceEq, String.reduceBEq, List.lookup_cons, List.lookup_nil, Mi.big, Mi.putF, List.length_append, List.append_assoc, ite_true, ite_false, Bool.false_eq_true, and_self, not_true_eq_false, not_false_eq_true, Sum.inr.injEq, Sum.inl.injEq, Mi.look, Mi.put, List.any_cons, List.any_nil, Bool.or_true, Bool.or_false, Bool.true_or, Bool.false_or, List.find?_cons, Option.getD_some, Option.getD_none, Bool.bne_false, Bool.false_bne, Bool.true_bne, Bool.bne_true, Int.reduceEq, Int.reducePow, -Mi.bEq, m_law_group_told, b_law_group_told, e0, e1, e2, e3, e3', e4, e5, e6, e7, g3, g4, g5, c1, c2, c3]
    · simp only [Mi.bnd, Mi.mVar, Mi.mC, Mi.mkL, Mi.m2, Mi.m1, Mi.uNeg, Mi.bAdd, Mi.bSub, Mi.bDiv, Mi.bMod, Mi.bPow, Mi.sEq, Mi.bEq, Mi.bCmp, Mi.bLt, Mi.bLe, Mi.bGt, Mi.bGe, Mi.isNon, Mi.mIsN, Mi.mChain, Mi.mAnd, Mi.mOr, Mi.mNot, Mi.mTb, Mi.mTand, Mi.mTor, Mi.mTnot, Mi.mIf, Mi.mNil, Mi.mCons, Mi.mTup, Mi.mLst, Mi.mB, Mi.kOf, Mi.mFld, Mi.mCall, Mi.mCallK, Mi.mMeth, Mi.mMethK, Mi.mDef, Mi.fInt, Mi.fMax, Mi.fMin, Mi.isI, Mi.mIsI, Ms.mIsC, Mi.gNm, Mi.gNil, Mi.gCons, Mi.gTup, Mi.mSeq, Mi.mSkip, Mi.mBrk, Mi.mCont, Mi.mAsg, Mi.mPar, Mi.mExpr, Mi.mRet, Mi.mRetN, Mi.mIfS, Mi.tYes, Mi.wipe, Ms.mDct0, Ms.bAddI, List.map_cons, List.map_nil, List.nil_append, List.cons_append, List.length_cons, List.length_nil, List.replicate_succ, List.replicate_zero, List.getElem?_cons_zero, List.getElem?_cons_succ, List.getElem?_nil, List.set_cons_zero, List.set_cons_succ, Option.map_some, Option.map_none, if_true, if_false, reduceIte, decide_true, decide_false, Nat.reduceAdd, Nat.reduceLeDiff, List.mem_cons, List.mem_singleton, true_or, or_true, true_and, and_true, bne_self_eq_false, Bool.not_true, Bool.not_false, reduceCtorEq, Nat.reduceEqDiff, beq_self_eq_true, Nat.reduceLT, Int.reduceLT, Int.reduceLE, Int.reduceToNat, Int.reduceAdd, Int.reduceSub, Int.reduceMul, Int.reduceNeg, String.reduceEq, String.reduceBEq, List.lookup_cons, List.lookup_nil, Mi.big, Mi.putF, List.length_append, List.append_assoc, ite_true, ite_false, Bool.false_eq_true, and_self, not_true_eq_false, not_false_eq_true, Sum.inr.injEq, Sum.inl.injEq, Mi.look, Mi.put, List.any_cons, List.any_nil, Bool.or_true, Bool.or_false, Bool.true_or, Bool.false_or, List.find?_cons, Option.getD_some, Option.getD_none, Bool.bne_false, Bool.false_bne, Bool.true_bne, Bool.bne_true, Int.reduceEq, Int.reducePow, -Mi.bEq, m_law_group_told, b_law_group_told, e0, e1, e2, e3, e3', e4, e5, e6, e7, g3, g4, g5, c1, c2]
end
end Lw

namespace Lw
open Mi (Dv MO Sto Sl Rs bnd ME MT MA MS MF Fl MG MGs MI)
open Ms (mExtend mPar3 fMaxL mLc2 mLc2Loop gUnL mReprK txt mZipT iEnumT bIn fSorted srt mPopAt fMaxTI fIntB)
open PySem (PyData Str)
section
variable (w0 w1 w2 w3 l : Int) (m q : Nat) (P Q Z : List Int)
abbrev sumW : List Int := w0 :: w1 :: w2 :: w3 :: (m : Int) :: (q : Int) :: (P ++ (Q ++ (Z ++ [l])))
variable (hm : P.length = m) (hq : Q.length = q) (hz : m + q + Z.length = 25)
theorem sumW_len (hm : P.length = m) (hq : Q.length = q) (hz : m + q + Z.length = 25) : (sumW w0 w1 w2 w3 l m q P Q Z).length = 32 := by simp only [List.length_cons, List.length_append, List.length_nil]; omega
theorem cutP (hm : P.length = m) (hq : Q.length = q) (hz : m + q + Z.length = 25) : Mi.cut ((sumW w0 w1 w2 w3 l m q P Q Z).map Dv.int) (some 6) (some (6 + (m : Int))) = P.map Dv.int := by
  have hl := sumW_len w0 w1 w2 w3 l m q P Q Z hm hq hz
  have := cut_mid ((sumW w0 w1 w2 w3 l m q P Q Z).map Dv.int) 6 (6 + m) (by omega) (by rw [List.length_map, hl]; omega)
  rw [show ((6 + m : Nat) : Int) = 6 + (m : Int) by omega, ← List.map_drop, ← List.map_take, show 6 + m - 6 = m by omega] at this
  refine this.trans ?_
  show ((P ++ (Q ++ (Z ++ [l]))).take m).map Dv.int = _
  rw [List.take_left' hm]
theorem cutQ (hm : P.length = m) (hq : Q.length = q) (hz : m + q + Z.length = 25) : Mi.cut ((sumW w0 w1 w2 w3 l m q P Q Z).map Dv.int) (some (6 + (m : Int))) (some (6 + (m : Int) + (q : Int))) = Q.map Dv.int := by
  have hl := sumW_len w0 w1 w2 w3 l m q P Q Z hm hq hz
  have := cut_mid ((sumW w0 w1 w2 w3 l m q P Q Z).map Dv.int) (6 + m) (6 + m + q) (by omega) (by rw [List.length_map, hl]; omega)
  rw [show ((6 + m : Nat) : Int) = 6 + (m : Int) by omega, show ((6 + m + q : Nat) : Int) = 6 + (m : Int) + q by omega, ← List.map_drop, ← List.map_take, show 6 + m + q - (6 + m) = q by omega] at this
  refine this.trans ?_
  have e : (sumW w0 w1 w2 w3 l m q P Q Z).drop (6 + m) = Q ++ (Z ++ [l]) := by
    rw [show 6 + m = m + 6 by omega]
    show (P ++ (Q ++ (Z ++ [l]))).drop m = _
    rw [List.drop_left' hm]
  rw [e, List.take_left' hq]
theorem cutZ (hm : P.length = m) (hq : Q.length = q) (hz : m + q + Z.length = 25) (hb : m + q ≤ 24) : Mi.cut ((sumW w0 w1 w2 w3 l m q P Q Z).map Dv.int) (some (6 + (m : Int) + (q : Int))) (some 31) = Z.map Dv.int := by
  have hl := sumW_len w0 w1 w2 w3 l m q P Q Z hm hq hz
  have := cut_mid ((sumW w0 w1 w2 w3 l m q P Q Z).map Dv.int) (6 + m + q) 31 (by omega) (by rw [List.length_map, hl]; omega)
  rw [show ((6 + m + q : Nat) : Int) = 6 + (m : Int) + q by omega, ← List.map_drop, ← List.map_take, show 31 - (6 + m + q) = Z.length by omega] at this
  refine this.trans ?_
  have e : (sumW w0 w1 w2 w3 l m q P Q Z).drop (6 + m + q) = Z ++ [l] := by
    rw [show 6 + m + q = (m + q) + 6 by omega]
    show (P ++ (Q ++ (Z ++ [l]))).drop (m + q) = _
    rw [← List.append_assoc, List.drop_left' (by rw [List.length_append]; omega)]
  rw [e, List.take_left' rfl]
end
section
variable {s k : Int}
theorem law_group (w0 w2 w3 : Int) (m q : Nat) (P Q Z : List Int) (hm : P.length = m) (hq : Q.length = q) (hz : m + q + Z.length = 25) (h0 : w0 ≠ 0) (h1 : 1 ≤ m + q ∧ m + q ≤ 24) (h3 : w3 < s) (r : List (List Int)) (h32 : ∀ w ∈ r, w.length = 32) (hr : m + 1 ≤ r.length + 1) (G : Sto) :
    m_law_group_told [szs s k, .fls ((sumW w0 1 w2 w3 w0 m q P Q Z :: r).map T)] G = some (GT s (N' s k) (r.length + 1) w0 w2 w3 m P Q Z (sumW w0 1 w2 w3 w0 m q P Q Z :: r), G) := by
  have hb := sumW_len w0 1 w2 w3 w0 m q P Q Z hm hq hz
  have e0 := law_first (sumW w0 1 w2 w3 w0 m q P Q Z) hb r G
  have e1 : Mi.bSubs (T (sumW w0 1 w2 w3 w0 m q P Q Z)) (.int 0) G = some (.int w0, G) := wAt hb (i := 0) (by decide) G
  have e2 : Mi.bSubs (T (sumW w0 1 w2 w3 w0 m q P Q Z)) (.int 31) G = some (.int w0, G) := by
    have := wAt hb (i := 31) (by decide) G
    have g : (sumW w0 1 w2 w3 w0 m q P Q Z).getD 31 0 = w0 := by
      simp only [List.getD_eq_getElem?_getD]
      have : (sumW w0 1 w2 w3 w0 m q P Q Z) = (w0 :: 1 :: w2 :: w3 :: (m : Int) :: (q : Int) :: (P ++ (Q ++ Z))) ++ [w0] := by simp [List.append_assoc]
      rw [this, List.getElem?_append_right (by simp only [List.length_cons, List.length_append]; omega)]
      have : 31 - (w0 :: 1 :: w2 :: w3 :: (m : Int) :: (q : Int) :: (P ++ (Q ++ Z))).length = 0 := by simp only [List.length_cons, List.length_append]; omega
      rw [this]
      rfl
    rw [g] at this
    exact this
  have e3 : Mi.bSubs (szs s k) (.int 2) G = some (.int (N' s k), G) := rfl
  have e3' : Mi.bSubs (szs s k) (.int 0) G = some (.int s, G) := rfl
  have e6 : Mi.bSubs (T (sumW w0 1 w2 w3 w0 m q P Q Z)) (.int 1) G = some (.int 1, G) := wAt hb (i := 1) (by decide) G
  have e8 : Mi.bSubs (T (sumW w0 1 w2 w3 w0 m q P Q Z)) (.int 2) G = some (.int w2, G) := wAt hb (i := 2) (by decide) G
  have g3 : Mi.bSubs (T (sumW w0 1 w2 w3 w0 m q P Q Z)) (.int 3) G = some (.int w3, G) := wAt hb (i := 3) (by decide) G
  have g4 : Mi.bSubs (T (sumW w0 1 w2 w3 w0 m q P Q Z)) (.int 4) G = some (.int (m : Int), G) := wAt hb (i := 4) (by decide) G
  have g5 : Mi.bSubs (T (sumW w0 1 w2 w3 w0 m q P Q Z)) (.int 5) G = some (.int (q : Int), G) := wAt hb (i := 5) (by decide) G
  have cP := cutP w0 1 w2 w3 w0 m q P Q Z hm hq hz
  have cQ := cutQ w0 1 w2 w3 w0 m q P Q Z hm hq hz
  have cZ := cutZ w0 1 w2 w3 w0 m q P Q Z hm hq hz h1.2
  have lk : Mi.fLen [.fls (T (sumW w0 1 w2 w3 w0 m q P Q Z) :: r.map T)] G = some (.int ((r.length : Int) + 1), G) := by simp [Mi.fLen, Mi.lstOf]
  have h32' : ∀ w ∈ sumW w0 1 w2 w3 w0 m q P Q Z :: r, w.length = 32 := fun w hw => by
    rcases (List.mem_cons.mp hw : _ ∨ _) with rfl | hw
    · exact hb
    · exact h32 w hw
  generalize hW : sumW w0 1 w2 w3 w0 m q P Q Z = W at *
  have a1 : (1 : Int) ≤ (m : Int) + q := by omega
  have a2 : (m : Int) + q ≤ 24 := by omega
  have a3 : ¬ s ≤ w3 := by omega
  have a4 : ¬ (r.length : Int) + 1 < (m : Int) + 1 := by omega
  obtain ⟨y9, kl⟩ := keys_loop (some (szs s k)) (some (.fls (T W :: r.map T))) (some (T W)) (some (.int w0)) (some (.int (m : Int))) (some (.int (q : Int))) none none none none P Q (N' s k) (by omega) (by omega) none G
  have bt := both_test (some (szs s k)) (some (.fls (T W :: r.map T))) (some (T W)) (some (.int (N' s k))) (some (.int w0)) (some (.int (m : Int))) (some (.int (q : Int))) y9 none none none none P Q (by omega) G
  obtain ⟨mx, mz, my⟩ := max_test Z (by omega) G
  have nn := ne_nil (P.filter fun z => decide (z ∈ Q)) G
  rw [← any_in] at nn
  obtain ⟨y10, y11, tl⟩ := told_loop (some (szs s k)) (some (T W)) (some (.int (N' s k))) (some (.int (m : Int))) (some (.int (q : Int))) (some (.tup (P.map Dv.int))) (some (.tup (Q.map Dv.int))) y9 none none w0 (W :: r) h32' G P 0 none none (by rw [List.length_cons]; omega)
  have tl' : qf_law_group_told_2 [some (szs s k), some (.fls (T W :: r.map T)), some (T W), some (.int (N' s k)), some (.int w0), some (.int (m : Int)), some (.int (q : Int)), some (.tup (P.map Dv.int)), some (.tup (Q.map Dv.int)), y9, none, none, none, none] G = some (fRes (fbi w0 (W :: r) P 0), [some (szs s k), some (.fls (T W :: r.map T)), some (T W), some (.int (N' s k)), some (.int w0), some (.int (m : Int)), some (.int (q : Int)), some (.tup (P.map Dv.int)), some (.tup (Q.map Dv.int)), y9, y10, y11, none, none], G) := by
    unfold qf_law_group_told_2 qi_law_group_told_5 Mi.mFor
    simp only [Mi.bnd, Mi.mVar, Mi.mC, Mi.mkL, Mi.m2, Mi.m1, Mi.uNeg, Mi.bAdd, Mi.bSub, Mi.bDiv, Mi.bMod, Mi.bPow, Mi.sEq, Mi.bEq, Mi.bCmp, Mi.bLt, Mi.bLe, Mi.bGt, Mi.bGe, Mi.isNon, Mi.mIsN, Mi.mChain, Mi.mAnd, Mi.mOr, Mi.mNot, Mi.mTb, Mi.mTand, Mi.mTor, Mi.mTnot, Mi.mIf, Mi.mNil, Mi.mCons, Mi.mTup, Mi.mLst, Mi.mB, Mi.kOf, Mi.mFld, Mi.mCall, Mi.mCallK, Mi.mMeth, Mi.mMethK, Mi.mDef, Mi.fInt, Mi.fMax, Mi.fMin, Mi.isI, Mi.mIsI, Ms.mIsC, Mi.gNm, Mi.gNil, Mi.gCons, Mi.gTup, Mi.mSeq, Mi.mSkip, Mi.mBrk, Mi.mCont, Mi.mAsg, Mi.mPar, Mi.mExpr, Mi.mRet, Mi.mRetN, Mi.mIfS, Mi.tYes, Mi.wipe, Ms.mDct0, Ms.bAddI, List.map_cons, List.map_nil, List.nil_append, List.cons_append, List.length_cons, List.length_nil, List.replicate_succ, List.replicate_zero, List.getElem?_cons_zero, List.getElem?_cons_succ, List.getElem?_nil, List.set_cons_zero, List.set_cons_succ, Option.map_some, Option.map_none, if_true, if_false, reduceIte, decide_true, decide_false, Nat.reduceAdd, Nat.reduceLeDiff, List.mem_cons, List.mem_singleton, true_or, or_true, true_and, and_true, bne_self_eq_false, Bool.not_true, Bool.not_false, reduceCtorEq, Nat.reduceEqDiff, beq_self_eq_true, Nat.reduceLT, Int.reduceLT, Int.reduceLE, Int.reduceToNat, Int.reduceAdd, Int.reduceSub, Int.reduceMul, Int.reduceNeg, String.reduceEq, String.reduceBEq, List.lookup_cons, List.lookup_nil, Mi.big, Mi.putF, List.length_append, List.append_assoc, ite_true, ite_false, Bool.false_eq_true, and_self, not_true_eq_false, not_false_eq_true, Sum.inr.injEq, Sum.inl.injEq, Mi.look, Mi.put, List.any_cons, List.any_nil, Bool.or_true, Bool.or_false, Bool.true_or, Bool.false_or, List.find?_cons, Option.getD_some, Option.getD_none, Bool.bne_false, Bool.false_bne, Bool.true_bne, Bool.bne_true, Int.reduceEq, Int.reducePow, iEnumT]
    exact tl
  clear tl
  unfold GT fOk
  rw [decide_eq_true h3]
  cases hk : (kOk (N' s k) P && kOk (N' s k) Q)
  · rw [hk, if_neg (by simp)] at kl
    have f : ¬ (m + 1 ≤ r.length + 1 ∧ (true && kOk (N' s k) P && kOk (N' s k) Q && !(Q.any fun z => decide (z ∈ P)) && !(Z.any fun z => decide (0 < z))) = true) := fun z => by
      have := z.2
      rw [Bool.true_and, hk] at this
      simp at this
    rw [if_neg f]
    simp only [Mi.bnd, Mi.mVar, Mi.mC, Mi.mkL, Mi.m2, Mi.m1, Mi.uNeg, Mi.bAdd, Mi.bSub, Mi.bDiv, Mi.bMod, Mi.bPow, Mi.sEq, Mi.bEq, Mi.bCmp, Mi.bLt, Mi.bLe, Mi.bGt, Mi.bGe, Mi.isNon, Mi.mIsN, Mi.mChain, Mi.mAnd, Mi.mOr, Mi.mNot, Mi.mTb, Mi.mTand, Mi.mTor, Mi.mTnot, Mi.mIf, Mi.mNil, Mi.mCons, Mi.mTup, Mi.mLst, Mi.mB, Mi.kOf, Mi.mFld, Mi.mCall, Mi.mCallK, Mi.mMeth, Mi.mMethK, Mi.mDef, Mi.fInt, Mi.fMax, Mi.fMin, Mi.isI, Mi.mIsI, Ms.mIsC, Mi.gNm, Mi.gNil, Mi.gCons, Mi.gTup, Mi.mSeq, Mi.mSkip, Mi.mBrk, Mi.mCont, Mi.mAsg, Mi.mPar, Mi.mExpr, Mi.mRet, Mi.mRetN, Mi.mIfS, Mi.tYes, Mi.wipe, Ms.mDct0, Ms.bAddI, List.map_cons, List.map_nil, List.nil_append, List.cons_append, List.length_cons, List.length_nil, List.replicate_succ, List.replicate_zero, List.getElem?_cons_zero, List.getElem?_cons_succ, List.getElem?_nil, List.set_cons_zero, List.set_cons_succ, Option.map_some, Option.map_none, if_true, if_false, reduceIte, decide_true, decide_false, Nat.reduceAdd, Nat.reduceLeDiff, List.mem_cons, List.mem_singleton, true_or, or_true, true_and, and_true, bne_self_eq_false, Bool.not_true, Bool.not_false, reduceCtorEq, Nat.reduceEqDiff, beq_self_eq_true, Nat.reduceLT, Int.reduceLT, Int.reduceLE, Int.reduceToNat, Int.reduceAdd, Int.reduceSub, Int.reduceMul, Int.reduceNeg, String.reduceEq, String.reduceBEq, List.lookup_cons, List.lookup_nil, Mi.big, Mi.putF, List.length_append, List.append_assoc, ite_true, ite_false, Bool.false_eq_true, and_self, not_true_eq_false, not_false_eq_true, Sum.inr.injEq, Sum.inl.injEq, Mi.look, Mi.put, List.any_cons, List.any_nil, Bool.or_true, Bool.or_false, Bool.true_or, Bool.false_or, List.find?_cons, Option.getD_some, Option.getD_none, Bool.bne_false, Bool.false_bne, Bool.true_bne, Bool.bne_true, Int.reduceEq, Int.reducePow, -Mi.bEq, neI, eqI, m_law_group_told, b_law_group_told, e0, e1, e2, e3, e3', e6, g3, g4, g5, h0, a1, a2, a3, a4, lk, Mi.mSlice, Mi.mO, cP, cQ, kl]
  · rw [hk, if_pos rfl] at kl
    cases hy : Q.any fun z => decide (z ∈ P)
    · rw [hy] at nn
      cases hx : Z.any fun z => decide (0 < z)
      · rw [hx] at my
        rw [if_pos ⟨hr, by rw [Bool.true_and, hk]; rfl⟩]
        cases hf : fbi w0 (W :: r) P 0 with
        | none =>
          rw [hf] at tl'
          simp only [Mi.bnd, Mi.mVar, Mi.mC, Mi.mkL, Mi.m2, Mi.m1, Mi.uNeg, Mi.bAdd, Mi.bSub, Mi.bDiv, Mi.bMod, Mi.bPow, Mi.sEq, Mi.bEq, Mi.bCmp, Mi.bLt, Mi.bLe, Mi.bGt, Mi.bGe, Mi.isNon, Mi.mIsN, Mi.mChain, Mi.mAnd, Mi.mOr, Mi.mNot, Mi.mTb, Mi.mTand, Mi.mTor, Mi.mTnot, Mi.mIf, Mi.mNil, Mi.mCons, Mi.mTup, Mi.mLst, Mi.mB, Mi.kOf, Mi.mFld, Mi.mCall, Mi.mCallK, Mi.mMeth, Mi.mMethK, Mi.mDef, Mi.fInt, Mi.fMax, Mi.fMin, Mi.isI, Mi.mIsI, Ms.mIsC, Mi.gNm, Mi.gNil, Mi.gCons, Mi.gTup, Mi.mSeq, Mi.mSkip, Mi.mBrk, Mi.mCont, Mi.mAsg, Mi.mPar, Mi.mExpr, Mi.mRet, Mi.mRetN, Mi.mIfS, Mi.tYes, Mi.wipe, Ms.mDct0, Ms.bAddI, List.map_cons, List.map_nil, List.nil_append, List.cons_append, List.length_cons, List.length_nil, List.replicate_succ, List.replicate_zero, List.getElem?_cons_zero, List.getElem?_cons_succ, List.getElem?_nil, List.set_cons_zero, List.set_cons_succ, Option.map_some, Option.map_none, if_true, if_false, reduceIte, decide_true, decide_false, Nat.reduceAdd, Nat.reduceLeDiff, List.mem_cons, List.mem_singleton, true_or, or_true, true_and, and_true, bne_self_eq_false, Bool.not_true, Bool.not_false, reduceCtorEq, Nat.reduceEqDiff, beq_self_eq_true, Nat.reduceLT, Int.reduceLT, Int.reduceLE, Int.reduceToNat, Int.reduceAdd, Int.reduceSub, Int.reduceMul, Int.reduceNeg, String.reduceEq, String.reduceBEq, List.lookup_cons, List.lookup_nil, Mi.big, Mi.putF, List.length_append, List.append_assoc, ite_true, ite_false, Bool.false_eq_true, and_self, not_true_eq_false, not_false_eq_true, Sum.inr.injEq, Sum.inl.injEq, Mi.look, Mi.put, List.any_cons, List.any_nil, Bool.or_true, Bool.or_false, Bool.true_or, Bool.false_or, List.find?_cons, Option.getD_some, Option.getD_none, Bool.bne_false, Bool.false_bne, Bool.true_bne, Bool.bne_true, Int.reduceEq, Int.reducePow, -Mi.bEq, neI, eqI, m_law_group_told, b_law_group_told, e0, e1, e2, e3, e3', e6, e8, g3, g4, g5, h0, a1, a2, a3, a4, lk, Mi.mSlice, Mi.mO, cP, cQ, kl, bt, nn, cZ, mz, my, tl', fRes]
        | some i =>
          rw [hf] at tl'
          simp only [Mi.bnd, Mi.mVar, Mi.mC, Mi.mkL, Mi.m2, Mi.m1, Mi.uNeg, Mi.bAdd, Mi.bSub, Mi.bDiv, Mi.bMod, Mi.bPow, Mi.sEq, Mi.bEq, Mi.bCmp, Mi.bLt, Mi.bLe, Mi.bGt, Mi.bGe, Mi.isNon, Mi.mIsN, Mi.mChain, Mi.mAnd, Mi.mOr, Mi.mNot, Mi.mTb, Mi.mTand, Mi.mTor, Mi.mTnot, Mi.mIf, Mi.mNil, Mi.mCons, Mi.mTup, Mi.mLst, Mi.mB, Mi.kOf, Mi.mFld, Mi.mCall, Mi.mCallK, Mi.mMeth, Mi.mMethK, Mi.mDef, Mi.fInt, Mi.fMax, Mi.fMin, Mi.isI, Mi.mIsI, Ms.mIsC, Mi.gNm, Mi.gNil, Mi.gCons, Mi.gTup, Mi.mSeq, Mi.mSkip, Mi.mBrk, Mi.mCont, Mi.mAsg, Mi.mPar, Mi.mExpr, Mi.mRet, Mi.mRetN, Mi.mIfS, Mi.tYes, Mi.wipe, Ms.mDct0, Ms.bAddI, List.map_cons, List.map_nil, List.nil_append, List.cons_append, List.length_cons, List.length_nil, List.replicate_succ, List.replicate_zero, List.getElem?_cons_zero, List.getElem?_cons_succ, List.getElem?_nil, List.set_cons_zero, List.set_cons_succ, Option.map_some, Option.map_none, if_true, if_false, reduceIte, decide_true, decide_false, Nat.reduceAdd, Nat.reduceLeDiff, List.mem_cons, List.mem_singleton, true_or, or_true, true_and, and_true, bne_self_eq_false, Bool.not_true, Bool.not_false, reduceCtorEq, Nat.reduceEqDiff, beq_self_eq_true, Nat.reduceLT, Int.reduceLT, Int.reduceLE, Int.reduceToNat, Int.reduceAdd, Int.reduceSub, Int.reduceMul, Int.reduceNeg, String.reduceEq, String.reduceBEq, List.lookup_cons, List.lookup_nil, Mi.big, Mi.putF, List.length_append, List.append_assoc, ite_true, ite_false, Bool.false_eq_true, and_self, not_true_eq_false, not_false_eq_true, Sum.inr.injEq, Sum.inl.injEq, Mi.look, Mi.put, List.any_cons, List.any_nil, Bool.or_true, Bool.or_false, Bool.true_or, Bool.false_or, List.find?_cons, Option.getD_some, Option.getD_none, Bool.bne_false, Bool.false_bne, Bool.true_bne, Bool.bne_true, Int.reduceEq, Int.reducePow, -Mi.bEq, neI, eqI, m_law_group_told, b_law_group_told, e0, e1, e2, e3, e3', e6, e8, g3, g4, g5, h0, a1, a2, a3, a4, lk, Mi.mSlice, Mi.mO, cP, cQ, kl, bt, nn, cZ, mz, my, tl', fRes]
      · rw [hx] at my
        rw [if_neg (fun z => by have := z.2; simp at this)]
        simp only [Mi.bnd, Mi.mVar, Mi.mC, Mi.mkL, Mi.m2, Mi.m1, Mi.uNeg, Mi.bAdd, Mi.bSub, Mi.bDiv, Mi.bMod, Mi.bPow, Mi.sEq, Mi.bEq, Mi.bCmp, Mi.bLt, Mi.bLe, Mi.bGt, Mi.bGe, Mi.isNon, Mi.mIsN, Mi.mChain, Mi.mAnd, Mi.mOr, Mi.mNot, Mi.mTb, Mi.mTand, Mi.mTor, Mi.mTnot, Mi.mIf, Mi.mNil, Mi.mCons, Mi.mTup, Mi.mLst, Mi.mB, Mi.kOf, Mi.mFld, Mi.mCall, Mi.mCallK, Mi.mMeth, Mi.mMethK, Mi.mDef, Mi.fInt, Mi.fMax, Mi.fMin, Mi.isI, Mi.mIsI, Ms.mIsC, Mi.gNm, Mi.gNil, Mi.gCons, Mi.gTup, Mi.mSeq, Mi.mSkip, Mi.mBrk, Mi.mCont, Mi.mAsg, Mi.mPar, Mi.mExpr, Mi.mRet, Mi.mRetN, Mi.mIfS, Mi.tYes, Mi.wipe, Ms.mDct0, Ms.bAddI, List.map_cons, List.map_nil, List.nil_append, List.cons_append, List.length_cons, List.length_nil, List.replicate_succ, List.replicate_zero, List.getElem?_cons_zero, List.getElem?_cons_succ, List.getElem?_nil, List.set_cons_zero, List.set_cons_succ, Option.map_some, Option.map_none, if_true, if_false, reduceIte, decide_true, decide_false, Nat.reduceAdd, Nat.reduceLeDiff, List.mem_cons, List.mem_singleton, true_or, or_true, true_and, and_true, bne_self_eq_false, Bool.not_true, Bool.not_false, reduceCtorEq, Nat.reduceEqDiff, beq_self_eq_true, Nat.reduceLT, Int.reduceLT, Int.reduceLE, Int.reduceToNat, Int.reduceAdd, Int.reduceSub, Int.reduceMul, Int.reduceNeg, String.reduceEq, String.reduceBEq, List.lookup_cons, List.lookup_nil, Mi.big, Mi.putF, List.length_append, List.append_assoc, ite_true, ite_false, Bool.false_eq_true, and_self, not_true_eq_false, not_false_eq_true, Sum.inr.injEq, Sum.inl.injEq, Mi.look, Mi.put, List.any_cons, List.any_nil, Bool.or_true, Bool.or_false, Bool.true_or, Bool.false_or, List.find?_cons, Option.getD_some, Option.getD_none, Bool.bne_false, Bool.false_bne, Bool.true_bne, Bool.bne_true, Int.reduceEq, Int.reducePow, -Mi.bEq, neI, eqI, m_law_group_told, b_law_group_told, e0, e1, e2, e3, e3', e6, e8, g3, g4, g5, h0, a1, a2, a3, a4, lk, Mi.mSlice, Mi.mO, cP, cQ, kl, bt, nn, cZ, mz, my]
    · rw [hy] at nn
      rw [if_neg (fun z => by have := z.2; simp at this)]
      simp only [Mi.bnd, Mi.mVar, Mi.mC, Mi.mkL, Mi.m2, Mi.m1, Mi.uNeg, Mi.bAdd, Mi.bSub, Mi.bDiv, Mi.bMod, Mi.bPow, Mi.sEq, Mi.bEq, Mi.bCmp, Mi.bLt, Mi.bLe, Mi.bGt, Mi.bGe, Mi.isNon, Mi.mIsN, Mi.mChain, Mi.mAnd, Mi.mOr, Mi.mNot, Mi.mTb, Mi.mTand, Mi.mTor, Mi.mTnot, Mi.mIf, Mi.mNil, Mi.mCons, Mi.mTup, Mi.mLst, Mi.mB, Mi.kOf, Mi.mFld, Mi.mCall, Mi.mCallK, Mi.mMeth, Mi.mMethK, Mi.mDef, Mi.fInt, Mi.fMax, Mi.fMin, Mi.isI, Mi.mIsI, Ms.mIsC, Mi.gNm, Mi.gNil, Mi.gCons, Mi.gTup, Mi.mSeq, Mi.mSkip, Mi.mBrk, Mi.mCont, Mi.mAsg, Mi.mPar, Mi.mExpr, Mi.mRet, Mi.mRetN, Mi.mIfS, Mi.tYes, Mi.wipe, Ms.mDct0, Ms.bAddI, List.map_cons, List.map_nil, List.nil_append, List.cons_append, List.length_cons, List.length_nil, List.replicate_succ, List.replicate_zero, List.getElem?_cons_zero, List.getElem?_cons_succ, List.getElem?_nil, List.set_cons_zero, List.set_cons_succ, Option.map_some, Option.map_none, if_true, if_false, reduceIte, decide_true, decide_false, Nat.reduceAdd, Nat.reduceLeDiff, List.mem_cons, List.mem_singleton, true_or, or_true, true_and, and_true, bne_self_eq_false, Bool.not_true, Bool.not_false, reduceCtorEq, Nat.reduceEqDiff, beq_self_eq_true, Nat.reduceLT, Int.reduceLT, Int.reduceLE, Int.reduceToNat, Int.reduceAdd, Int.reduceSub, Int.reduceMul, Int.reduceNeg, String.reduceEq, String.reduceBEq, List.lookup_cons, List.lookup_nil, Mi.big, Mi.putF, List.length_append, List.append_assoc, ite_true, ite_false, Bool.false_eq_true, and_self, not_true_eq_false, not_false_eq_true, Sum.inr.injEq, Sum.inl.injEq, Mi.look, Mi.put, List.any_cons, List.any_nil, Bool.or_true, Bool.or_false, Bool.true_or, Bool.false_or, List.find?_cons, Option.getD_some, Option.getD_none, Bool.bne_false, Bool.false_bne, Bool.true_bne, Bool.bne_true, Int.reduceEq, Int.reducePow, -Mi.bEq, neI, eqI, m_law_group_told, b_law_group_told, e0, e1, e2, e3, e3', e6, e8, g3, g4, g5, h0, a1, a2, a3, a4, lk, Mi.mSlice, Mi.mO, cP, cQ, kl, bt, nn]
end
section
variable {G : Sto} {h hb hq hn : Nat} {s k : Int} {bl qu : List Dv} {nw : List (Mi.Key × Dv)}
theorem group_torn (D : Dsk G h hb hq hn s k bl qu nw) (b1 : 6 ≤ s ∧ s ≤ 40) (b2 : 4 ≤ k ∧ k ≤ 24) (g o : Int) {b : List Int} (hb32 : b.length = 32) (hrd : m_Disk_read [.ref h, .int (2 * R' s k + g * k + o)] G = some (T b, G)) (hh : ¬ (b.getD 31 0 = b.getD 0 0 ∧ b.getD 0 0 ≠ 0)) : m_group_at [.ref h, .int g, .int o] G = some (.tup [.str "torn"], G) := by
  have p := place_raw_ok D g o b1 b2
  have e1 : Mi.bSubs (T b) (.int 0) G = some (.int (b.getD 0 0), G) := wAt hb32 (i := 0) (by decide) G
  have e2 := wLast hb32 G
  have ob := D.ob
  by_cases h1 : b.getD 0 0 = 0
  · simp only [Mi.bnd, Mi.mVar, Mi.mC, Mi.mkL, Mi.m2, Mi.m1, Mi.uNeg, Mi.bAdd, Mi.bSub, Mi.bDiv, Mi.bMod, Mi.bPow, Mi.sEq, Mi.bEq, Mi.bCmp, Mi.bLt, Mi.bLe, Mi.bGt, Mi.bGe, Mi.isNon, Mi.mIsN, Mi.mChain, Mi.mAnd, Mi.mOr, Mi.mNot, Mi.mTb, Mi.mTand, Mi.mTor, Mi.mTnot, Mi.mIf, Mi.mNil, Mi.mCons, Mi.mTup, Mi.mLst, Mi.mB, Mi.kOf, Mi.mFld, Mi.mCall, Mi.mCallK, Mi.mMeth, Mi.mMethK, Mi.mDef, Mi.fInt, Mi.fMax, Mi.fMin, Mi.isI, Mi.mIsI, Ms.mIsC, Mi.gNm, Mi.gNil, Mi.gCons, Mi.gTup, Mi.mSeq, Mi.mSkip, Mi.mBrk, Mi.mCont, Mi.mAsg, Mi.mPar, Mi.mExpr, Mi.mRet, Mi.mRetN, Mi.mIfS, Mi.tYes, Mi.wipe, Ms.mDct0, Ms.bAddI, List.map_cons, List.map_nil, List.nil_append, List.cons_append, List.length_cons, List.length_nil, List.replicate_succ, List.replicate_zero, List.getElem?_cons_zero, List.getElem?_cons_succ, List.getElem?_nil, List.set_cons_zero, List.set_cons_succ, Option.map_some, Option.map_none, if_true, if_false, reduceIte, decide_true, decide_false, Nat.reduceAdd, Nat.reduceLeDiff, List.mem_cons, List.mem_singleton, true_or, or_true, true_and, and_true, bne_self_eq_false, Bool.not_true, Bool.not_false, reduceCtorEq, Nat.reduceEqDiff, beq_self_eq_true, Nat.reduceLT, Int.reduceLT, Int.reduceLE, Int.reduceToNat, Int.reduceAdd, Int.reduceSub, Int.reduceMul, Int.reduceNeg, String.reduceEq, String.reduceBEq, List.lookup_cons, List.lookup_nil, Mi.big, Mi.putF, List.length_append, List.append_assoc, ite_true, ite_false, Bool.false_eq_true, and_self, not_true_eq_false, not_false_eq_true, Sum.inr.injEq, Sum.inl.injEq, Mi.look, Mi.put, List.any_cons, List.any_nil, Bool.or_true, Bool.or_false, Bool.true_or, Bool.false_or, List.find?_cons, Option.getD_some, Option.getD_none, Bool.bne_false, Bool.false_bne, Bool.true_bne, Bool.bne_true, Int.reduceEq, Int.reducePow, m_group_at, b_group_at, ob, dfs, p, hrd, e1, h1]
  · have h2 : ¬ b.getD 31 0 = b.getD 0 0 := fun z => hh ⟨z, h1⟩
    simp only [Mi.bnd, Mi.mVar, Mi.mC, Mi.mkL, Mi.m2, Mi.m1, Mi.uNeg, Mi.bAdd, Mi.bSub, Mi.bDiv, Mi.bMod, Mi.bPow, Mi.sEq, Mi.bEq, Mi.bCmp, Mi.bLt, Mi.bLe, Mi.bGt, Mi.bGe, Mi.isNon, Mi.mIsN, Mi.mChain, Mi.mAnd, Mi.mOr, Mi.mNot, Mi.mTb, Mi.mTand, Mi.mTor, Mi.mTnot, Mi.mIf, Mi.mNil, Mi.mCons, Mi.mTup, Mi.mLst, Mi.mB, Mi.kOf, Mi.mFld, Mi.mCall, Mi.mCallK, Mi.mMeth, Mi.mMethK, Mi.mDef, Mi.fInt, Mi.fMax, Mi.fMin, Mi.isI, Mi.mIsI, Ms.mIsC, Mi.gNm, Mi.gNil, Mi.gCons, Mi.gTup, Mi.mSeq, Mi.mSkip, Mi.mBrk, Mi.mCont, Mi.mAsg, Mi.mPar, Mi.mExpr, Mi.mRet, Mi.mRetN, Mi.mIfS, Mi.tYes, Mi.wipe, Ms.mDct0, Ms.bAddI, List.map_cons, List.map_nil, List.nil_append, List.cons_append, List.length_cons, List.length_nil, List.replicate_succ, List.replicate_zero, List.getElem?_cons_zero, List.getElem?_cons_succ, List.getElem?_nil, List.set_cons_zero, List.set_cons_succ, Option.map_some, Option.map_none, if_true, if_false, reduceIte, decide_true, decide_false, Nat.reduceAdd, Nat.reduceLeDiff, List.mem_cons, List.mem_singleton, true_or, or_true, true_and, and_true, bne_self_eq_false, Bool.not_true, Bool.not_false, reduceCtorEq, Nat.reduceEqDiff, beq_self_eq_true, Nat.reduceLT, Int.reduceLT, Int.reduceLE, Int.reduceToNat, Int.reduceAdd, Int.reduceSub, Int.reduceMul, Int.reduceNeg, String.reduceEq, String.reduceBEq, List.lookup_cons, List.lookup_nil, Mi.big, Mi.putF, List.length_append, List.append_assoc, ite_true, ite_false, Bool.false_eq_true, and_self, not_true_eq_false, not_false_eq_true, Sum.inr.injEq, Sum.inl.injEq, Mi.look, Mi.put, List.any_cons, List.any_nil, Bool.or_true, Bool.or_false, Bool.true_or, Bool.false_or, List.find?_cons, Option.getD_some, Option.getD_none, Bool.bne_false, Bool.false_bne, Bool.true_bne, Bool.bne_true, Int.reduceEq, Int.reducePow, m_group_at, b_group_at, ob, dfs, p, hrd, e1, h1, e2, h2]
theorem group_kind (D : Dsk G h hb hq hn s k bl qu nw) (b1 : 6 ≤ s ∧ s ≤ 40) (b2 : 4 ≤ k ∧ k ≤ 24) (g o : Int) {b : List Int} (hb32 : b.length = 32) (hrd : m_Disk_read [.ref h, .int (2 * R' s k + g * k + o)] G = some (T b, G)) (hh : b.getD 31 0 = b.getD 0 0 ∧ b.getD 0 0 ≠ 0) (h2 : b.getD 1 0 ≠ 1) : m_group_at [.ref h, .int g, .int o] G = some (.tup [.str "kind"], G) := by
  have p := place_raw_ok D g o b1 b2
  have e1 : Mi.bSubs (T b) (.int 0) G = some (.int (b.getD 0 0), G) := wAt hb32 (i := 0) (by decide) G
  have e2 := wLast hb32 G
  have e3 : Mi.bSubs (T b) (.int 1) G = some (.int (b.getD 1 0), G) := wAt hb32 (i := 1) (by decide) G
  have ob := D.ob
  obtain ⟨ha, hc⟩ := hh
  simp only [Mi.bnd, Mi.mVar, Mi.mC, Mi.mkL, Mi.m2, Mi.m1, Mi.uNeg, Mi.bAdd, Mi.bSub, Mi.bDiv, Mi.bMod, Mi.bPow, Mi.sEq, Mi.bEq, Mi.bCmp, Mi.bLt, Mi.bLe, Mi.bGt, Mi.bGe, Mi.isNon, Mi.mIsN, Mi.mChain, Mi.mAnd, Mi.mOr, Mi.mNot, Mi.mTb, Mi.mTand, Mi.mTor, Mi.mTnot, Mi.mIf, Mi.mNil, Mi.mCons, Mi.mTup, Mi.mLst, Mi.mB, Mi.kOf, Mi.mFld, Mi.mCall, Mi.mCallK, Mi.mMeth, Mi.mMethK, Mi.mDef, Mi.fInt, Mi.fMax, Mi.fMin, Mi.isI, Mi.mIsI, Ms.mIsC, Mi.gNm, Mi.gNil, Mi.gCons, Mi.gTup, Mi.mSeq, Mi.mSkip, Mi.mBrk, Mi.mCont, Mi.mAsg, Mi.mPar, Mi.mExpr, Mi.mRet, Mi.mRetN, Mi.mIfS, Mi.tYes, Mi.wipe, Ms.mDct0, Ms.bAddI, List.map_cons, List.map_nil, List.nil_append, List.cons_append, List.length_cons, List.length_nil, List.replicate_succ, List.replicate_zero, List.getElem?_cons_zero, List.getElem?_cons_succ, List.getElem?_nil, List.set_cons_zero, List.set_cons_succ, Option.map_some, Option.map_none, if_true, if_false, reduceIte, decide_true, decide_false, Nat.reduceAdd, Nat.reduceLeDiff, List.mem_cons, List.mem_singleton, true_or, or_true, true_and, and_true, bne_self_eq_false, Bool.not_true, Bool.not_false, reduceCtorEq, Nat.reduceEqDiff, beq_self_eq_true, Nat.reduceLT, Int.reduceLT, Int.reduceLE, Int.reduceToNat, Int.reduceAdd, Int.reduceSub, Int.reduceMul, Int.reduceNeg, String.reduceEq, String.reduceBEq, List.lookup_cons, List.lookup_nil, Mi.big, Mi.putF, List.length_append, List.append_assoc, ite_true, ite_false, Bool.false_eq_true, and_self, not_true_eq_false, not_false_eq_true, Sum.inr.injEq, Sum.inl.injEq, Mi.look, Mi.put, List.any_cons, List.any_nil, Bool.or_true, Bool.or_false, Bool.true_or, Bool.false_or, List.find?_cons, Option.getD_some, Option.getD_none, Bool.bne_false, Bool.false_bne, Bool.true_bne, Bool.bne_true, Int.reduceEq, Int.reducePow, m_group_at, b_group_at, ob, dfs, p, hrd, e1, hc, e2, ha, e3, h2]
theorem group_form (D : Dsk G h hb hq hn s k bl qu nw) (b1 : 6 ≤ s ∧ s ≤ 40) (b2 : 4 ≤ k ∧ k ≤ 24) (g o : Int) {b : List Int} (hb32 : b.length = 32) (hrd : m_Disk_read [.ref h, .int (2 * R' s k + g * k + o)] G = some (T b, G)) (hh : b.getD 31 0 = b.getD 0 0 ∧ b.getD 0 0 ≠ 0) (h2 : b.getD 1 0 = 1) (ht : m_told_by [.ref h, .int o, T b] G = some (.non, G)) : m_group_at [.ref h, .int g, .int o] G = some (.tup [.str "form"], G) := by
  have p := place_raw_ok D g o b1 b2
  have e1 : Mi.bSubs (T b) (.int 0) G = some (.int (b.getD 0 0), G) := wAt hb32 (i := 0) (by decide) G
  have e2 := wLast hb32 G
  have e3 : Mi.bSubs (T b) (.int 1) G = some (.int (b.getD 1 0), G) := wAt hb32 (i := 1) (by decide) G
  have ob := D.ob
  obtain ⟨ha, hc⟩ := hh
  simp only [Mi.bnd, Mi.mVar, Mi.mC, Mi.mkL, Mi.m2, Mi.m1, Mi.uNeg, Mi.bAdd, Mi.bSub, Mi.bDiv, Mi.bMod, Mi.bPow, Mi.sEq, Mi.bEq, Mi.bCmp, Mi.bLt, Mi.bLe, Mi.bGt, Mi.bGe, Mi.isNon, Mi.mIsN, Mi.mChain, Mi.mAnd, Mi.mOr, Mi.mNot, Mi.mTb, Mi.mTand, Mi.mTor, Mi.mTnot, Mi.mIf, Mi.mNil, Mi.mCons, Mi.mTup, Mi.mLst, Mi.mB, Mi.kOf, Mi.mFld, Mi.mCall, Mi.mCallK, Mi.mMeth, Mi.mMethK, Mi.mDef, Mi.fInt, Mi.fMax, Mi.fMin, Mi.isI, Mi.mIsI, Ms.mIsC, Mi.gNm, Mi.gNil, Mi.gCons, Mi.gTup, Mi.mSeq, Mi.mSkip, Mi.mBrk, Mi.mCont, Mi.mAsg, Mi.mPar, Mi.mExpr, Mi.mRet, Mi.mRetN, Mi.mIfS, Mi.tYes, Mi.wipe, Ms.mDct0, Ms.bAddI, List.map_cons, List.map_nil, List.nil_append, List.cons_append, List.length_cons, List.length_nil, List.replicate_succ, List.replicate_zero, List.getElem?_cons_zero, List.getElem?_cons_succ, List.getElem?_nil, List.set_cons_zero, List.set_cons_succ, Option.map_some, Option.map_none, if_true, if_false, reduceIte, decide_true, decide_false, Nat.reduceAdd, Nat.reduceLeDiff, List.mem_cons, List.mem_singleton, true_or, or_true, true_and, and_true, bne_self_eq_false, Bool.not_true, Bool.not_false, reduceCtorEq, Nat.reduceEqDiff, beq_self_eq_true, Nat.reduceLT, Int.reduceLT, Int.reduceLE, Int.reduceToNat, Int.reduceAdd, Int.reduceSub, Int.reduceMul, Int.reduceNeg, String.reduceEq, String.reduceBEq, List.lookup_cons, List.lookup_nil, Mi.big, Mi.putF, List.length_append, List.append_assoc, ite_true, ite_false, Bool.false_eq_true, and_self, not_true_eq_false, not_false_eq_true, Sum.inr.injEq, Sum.inl.injEq, Mi.look, Mi.put, List.any_cons, List.any_nil, Bool.or_true, Bool.or_false, Bool.true_or, Bool.false_or, List.find?_cons, Option.getD_some, Option.getD_none, Bool.bne_false, Bool.false_bne, Bool.true_bne, Bool.bne_true, Int.reduceEq, Int.reducePow, m_group_at, b_group_at, ob, dfs, p, hrd, e1, hc, e2, ha, e3, h2, ht]
theorem told_out (w : List Int) (hw : w.length = 32) (o : Int) (hh : ¬ (1 ≤ w.getD 4 0 + w.getD 5 0 ∧ w.getD 4 0 + w.getD 5 0 ≤ 24)) : m_told_by [.ref h, .int o, T w] G = some (.non, G) := by
  obtain ⟨a, b, c, d, e, f, r, rfl, lr⟩ := w6 hw
  have c1 : Mi.cut ((a :: b :: c :: d :: e :: f :: r).map Dv.int) (some 2) (some 6) = [.int c, .int d, .int e, .int f] := cut_mid _ 2 6 (by decide) (by rw [List.length_map, hw]; decide)
  have hh' : ¬ (1 ≤ e + f ∧ e + f ≤ 24) := hh
  generalize (a :: b :: c :: d :: e :: f :: r) = W at c1 ⊢
  by_cases a1 : (1 : Int) ≤ e + f
  · have a2 : ¬ e + f ≤ 24 := fun z => hh' ⟨a1, z⟩
    simp only [Mi.bnd, Mi.mVar, Mi.mC, Mi.mkL, Mi.m2, Mi.m1, Mi.uNeg, Mi.bAdd, Mi.bSub, Mi.bDiv, Mi.bMod, Mi.bPow, Mi.sEq, Mi.bEq, Mi.bCmp, Mi.bLt, Mi.bLe, Mi.bGt, Mi.bGe, Mi.isNon, Mi.mIsN, Mi.mChain, Mi.mAnd, Mi.mOr, Mi.mNot, Mi.mTb, Mi.mTand, Mi.mTor, Mi.mTnot, Mi.mIf, Mi.mNil, Mi.mCons, Mi.mTup, Mi.mLst, Mi.mB, Mi.kOf, Mi.mFld, Mi.mCall, Mi.mCallK, Mi.mMeth, Mi.mMethK, Mi.mDef, Mi.fInt, Mi.fMax, Mi.fMin, Mi.isI, Mi.mIsI, Ms.mIsC, Mi.gNm, Mi.gNil, Mi.gCons, Mi.gTup, Mi.mSeq, Mi.mSkip, Mi.mBrk, Mi.mCont, Mi.mAsg, Mi.mPar, Mi.mExpr, Mi.mRet, Mi.mRetN, Mi.mIfS, Mi.tYes, Mi.wipe, Ms.mDct0, Ms.bAddI, List.map_cons, List.map_nil, List.nil_append, List.cons_append, List.length_cons, List.length_nil, List.replicate_succ, List.replicate_zero, List.getElem?_cons_zero, List.getElem?_cons_succ, List.getElem?_nil, List.set_cons_zero, List.set_cons_succ, Option.map_some, Option.map_none, if_true, if_false, reduceIte, decide_true, decide_false, Nat.reduceAdd, Nat.reduceLeDiff, List.mem_cons, List.mem_singleton, true_or, or_true, true_and, and_true, bne_self_eq_false, Bool.not_true, Bool.not_false, reduceCtorEq, Nat.reduceEqDiff, beq_self_eq_true, Nat.reduceLT, Int.reduceLT, Int.reduceLE, Int.reduceToNat, Int.reduceAdd, Int.reduceSub, Int.reduceMul, Int.reduceNeg, String.reduceEq, String.reduceBEq, List.lookup_cons, List.lookup_nil, Mi.big, Mi.putF, List.length_append, List.append_assoc, ite_true, ite_false, Bool.false_eq_true, and_self, not_true_eq_false, not_false_eq_true, Sum.inr.injEq, Sum.inl.injEq, Mi.look, Mi.put, List.any_cons, List.any_nil, Bool.or_true, Bool.or_false, Bool.true_or, Bool.false_or, List.find?_cons, Option.getD_some, Option.getD_none, Bool.bne_false, Bool.false_bne, Bool.true_bne, Bool.bne_true, Int.reduceEq, Int.reducePow, m_told_by, b_told_by, Mi.mSlice, Mi.mO, c1, a1, a2]
  · simp only [Mi.bnd, Mi.mVar, Mi.mC, Mi.mkL, Mi.m2, Mi.m1, Mi.uNeg, Mi.bAdd, Mi.bSub, Mi.bDiv, Mi.bMod, Mi.bPow, Mi.sEq, Mi.bEq, Mi.bCmp, Mi.bLt, Mi.bLe, Mi.bGt, Mi.bGe, Mi.isNon, Mi.mIsN, Mi.mChain, Mi.mAnd, Mi.mOr, Mi.mNot, Mi.mTb, Mi.mTand, Mi.mTor, Mi.mTnot, Mi.mIf, Mi.mNil, Mi.mCons, Mi.mTup, Mi.mLst, Mi.mB, Mi.kOf, Mi.mFld, Mi.mCall, Mi.mCallK, Mi.mMeth, Mi.mMethK, Mi.mDef, Mi.fInt, Mi.fMax, Mi.fMin, Mi.isI, Mi.mIsI, Ms.mIsC, Mi.gNm, Mi.gNil, Mi.gCons, Mi.gTup, Mi.mSeq, Mi.mSkip, Mi.mBrk, Mi.mCont, Mi.mAsg, Mi.mPar, Mi.mExpr, Mi.mRet, Mi.mRetN, Mi.mIfS, Mi.tYes, Mi.wipe, Ms.mDct0, Ms.bAddI, List.map_cons, List.map_nil, List.nil_append, List.cons_append, List.length_cons, List.length_nil, List.replicate_succ, List.replicate_zero, List.getElem?_cons_zero, List.getElem?_cons_succ, List.getElem?_nil, List.set_cons_zero, List.set_cons_succ, Option.map_some, Option.map_none, if_true, if_false, reduceIte, decide_true, decide_false, Nat.reduceAdd, Nat.reduceLeDiff, List.mem_cons, List.mem_singleton, true_or, or_true, true_and, and_true, bne_self_eq_false, Bool.not_true, Bool.not_false, reduceCtorEq, Nat.reduceEqDiff, beq_self_eq_true, Nat.reduceLT, Int.reduceLT, Int.reduceLE, Int.reduceToNat, Int.reduceAdd, Int.reduceSub, Int.reduceMul, Int.reduceNeg, String.reduceEq, String.reduceBEq, List.lookup_cons, List.lookup_nil, Mi.big, Mi.putF, List.length_append, List.append_assoc, ite_true, ite_false, Bool.false_eq_true, and_self, not_true_eq_false, not_false_eq_true, Sum.inr.injEq, Sum.inl.injEq, Mi.look, Mi.put, List.any_cons, List.any_nil, Bool.or_true, Bool.or_false, Bool.true_or, Bool.false_or, List.find?_cons, Option.getD_some, Option.getD_none, Bool.bne_false, Bool.false_bne, Bool.true_bne, Bool.bne_true, Int.reduceEq, Int.reducePow, m_told_by, b_told_by, Mi.mSlice, Mi.mO, c1, a1]
end
end Lw

namespace Lw
open Mi (Dv MO Sto Sl Rs bnd ME MT MA MS MF Fl MG MGs MI)
open Ms (mExtend mPar3 fMaxL mLc2 mLc2Loop gUnL mReprK txt mZipT iEnumT bIn fSorted srt mPopAt fMaxTI fIntB)
open PySem (PyData Str)
section
variable {G : Sto} {h hb hq hn : Nat} {s k : Int} {bl qu : List Dv} {nw : List (Mi.Key × Dv)}
theorem group_in (D : Dsk G h hb hq hn s k bl qu nw) (b1 : 6 ≤ s ∧ s ≤ 40) (b2 : 4 ≤ k ∧ k ≤ 24) (g o : Int) (w0 w2 w3 : Int) (m q : Nat) (P Q Z : List Int) (hm : P.length = m) (hq' : Q.length = q) (hz : m + q + Z.length = 25) (h0 : w0 ≠ 0) (h1 : 1 ≤ m + q ∧ m + q ≤ 24) (r : List (List Int)) (h32 : ∀ w ∈ r, w.length = 32) (hlen : o + (r.length + 1 : Nat) = k)
    (hrd : ∀ i : Nat, i < r.length + 1 → m_Disk_read [.ref h, .int (2 * R' s k + g * k + (o + i))] G = some (T ((sumW w0 1 w2 w3 w0 m q P Q Z :: r).getD i []), G)) :
    m_group_at [.ref h, .int g, .int o] G = some (GT s (N' s k) (r.length + 1) w0 w2 w3 m P Q Z (sumW w0 1 w2 w3 w0 m q P Q Z :: r), G) := by
  have hb := sumW_len w0 1 w2 w3 w0 m q P Q Z hm hq' hz
  have e1 : Mi.bSubs (T (sumW w0 1 w2 w3 w0 m q P Q Z)) (.int 0) G = some (.int w0, G) := wAt hb (i := 0) (by decide) G
  have gl : (sumW w0 1 w2 w3 w0 m q P Q Z).getD 31 0 = w0 := by
    simp only [List.getD_eq_getElem?_getD]
    have : (sumW w0 1 w2 w3 w0 m q P Q Z) = (w0 :: 1 :: w2 :: w3 :: (m : Int) :: (q : Int) :: (P ++ (Q ++ Z))) ++ [w0] := by simp [List.append_assoc]
    rw [this, List.getElem?_append_right (by simp only [List.length_cons, List.length_append]; omega)]
    have : 31 - (w0 :: 1 :: w2 :: w3 :: (m : Int) :: (q : Int) :: (P ++ (Q ++ Z))).length = 0 := by simp only [List.length_cons, List.length_append]; omega
    rw [this]
    rfl
  have e2 := wLast hb G
  rw [gl] at e2
  have e3 : Mi.bSubs (T (sumW w0 1 w2 w3 w0 m q P Q Z)) (.int 1) G = some (.int 1, G) := wAt hb (i := 1) (by decide) G
  have tb := told_by_ok D o w0 1 w2 w3 m q P Q Z w0 hm hq' hz
  have h32' : ∀ w ∈ sumW w0 1 w2 w3 w0 m q P Q Z :: r, w.length = 32 := fun w hw => by
    rcases (List.mem_cons.mp hw : _ ∨ _) with rfl | hw
    · exact hb
    · exact h32 w hw
  have p := place_raw_ok D g o b1 b2
  have rd0 := hrd 0 (by omega)
  rw [show o + ((0 : Nat) : Int) = o by omega] at rd0
  have rd0' : m_Disk_read [.ref h, .int (2 * R' s k + g * k + o)] G = some (T (sumW w0 1 w2 w3 w0 m q P Q Z), G) := rd0
  have tb' : m_told_by [.ref h, .int o, T (sumW w0 1 w2 w3 w0 m q P Q Z)] G = some (if (1 ≤ m + q ∧ m + q ≤ 24 ∧ o + 1 + m ≤ k) ∧ fOk s (N' s k) w3 P Q Z = true then .tup [.str "group", .int w0, .int w2, .int w3, .tup (P.map Dv.int), .tup (Q.map Dv.int)] else .non, G) := tb
  clear tb rd0
  generalize hW : sumW w0 1 w2 w3 w0 m q P Q Z = W at *
  have ob := D.ob
  unfold GT
  by_cases hc : m + 1 ≤ r.length + 1 ∧ fOk s (N' s k) w3 P Q Z = true
  · rw [if_pos hc]
    rw [if_pos ⟨⟨h1.1, h1.2, by omega⟩, hc.2⟩] at tb'
    obtain ⟨y6, y7, y8, lp⟩ := at_loop D b1 b2 g o w0 (W :: r) h32' (fun i hi => hrd i (by rw [List.length_cons] at hi; exact hi)) (some (T W)) (some (.tup [.str "group", .int w0, .int w2, .int w3, .tup (P.map Dv.int), .tup (Q.map Dv.int)])) P 0 none none none (by rw [List.length_cons]; omega)
    have lp' : qf_group_at_1 [some (.ref h), some (.int g), some (.int o), some (T W), some (.int w0), some (.tup [.str "group", .int w0, .int w2, .int w3, .tup (P.map Dv.int), .tup (Q.map Dv.int)]), none, none, none] G = some (fRes (fbi w0 (W :: r) P 0), [some (.ref h), some (.int g), some (.int o), some (T W), some (.int w0), some (.tup [.str "group", .int w0, .int w2, .int w3, .tup (P.map Dv.int), .tup (Q.map Dv.int)]), y6, y7, y8], G) := by
      have e4 : Mi.bSubs (.tup [.str "group", .int w0, .int w2, .int w3, .tup (P.map Dv.int), .tup (Q.map Dv.int)]) (.int 4) G = some (.tup (P.map Dv.int), G) := rfl
      unfold qf_group_at_1 qi_group_at_1 Mi.mFor
      simp only [Mi.bnd, Mi.mVar, Mi.mC, Mi.mkL, Mi.m2, Mi.m1, Mi.uNeg, Mi.bAdd, Mi.bSub, Mi.bDiv, Mi.bMod, Mi.bPow, Mi.sEq, Mi.bEq, Mi.bCmp, Mi.bLt, Mi.bLe, Mi.bGt, Mi.bGe, Mi.isNon, Mi.mIsN, Mi.mChain, Mi.mAnd, Mi.mOr, Mi.mNot, Mi.mTb, Mi.mTand, Mi.mTor, Mi.mTnot, Mi.mIf, Mi.mNil, Mi.mCons, Mi.mTup, Mi.mLst, Mi.mB, Mi.kOf, Mi.mFld, Mi.mCall, Mi.mCallK, Mi.mMeth, Mi.mMethK, Mi.mDef, Mi.fInt, Mi.fMax, Mi.fMin, Mi.isI, Mi.mIsI, Ms.mIsC, Mi.gNm, Mi.gNil, Mi.gCons, Mi.gTup, Mi.mSeq, Mi.mSkip, Mi.mBrk, Mi.mCont, Mi.mAsg, Mi.mPar, Mi.mExpr, Mi.mRet, Mi.mRetN, Mi.mIfS, Mi.tYes, Mi.wipe, Ms.mDct0, Ms.bAddI, List.map_cons, List.map_nil, List.nil_append, List.cons_append, List.length_cons, List.length_nil, List.replicate_succ, List.replicate_zero, List.getElem?_cons_zero, List.getElem?_cons_succ, List.getElem?_nil, List.set_cons_zero, List.set_cons_succ, Option.map_some, Option.map_none, if_true, if_false, reduceIte, decide_true, decide_false, Nat.reduceAdd, Nat.reduceLeDiff, List.mem_cons, List.mem_singleton, true_or, or_true, true_and, and_true, bne_self_eq_false, Bool.not_true, Bool.not_false, reduceCtorEq, Nat.reduceEqDiff, beq_self_eq_true, Nat.reduceLT, Int.reduceLT, Int.reduceLE, Int.reduceToNat, Int.reduceAdd, Int.reduceSub, Int.reduceMul, Int.reduceNeg, String.reduceEq, String.reduceBEq, List.lookup_cons, List.lookup_nil, Mi.big, Mi.putF, List.length_append, List.append_assoc, ite_true, ite_false, Bool.false_eq_true, and_self, not_true_eq_false, not_false_eq_true, Sum.inr.injEq, Sum.inl.injEq, Mi.look, Mi.put, List.any_cons, List.any_nil, Bool.or_true, Bool.or_false, Bool.true_or, Bool.false_or, List.find?_cons, Option.getD_some, Option.getD_none, Bool.bne_false, Bool.false_bne, Bool.true_bne, Bool.bne_true, Int.reduceEq, Int.reducePow, iEnumT, e4]
      exact lp
    clear lp
    cases hf : fbi w0 (W :: r) P 0 with
    | none =>
      rw [hf] at lp'
      simp only [Mi.bnd, Mi.mVar, Mi.mC, Mi.mkL, Mi.m2, Mi.m1, Mi.uNeg, Mi.bAdd, Mi.bSub, Mi.bDiv, Mi.bMod, Mi.bPow, Mi.sEq, Mi.bEq, Mi.bCmp, Mi.bLt, Mi.bLe, Mi.bGt, Mi.bGe, Mi.isNon, Mi.mIsN, Mi.mChain, Mi.mAnd, Mi.mOr, Mi.mNot, Mi.mTb, Mi.mTand, Mi.mTor, Mi.mTnot, Mi.mIf, Mi.mNil, Mi.mCons, Mi.mTup, Mi.mLst, Mi.mB, Mi.kOf, Mi.mFld, Mi.mCall, Mi.mCallK, Mi.mMeth, Mi.mMethK, Mi.mDef, Mi.fInt, Mi.fMax, Mi.fMin, Mi.isI, Mi.mIsI, Ms.mIsC, Mi.gNm, Mi.gNil, Mi.gCons, Mi.gTup, Mi.mSeq, Mi.mSkip, Mi.mBrk, Mi.mCont, Mi.mAsg, Mi.mPar, Mi.mExpr, Mi.mRet, Mi.mRetN, Mi.mIfS, Mi.tYes, Mi.wipe, Ms.mDct0, Ms.bAddI, List.map_cons, List.map_nil, List.nil_append, List.cons_append, List.length_cons, List.length_nil, List.replicate_succ, List.replicate_zero, List.getElem?_cons_zero, List.getElem?_cons_succ, List.getElem?_nil, List.set_cons_zero, List.set_cons_succ, Option.map_some, Option.map_none, if_true, if_false, reduceIte, decide_true, decide_false, Nat.reduceAdd, Nat.reduceLeDiff, List.mem_cons, List.mem_singleton, true_or, or_true, true_and, and_true, bne_self_eq_false, Bool.not_true, Bool.not_false, reduceCtorEq, Nat.reduceEqDiff, beq_self_eq_true, Nat.reduceLT, Int.reduceLT, Int.reduceLE, Int.reduceToNat, Int.reduceAdd, Int.reduceSub, Int.reduceMul, Int.reduceNeg, String.reduceEq, String.reduceBEq, List.lookup_cons, List.lookup_nil, Mi.big, Mi.putF, List.length_append, List.append_assoc, ite_true, ite_false, Bool.false_eq_true, and_self, not_true_eq_false, not_false_eq_true, Sum.inr.injEq, Sum.inl.injEq, Mi.look, Mi.put, List.any_cons, List.any_nil, Bool.or_true, Bool.or_false, Bool.true_or, Bool.false_or, List.find?_cons, Option.getD_some, Option.getD_none, Bool.bne_false, Bool.false_bne, Bool.true_bne, Bool.bne_true, Int.reduceEq, Int.reducePow, m_group_at, b_group_at, ob, dfs, p, rd0', e1, h0, e2, e3, tb', lp', fRes]
    | some i =>
      rw [hf] at lp'
      simp only [Mi.bnd, Mi.mVar, Mi.mC, Mi.mkL, Mi.m2, Mi.m1, Mi.uNeg, Mi.bAdd, Mi.bSub, Mi.bDiv, Mi.bMod, Mi.bPow, Mi.sEq, Mi.bEq, Mi.bCmp, Mi.bLt, Mi.bLe, Mi.bGt, Mi.bGe, Mi.isNon, Mi.mIsN, Mi.mChain, Mi.mAnd, Mi.mOr, Mi.mNot, Mi.mTb, Mi.mTand, Mi.mTor, Mi.mTnot, Mi.mIf, Mi.mNil, Mi.mCons, Mi.mTup, Mi.mLst, Mi.mB, Mi.kOf, Mi.mFld, Mi.mCall, Mi.mCallK, Mi.mMeth, Mi.mMethK, Mi.mDef, Mi.fInt, Mi.fMax, Mi.fMin, Mi.isI, Mi.mIsI, Ms.mIsC, Mi.gNm, Mi.gNil, Mi.gCons, Mi.gTup, Mi.mSeq, Mi.mSkip, Mi.mBrk, Mi.mCont, Mi.mAsg, Mi.mPar, Mi.mExpr, Mi.mRet, Mi.mRetN, Mi.mIfS, Mi.tYes, Mi.wipe, Ms.mDct0, Ms.bAddI, List.map_cons, List.map_nil, List.nil_append, List.cons_append, List.length_cons, List.length_nil, List.replicate_succ, List.replicate_zero, List.getElem?_cons_zero, List.getElem?_cons_succ, List.getElem?_nil, List.set_cons_zero, List.set_cons_succ, Option.map_some, Option.map_none, if_true, if_false, reduceIte, decide_true, decide_false, Nat.reduceAdd, Nat.reduceLeDiff, List.mem_cons, List.mem_singleton, true_or, or_true, true_and, and_true, bne_self_eq_false, Bool.not_true, Bool.not_false, reduceCtorEq, Nat.reduceEqDiff, beq_self_eq_true, Nat.reduceLT, Int.reduceLT, Int.reduceLE, Int.reduceToNat, Int.reduceAdd, Int.reduceSub, Int.reduceMul, Int.reduceNeg, String.reduceEq, String.reduceBEq, List.lookup_cons, List.lookup_nil, Mi.big, Mi.putF, List.length_append, List.append_assoc, ite_true, ite_false, Bool.false_eq_true, and_self, not_true_eq_false, not_false_eq_true, Sum.inr.injEq, Sum.inl.injEq, Mi.look, Mi.put, List.any_cons, List.any_nil, Bool.or_true, Bool.or_false, Bool.true_or, Bool.false_or, List.find?_cons, Option.getD_some, Option.getD_none, Bool.bne_false, Bool.false_bne, Bool.true_bne, Bool.bne_true, Int.reduceEq, Int.reducePow, m_group_at, b_group_at, ob, dfs, p, rd0', e1, h0, e2, e3, tb', lp', fRes]
  · rw [if_neg hc]
    rw [if_neg (fun z => hc ⟨by have := z.1.2.2; omega, z.2⟩)] at tb'
    simp only [Mi.bnd, Mi.mVar, Mi.mC, Mi.mkL, Mi.m2, Mi.m1, Mi.uNeg, Mi.bAdd, Mi.bSub, Mi.bDiv, Mi.bMod, Mi.bPow, Mi.sEq, Mi.bEq, Mi.bCmp, Mi.bLt, Mi.bLe, Mi.bGt, Mi.bGe, Mi.isNon, Mi.mIsN, Mi.mChain, Mi.mAnd, Mi.mOr, Mi.mNot, Mi.mTb, Mi.mTand, Mi.mTor, Mi.mTnot, Mi.mIf, Mi.mNil, Mi.mCons, Mi.mTup, Mi.mLst, Mi.mB, Mi.kOf, Mi.mFld, Mi.mCall, Mi.mCallK, Mi.mMeth, Mi.mMethK, Mi.mDef, Mi.fInt, Mi.fMax, Mi.fMin, Mi.isI, Mi.mIsI, Ms.mIsC, Mi.gNm, Mi.gNil, Mi.gCons, Mi.gTup, Mi.mSeq, Mi.mSkip, Mi.mBrk, Mi.mCont, Mi.mAsg, Mi.mPar, Mi.mExpr, Mi.mRet, Mi.mRetN, Mi.mIfS, Mi.tYes, Mi.wipe, Ms.mDct0, Ms.bAddI, List.map_cons, List.map_nil, List.nil_append, List.cons_append, List.length_cons, List.length_nil, List.replicate_succ, List.replicate_zero, List.getElem?_cons_zero, List.getElem?_cons_succ, List.getElem?_nil, List.set_cons_zero, List.set_cons_succ, Option.map_some, Option.map_none, if_true, if_false, reduceIte, decide_true, decide_false, Nat.reduceAdd, Nat.reduceLeDiff, List.mem_cons, List.mem_singleton, true_or, or_true, true_and, and_true, bne_self_eq_false, Bool.not_true, Bool.not_false, reduceCtorEq, Nat.reduceEqDiff, beq_self_eq_true, Nat.reduceLT, Int.reduceLT, Int.reduceLE, Int.reduceToNat, Int.reduceAdd, Int.reduceSub, Int.reduceMul, Int.reduceNeg, String.reduceEq, String.reduceBEq, List.lookup_cons, List.lookup_nil, Mi.big, Mi.putF, List.length_append, List.append_assoc, ite_true, ite_false, Bool.false_eq_true, and_self, not_true_eq_false, not_false_eq_true, Sum.inr.injEq, Sum.inl.injEq, Mi.look, Mi.put, List.any_cons, List.any_nil, Bool.or_true, Bool.or_false, Bool.true_or, Bool.false_or, List.find?_cons, Option.getD_some, Option.getD_none, Bool.bne_false, Bool.false_bne, Bool.true_bne, Bool.bne_true, Int.reduceEq, Int.reducePow, m_group_at, b_group_at, ob, dfs, p, rd0', e1, h0, e2, e3, tb']
end
/-! ### texts -/
theorem re_s (x : String) (h : ((Str.ofString x).cps.toList.all fun c => decide (c < 4294967296)) = true) : Re (.str x) (.str (Str.ofString x)) (10 * (Str.ofString x).cps.size + 2) 0 := ⟨fun _ => rfl, by unfold Mi.wt; rw [if_pos h], Nat.le_refl _⟩
def rk : Dv → Prop := fun x => ∃ d c, Re x d c 2 ∧ c ≤ 100000
theorem rk_1 (x : String) (h : ((Str.ofString x).cps.toList.all fun c => decide (c < 4294967296)) = true) (h2 : (Str.ofString x).cps.size ≤ 100) : rk (.tup [.str x]) := by
  have q := re_tup (re_cons (re_s x h) (re_nil (m := 0)) (Nat.le_refl _))
  exact ⟨_, _, ⟨q.p, q.w, Nat.le_trans q.e (by decide)⟩, by omega⟩
theorem rk_torn : rk (.tup [.str "torn"]) := rk_1 _ (by decide) (by decide)
theorem rk_kind : rk (.tup [.str "kind"]) := rk_1 _ (by decide) (by decide)
theorem rk_form : rk (.tup [.str "form"]) := rk_1 _ (by decide) (by decide)
theorem rk_block (i : Nat) (h : i ≤ 1000) : rk (.tup [.str "block", .int (i : Nat)]) := by
  have q := re_tup (re_cons (re_s "block" (by decide)) (re_cons (re_int (i := (i : Int)) (by omega)) (re_nil (m := 0)) (Nat.le_refl _)) (Nat.le_refl _))
  exact ⟨_, _, ⟨q.p, q.w, Nat.le_trans q.e (by decide)⟩, by have : (Str.ofString "block").cps.size = 5 := by decide
                                                            omega⟩
theorem rk_group (a b c : Int) (P Q : List Int) (ha : a.natAbs < 10 ^ 18) (hb : b.natAbs < 10 ^ 18) (hc : c.natAbs < 10 ^ 18) (hP : ∀ z ∈ P, z.natAbs < 10 ^ 18) (hQ : ∀ z ∈ Q, z.natAbs < 10 ^ 18) (lP : P.length ≤ 100) (lQ : Q.length ≤ 100) : rk (.tup [.str "group", .int a, .int b, .int c, .tup (P.map Dv.int), .tup (Q.map Dv.int)]) := by
  have z : 0 ≤ 1 := by decide
  have q := re_tup (re_cons (re_s "group" (by decide)) (re_cons (re_int ha) (re_cons (re_int hb) (re_cons (re_int hc) (re_cons (re_tup (re_ints hP)) (re_cons (re_tup (re_ints hQ)) (re_nil (m := 1)) (Nat.le_refl _)) (Nat.le_refl _)) z) z) z) z)
  exact ⟨_, _, q, by have : (Str.ofString "group").cps.size = 5 := by decide
                     omega⟩
def unT : Dv → List Int
  | .tup xs => (Mi.intsOf xs).getD []
  | _ => []
theorem unT_T (w : List Int) : unT (T w) = w := by
  show (Mi.intsOf (w.map Dv.int)).getD [] = w
  rw [intsOf_map]
  rfl
theorem unT_blk {x : Dv} (h : BlkD x) : T (unT x) = x ∧ Blk (unT x) := by
  obtain ⟨w, rfl, B⟩ := h
  rw [unT_T]
  exact ⟨rfl, B⟩
section
variable {G : Sto} {hd hc hi hs h hb hq hn n : Nat} {s k : Int} {bl : List Dv} {its : List (Nat × Dv)}
theorem place_in {g o : Int} (hS : 6 ≤ s ∧ s ≤ 40) (hK : 4 ≤ k ∧ k ≤ 24) (hg : 0 ≤ g ∧ g < s) (ho : 0 ≤ o ∧ o < k) : 0 ≤ 2 * R' s k + g * k + o ∧ 2 * R' s k + g * k + o < Many s k := by
  have hr := R'_b hS hK
  have hp := prodB hS hK
  have h1 : g * k ≤ (s - 1) * k := Int.mul_le_mul_of_nonneg_right (by omega) (by omega)
  have h2 : 0 ≤ g * k := Int.mul_nonneg hg.1 (by omega)
  have h3 : (s - 1) * k = s * k - k := by rw [Int.sub_mul, Int.one_mul]
  unfold Many
  rw [Int.toNat_of_nonneg (by omega)]
  omega
/-- both looks at a group tell one value -/
theorem both_look (W : Wh hd hc h hb hq hn hi hs s k bl its n G) (hS : 6 ≤ s ∧ s ≤ 40) (hK : 4 ≤ k ∧ k ≤ 24) (g o : Int) (hg : 0 ≤ g ∧ g < s) (ho : 0 ≤ o ∧ o < k) : ∃ (x L : Dv), rk x ∧ ∀ G', Wh hd hc h hb hq hn hi hs s k bl its n G' → m_judge_group [.ref h, .int g, .int o] G' = some (x, G') ∧ m_law_from [.ref hi, .int g, .int o] G' = some (L, G') ∧ m_law_group_told [szs s k, L] G' = some (x, G') := by
  obtain ⟨len, hlen⟩ : ∃ len : Nat, o + (len : Int) = k := ⟨(k - o).toNat, by omega⟩
  have hrd : ∀ {G' : Sto}, Wh hd hc h hb hq hn hi hs s k bl its n G' → ∀ i : Nat, i < len → BlkD (valAt bl its (.int (2 * R' s k + g * k + (o + i)))) ∧ m_Disk_read [.ref h, .int (2 * R' s k + g * k + (o + i))] G' = some (valAt bl its (.int (2 * R' s k + g * k + (o + i))), G') ∧ m_law_read [.ref hi, .int (2 * R' s k + g * k + (o + i))] G' = some (valAt bl its (.int (2 * R' s k + g * k + (o + i))), G') := fun {G'} W' i hi => by
    have q := place_in (g := g) (o := o + i) hS hK hg (by omega)
    exact W'.val q.1 q.2
  have from_ok : ∀ {G' : Sto}, Wh hd hc h hb hq hn hi hs s k bl its n G' → m_law_from [.ref hi, .int g, .int o] G' = some (.fls ((List.range len).map fun i => valAt bl its (.int (2 * R' s k + g * k + (o + (i : Nat))))), G') := fun {G'} W' => by
    have er : Mi.rng o k = (List.range len).map fun i => .int (o + ((i : Nat) : Int)) := by
      unfold Mi.rng
      rw [show (k - o).toNat = len by omega]
    have q := lc_pure (g := Mi.gNm 4) (e := qe_law_from_1) (st := fun _ => True) (δ := [some (.ref hi), some (.int g), some (.int o), some (szs s k), none]) (f := liftD fun z => valAt bl its (.int (2 * R' s k + g * k + z))) (G := G') trivial (Mi.rng o k) [] (fun d hd => by
      rw [er] at hd
      obtain ⟨i, hi', rfl⟩ := List.mem_map.mp hd
      have hi'' := (List.mem_range).mp hi'
      have p := law_place_ok s k g (o + (i : Nat)) G' hS hK (by omega)
      rw [show 2 * R' s k + g * k + (o + (i : Int)) = 2 * R' s k + g * k + (o + ((i : Nat) : Int)) from rfl] at p
      have r := (hrd W' i hi'').2.2
      refine ⟨[some (.ref hi), some (.int g), some (.int o), some (szs s k), some (.int (o + ((i : Nat) : Int)))], rfl, ?_⟩
      simp only [Mi.bnd, Mi.mVar, Mi.mC, Mi.mkL, Mi.m2, Mi.m1, Mi.uNeg, Mi.bAdd, Mi.bSub, Mi.bDiv, Mi.bMod, Mi.bPow, Mi.sEq, Mi.bEq, Mi.bCmp, Mi.bLt, Mi.bLe, Mi.bGt, Mi.bGe, Mi.isNon, Mi.mIsN, Mi.mChain, Mi.mAnd, Mi.mOr, Mi.mNot, Mi.mTb, Mi.mTand, Mi.mTor, Mi.mTnot, Mi.mIf, Mi.mNil, Mi.mCons, Mi.mTup, Mi.mLst, Mi.mB, Mi.kOf, Mi.mFld, Mi.mCall, Mi.mCallK, Mi.mMeth, Mi.mMethK, Mi.mDef, Mi.fInt, Mi.fMax, Mi.fMin, Mi.isI, Mi.mIsI, Ms.mIsC, Mi.gNm, Mi.gNil, Mi.gCons, Mi.gTup, Mi.mSeq, Mi.mSkip, Mi.mBrk, Mi.mCont, Mi.mAsg, Mi.mPar, Mi.mExpr, Mi.mRet, Mi.mRetN, Mi.mIfS, Mi.tYes, Mi.wipe, Ms.mDct0, Ms.bAddI, List.map_cons, List.map_nil, List.nil_append, List.cons_append, List.length_cons, List.length_nil, List.replicate_succ, List.replicate_zero, List.getElem?_cons_zero, List.getElem?_cons_succ, List.getElem?_nil, List.set_cons_zero, List.set_cons_succ, Option.map_some, Option.map_none, if_true, if_false, reduceIte, decide_true, decide_false, Nat.reduceAdd, Nat.reduceLeDiff, List.mem_cons, List.mem_singleton, true_or, or_true, true_and, and_true, bne_self_eq_false, Bool.not_true, Bool.not_false, reduceCtorEq, Nat.reduceEqDiff, beq_self_eq_true, Nat.reduceLT, Int.reduceLT, Int.reduceLE, Int.reduceToNat, Int.reduceAdd, Int.reduceSub, Int.reduceMul, Int.reduceNeg, String.reduceEq, String.reduceBEq, List.lookup_cons, List.lookup_nil, Mi.big, Mi.putF, List.length_append, List.append_assoc, ite_true, ite_false, Bool.false_eq_true, and_self, not_true_eq_false, not_false_eq_true, Sum.inr.injEq, Sum.inl.injEq, Mi.look, Mi.put, List.any_cons, List.any_nil, Bool.or_true, Bool.or_false, Bool.true_or, Bool.false_or, List.find?_cons, Option.getD_some, Option.getD_none, Bool.bne_false, Bool.false_bne, Bool.true_bne, Bool.bne_true, Int.reduceEq, Int.reducePow, qe_law_from_1, p, r, liftD]) (by rw [er, List.length_map, List.length_range]; show 0 + _ ≤ 16777216; omega)
    rw [er, List.map_map, List.nil_append] at q
    have sz : Mi.bSubs (.ref hi) (.str "sizes") G' = some (szs s k, G') := sub_sizes W'.it
    have s1 : Mi.bSubs (szs s k) (.int 1) G' = some (.int k, G') := rfl
    have i1 : -(2 ^ 62) ≤ o ∧ o < 2 ^ 62 ∧ -(2 ^ 62) ≤ k ∧ k < 2 ^ 62 := by omega
    have e5 : ql_law_from_1 [some (.ref hi), some (.int g), some (.int o), some (szs s k), none] G' = some (.fls ((List.range len).map fun i => valAt bl its (.int (2 * R' s k + g * k + (o + (i : Nat))))), G') := by
      unfold ql_law_from_1 qi_law_from_1 Mi.mLc
      simp only [Mi.bnd, Mi.mVar, Mi.mC, Mi.mkL, Mi.m2, Mi.m1, Mi.uNeg, Mi.bAdd, Mi.bSub, Mi.bDiv, Mi.bMod, Mi.bPow, Mi.sEq, Mi.bEq, Mi.bCmp, Mi.bLt, Mi.bLe, Mi.bGt, Mi.bGe, Mi.isNon, Mi.mIsN, Mi.mChain, Mi.mAnd, Mi.mOr, Mi.mNot, Mi.mTb, Mi.mTand, Mi.mTor, Mi.mTnot, Mi.mIf, Mi.mNil, Mi.mCons, Mi.mTup, Mi.mLst, Mi.mB, Mi.kOf, Mi.mFld, Mi.mCall, Mi.mCallK, Mi.mMeth, Mi.mMethK, Mi.mDef, Mi.fInt, Mi.fMax, Mi.fMin, Mi.isI, Mi.mIsI, Ms.mIsC, Mi.gNm, Mi.gNil, Mi.gCons, Mi.gTup, Mi.mSeq, Mi.mSkip, Mi.mBrk, Mi.mCont, Mi.mAsg, Mi.mPar, Mi.mExpr, Mi.mRet, Mi.mRetN, Mi.mIfS, Mi.tYes, Mi.wipe, Ms.mDct0, Ms.bAddI, List.map_cons, List.map_nil, List.nil_append, List.cons_append, List.length_cons, List.length_nil, List.replicate_succ, List.replicate_zero, List.getElem?_cons_zero, List.getElem?_cons_succ, List.getElem?_nil, List.set_cons_zero, List.set_cons_succ, Option.map_some, Option.map_none, if_true, if_false, reduceIte, decide_true, decide_false, Nat.reduceAdd, Nat.reduceLeDiff, List.mem_cons, List.mem_singleton, true_or, or_true, true_and, and_true, bne_self_eq_false, Bool.not_true, Bool.not_false, reduceCtorEq, Nat.reduceEqDiff, beq_self_eq_true, Nat.reduceLT, Int.reduceLT, Int.reduceLE, Int.reduceToNat, Int.reduceAdd, Int.reduceSub, Int.reduceMul, Int.reduceNeg, String.reduceEq, String.reduceBEq, List.lookup_cons, List.lookup_nil, Mi.big, Mi.putF, List.length_append, List.append_assoc, ite_true, ite_false, Bool.false_eq_true, and_self, not_true_eq_false, not_false_eq_true, Sum.inr.injEq, Sum.inl.injEq, Mi.look, Mi.put, List.any_cons, List.any_nil, Bool.or_true, Bool.or_false, Bool.true_or, Bool.false_or, List.find?_cons, Option.getD_some, Option.getD_none, Bool.bne_false, Bool.false_bne, Bool.true_bne, Bool.bne_true, Int.reduceEq, Int.reducePow, -Int.reducePow, -Int.reduceNeg, Mi.iRange2, s1, if_pos i1, er, q]
      rfl
    simp only [Mi.bnd, Mi.mVar, Mi.mC, Mi.mkL, Mi.m2, Mi.m1, Mi.uNeg, Mi.bAdd, Mi.bSub, Mi.bDiv, Mi.bMod, Mi.bPow, Mi.sEq, Mi.bEq, Mi.bCmp, Mi.bLt, Mi.bLe, Mi.bGt, Mi.bGe, Mi.isNon, Mi.mIsN, Mi.mChain, Mi.mAnd, Mi.mOr, Mi.mNot, Mi.mTb, Mi.mTand, Mi.mTor, Mi.mTnot, Mi.mIf, Mi.mNil, Mi.mCons, Mi.mTup, Mi.mLst, Mi.mB, Mi.kOf, Mi.mFld, Mi.mCall, Mi.mCallK, Mi.mMeth, Mi.mMethK, Mi.mDef, Mi.fInt, Mi.fMax, Mi.fMin, Mi.isI, Mi.mIsI, Ms.mIsC, Mi.gNm, Mi.gNil, Mi.gCons, Mi.gTup, Mi.mSeq, Mi.mSkip, Mi.mBrk, Mi.mCont, Mi.mAsg, Mi.mPar, Mi.mExpr, Mi.mRet, Mi.mRetN, Mi.mIfS, Mi.tYes, Mi.wipe, Ms.mDct0, Ms.bAddI, List.map_cons, List.map_nil, List.nil_append, List.cons_append, List.length_cons, List.length_nil, List.replicate_succ, List.replicate_zero, List.getElem?_cons_zero, List.getElem?_cons_succ, List.getElem?_nil, List.set_cons_zero, List.set_cons_succ, Option.map_some, Option.map_none, if_true, if_false, reduceIte, decide_true, decide_false, Nat.reduceAdd, Nat.reduceLeDiff, List.mem_cons, List.mem_singleton, true_or, or_true, true_and, and_true, bne_self_eq_false, Bool.not_true, Bool.not_false, reduceCtorEq, Nat.reduceEqDiff, beq_self_eq_true, Nat.reduceLT, Int.reduceLT, Int.reduceLE, Int.reduceToNat, Int.reduceAdd, Int.reduceSub, Int.reduceMul, Int.reduceNeg, String.reduceEq, String.reduceBEq, List.lookup_cons, List.lookup_nil, Mi.big, Mi.putF, List.length_append, List.append_assoc, ite_true, ite_false, Bool.false_eq_true, and_self, not_true_eq_false, not_false_eq_true, Sum.inr.injEq, Sum.inl.injEq, Mi.look, Mi.put, List.any_cons, List.any_nil, Bool.or_true, Bool.or_false, Bool.true_or, Bool.false_or, List.find?_cons, Option.getD_some, Option.getD_none, Bool.bne_false, Bool.false_bne, Bool.true_bne, Bool.bne_true, Int.reduceEq, Int.reducePow, m_law_from, b_law_from, sz, e5]
  have hmap : ((List.range len).map fun i => valAt bl its (.int (2 * R' s k + g * k + (o + (i : Nat))))) = ((List.range len).map fun i => unT (valAt bl its (.int (2 * R' s k + g * k + (o + (i : Nat)))))).map T := by
    rw [List.map_map]
    exact List.map_congr_left fun i hi => ((unT_blk (hrd W i ((List.mem_range).mp hi)).1).1).symm
  have hB : ∀ w ∈ (List.range len).map fun i => unT (valAt bl its (.int (2 * R' s k + g * k + (o + (i : Nat))))), Blk w := fun w hw => by
    obtain ⟨i, hi, rfl⟩ := List.mem_map.mp hw
    exact (unT_blk (hrd W i ((List.mem_range).mp hi)).1).2
  have hat : ∀ {G' : Sto}, Wh hd hc h hb hq hn hi hs s k bl its n G' → ∀ i : Nat, i < len → m_Disk_read [.ref h, .int (2 * R' s k + g * k + (o + i))] G' = some (T (((List.range len).map fun i => unT (valAt bl its (.int (2 * R' s k + g * k + (o + (i : Nat)))))).getD i []), G') := fun {G'} W' i hi => by
    have e := (hrd W' i hi).2.1
    rw [e]
    congr 2
    rw [List.getD_eq_getElem?_getD, List.getElem?_map, List.getElem?_range hi]
    exact ((unT_blk (hrd W' i hi).1).1).symm
  have hlenB : ((List.range len).map fun i => unT (valAt bl its (.int (2 * R' s k + g * k + (o + (i : Nat)))))).length = len := by rw [List.length_map, List.length_range]
  rw [hmap] at from_ok
  generalize ((List.range len).map fun i => unT (valAt bl its (.int (2 * R' s k + g * k + (o + (i : Nat)))))) = bs at from_ok hB hat hlenB
  have fin : ∀ {G' : Sto}, Wh hd hc h hb hq hn hi hs s k bl its n G' → ∀ x, m_group_at [.ref h, .int g, .int o] G' = some (x, G') → m_judge_group [.ref h, .int g, .int o] G' = some (x, G') := fun {G'} W' x hx => by
    have pl := place_at_ok W'.ds g o hS hK (by omega) (by omega)
    simp only [Mi.bnd, Mi.mVar, Mi.mC, Mi.mkL, Mi.m2, Mi.m1, Mi.uNeg, Mi.bAdd, Mi.bSub, Mi.bDiv, Mi.bMod, Mi.bPow, Mi.sEq, Mi.bEq, Mi.bCmp, Mi.bLt, Mi.bLe, Mi.bGt, Mi.bGe, Mi.isNon, Mi.mIsN, Mi.mChain, Mi.mAnd, Mi.mOr, Mi.mNot, Mi.mTb, Mi.mTand, Mi.mTor, Mi.mTnot, Mi.mIf, Mi.mNil, Mi.mCons, Mi.mTup, Mi.mLst, Mi.mB, Mi.kOf, Mi.mFld, Mi.mCall, Mi.mCallK, Mi.mMeth, Mi.mMethK, Mi.mDef, Mi.fInt, Mi.fMax, Mi.fMin, Mi.isI, Mi.mIsI, Ms.mIsC, Mi.gNm, Mi.gNil, Mi.gCons, Mi.gTup, Mi.mSeq, Mi.mSkip, Mi.mBrk, Mi.mCont, Mi.mAsg, Mi.mPar, Mi.mExpr, Mi.mRet, Mi.mRetN, Mi.mIfS, Mi.tYes, Mi.wipe, Ms.mDct0, Ms.bAddI, List.map_cons, List.map_nil, List.nil_append, List.cons_append, List.length_cons, List.length_nil, List.replicate_succ, List.replicate_zero, List.getElem?_cons_zero, List.getElem?_cons_succ, List.getElem?_nil, List.set_cons_zero, List.set_cons_succ, Option.map_some, Option.map_none, if_true, if_false, reduceIte, decide_true, decide_false, Nat.reduceAdd, Nat.reduceLeDiff, List.mem_cons, List.mem_singleton, true_or, or_true, true_and, and_true, bne_self_eq_false, Bool.not_true, Bool.not_false, reduceCtorEq, Nat.reduceEqDiff, beq_self_eq_true, Nat.reduceLT, Int.reduceLT, Int.reduceLE, Int.reduceToNat, Int.reduceAdd, Int.reduceSub, Int.reduceMul, Int.reduceNeg, String.reduceEq, String.reduceBEq, List.lookup_cons, List.lookup_nil, Mi.big, Mi.putF, List.length_append, List.append_assoc, ite_true, ite_false, Bool.false_eq_true, and_self, not_true_eq_false, not_false_eq_true, Sum.inr.injEq, Sum.inl.injEq, Mi.look, Mi.put, List.any_cons, List.any_nil, Bool.or_true, Bool.or_false, Bool.true_or, Bool.false_or, List.find?_cons, Option.getD_some, Option.getD_none, Bool.bne_false, Bool.false_bne, Bool.true_bne, Bool.bne_true, Int.reduceEq, Int.reducePow, m_judge_group, b_judge_group, pl, hx]
  cases bs with
  | nil => simp at hlenB; omega
  | cons b r =>
    rw [List.length_cons] at hlenB
    have B := hB b (List.mem_cons_self ..)
    have h32 : ∀ w ∈ r, w.length = 32 := fun w hw => (hB w (List.mem_cons_of_mem _ hw)).1
    have r0' : ∀ {G' : Sto}, Wh hd hc h hb hq hn hi hs s k bl its n G' → m_Disk_read [.ref h, .int (2 * R' s k + g * k + o)] G' = some (T b, G') := fun {G'} W' => by
      have r0 := hat W' 0 (by omega)
      rw [show o + ((0 : Nat) : Int) = o by omega] at r0
      exact r0
    by_cases c1 : b.getD 31 0 = b.getD 0 0 ∧ b.getD 0 0 ≠ 0
    · by_cases c2 : b.getD 1 0 = 1
      · by_cases c3 : 1 ≤ b.getD 4 0 + b.getD 5 0 ∧ b.getD 4 0 + b.getD 5 0 ≤ 24
        · -- in range
          obtain ⟨a0, a1, a2, a3, a4, a5, r6, rfl, l6⟩ := w6 B.1
          have p4 : 0 ≤ a4 := (B.2 a4 (by simp)).1
          have p5 : 0 ≤ a5 := (B.2 a5 (by simp)).1
          obtain ⟨m, rfl⟩ := Int.eq_ofNat_of_zero_le p4
          obtain ⟨q, rfl⟩ := Int.eq_ofNat_of_zero_le p5
          have c3' : 1 ≤ m + q ∧ m + q ≤ 24 := by
            have : 1 ≤ ((m : Nat) : Int) + ((q : Nat) : Int) ∧ ((m : Nat) : Int) + ((q : Nat) : Int) ≤ 24 := c3
            omega
          have c2' : a1 = 1 := c2
          subst c2'
          have hlast : r6 = r6.take 25 ++ [a0] := by
            have e1 : (a0 :: 1 :: a2 :: a3 :: (m : Int) :: (q : Int) :: r6).getD 31 0 = a0 := c1.1
            have e2 : r6.getD 25 0 = a0 := e1
            rw [List.getD_eq_getElem?_getD, List.getElem?_eq_getElem (by omega)] at e2
            have e3 : r6[25]'(by omega) = a0 := e2
            rw [← e3, List.take_append_getElem]
            exact (List.take_of_length_le (by omega)).symm
          have hsplit : r6 = r6.take m ++ ((r6.drop m).take q ++ ((r6.take 25).drop (m + q) ++ [a0])) := by
            have e1 : r6.take 25 = r6.take m ++ ((r6.drop m).take q ++ (r6.take 25).drop (m + q)) := by
              have h1 : r6.take 25 = (r6.take 25).take (m + q) ++ (r6.take 25).drop (m + q) := (List.take_append_drop _ _).symm
              have h2 : (r6.take 25).take (m + q) = r6.take (m + q) := by rw [List.take_take, Nat.min_eq_left (by omega)]
              have h3 : r6.take (m + q) = r6.take m ++ (r6.drop m).take q := List.take_add
              rw [h2, h3] at h1
              rw [← List.append_assoc]
              exact h1
            calc r6 = r6.take 25 ++ [a0] := hlast
              _ = (r6.take m ++ ((r6.drop m).take q ++ (r6.take 25).drop (m + q))) ++ [a0] := by rw [← e1]
              _ = _ := by simp only [List.append_assoc]
          have lP : (r6.take m).length = m := by rw [List.length_take]; omega
          have lQ : ((r6.drop m).take q).length = q := by rw [List.length_take, List.length_drop]; omega
          have lZ : m + q + ((r6.take 25).drop (m + q)).length = 25 := by rw [List.length_drop, List.length_take]; omega
          have bP : ∀ z ∈ r6.take m, z.natAbs < 10 ^ 18 := fun z hz => abs18' (B.2 z (by simp [List.mem_of_mem_take hz]))
          have bQ : ∀ z ∈ (r6.drop m).take q, z.natAbs < 10 ^ 18 := fun z hz => abs18' (B.2 z (by simp [List.mem_of_mem_drop (List.mem_of_mem_take hz)]))
          have h0 : a0 ≠ 0 := c1.2
          have ba0 := abs18' (B.2 a0 (by simp))
          have ba2 := abs18' (B.2 a2 (by simp))
          have ba3 := abs18' (B.2 a3 (by simp))
          generalize r6.take m = P at hsplit lP bP
          generalize (r6.drop m).take q = Q at hsplit lQ bQ
          generalize (r6.take 25).drop (m + q) = Z at hsplit lZ
          rw [hsplit] at hat from_ok
          have gi := fun {G' : Sto} (W' : Wh hd hc h hb hq hn hi hs s k bl its n G') => group_in W'.ds hS hK g o a0 a2 a3 m q P Q Z lP lQ lZ h0 c3' r h32 (by omega) (fun i hi => hat W' i (by omega))
          have fk : rk (GT s (N' s k) (r.length + 1) a0 a2 a3 m P Q Z (sumW a0 1 a2 a3 a0 m q P Q Z :: r)) := by
            unfold GT
            split
            · split
              · rename_i i hfi
                have := fbi_le _ _ _ _ _ hfi
                exact rk_block i (by omega)
              · exact rk_group _ _ _ _ _ ba0 ba2 ba3 bP bQ (by omega) (by omega)
            · exact rk_form
          refine ⟨_, _, fk, fun G' W' => ⟨fin W' _ (gi W'), from_ok W', ?_⟩⟩
          by_cases c4 : a3 < s ∧ m + 1 ≤ r.length + 1
          · exact law_group a0 a2 a3 m q P Q Z lP lQ lZ h0 c3' c4.1 r h32 c4.2 G'
          · have e : GT s (N' s k) (r.length + 1) a0 a2 a3 m P Q Z (sumW a0 1 a2 a3 a0 m q P Q Z :: r) = .tup [.str "form"] := by
              unfold GT
              rw [if_neg]
              intro z
              have z2 := z.2
              unfold fOk at z2
              simp only [Bool.and_eq_true, decide_eq_true_eq] at z2
              exact c4 ⟨z2.1.1.1.1, z.1⟩
            rw [e]
            have hb32 := sumW_len a0 1 a2 a3 a0 m q P Q Z lP lQ lZ
            refine law_form (sumW a0 1 a2 a3 a0 m q P Q Z) hb32 r G' ?_ rfl ?_
            · rw [hsplit] at c1
              exact c1
            · intro z
              have z1 : a3 < s := z.1
              have z4 : ((m : Nat) : Int) + 1 ≤ r.length + 1 := z.2.2.2
              exact c4 ⟨z1, by omega⟩
        · exact ⟨_, _, rk_form, fun G' W' => ⟨fin W' _ (group_form W'.ds hS hK g o B.1 (r0' W') c1 c2 (told_out b B.1 o c3)), from_ok W', law_form b B.1 r G' c1 c2 fun z => c3 ⟨z.2.1, z.2.2.1⟩⟩⟩
      · exact ⟨_, _, rk_kind, fun G' W' => ⟨fin W' _ (group_kind W'.ds hS hK g o B.1 (r0' W') c1 c2), from_ok W', law_kind b B.1 r G' c1 c2⟩⟩
    · exact ⟨_, _, rk_torn, fun G' W' => ⟨fin W' _ (group_torn W'.ds hS hK g o B.1 (r0' W') c1), from_ok W', law_torn b B.1 r G' c1⟩⟩
end
end Lw

namespace Lw
open Mi (Dv MO Sto Sl Rs bnd ME MT MA MS MF Fl MG MGs MI)
open Ms (mExtend mPar3 fMaxL mLc2 mLc2Loop gUnL mReprK txt mZipT iEnumT bIn fSorted srt mPopAt fMaxTI fIntB bMulT)
open PySem (PyData Str)
/-- the deck goes on, the store may grow -/
structure Dg (hd hc : Nat) (G G' : Sto) : Prop where
  d : Dk hd hc G'
  s : Sm [hd, hc] G G'
theorem Dr.g {hd hc : Nat} {G G' : Sto} (r : Dr hd hc G G') : Dg hd hc G G' := ⟨r.d, r.s⟩
theorem Dg.trans {hd hc : Nat} {G G1 G2 : Sto} (a : Dg hd hc G G1) (b : Dg hd hc G1 G2) : Dg hd hc G G2 := ⟨b.d, a.s.trans b.s⟩
/-! ### keys -/
section
variable {hd hc : Nat}
theorem keys_go (hl hf : Nat) (zs : List Int) (hz : zs.length ≤ 1000) (n1 : hl ∉ [hd, hc]) (n2 : hf ∉ [hd, hc]) (n3 : hl ≠ hf) (a1 a2 : Option Dv) : ∀ (ds : List Dv) (ls fs : List Int) (G : Sto) (x5 : Option Dv), Dk hd hc G → G[hl]? = some (.lst (ls.map Dv.int)) → G[hf]? = some (.lst (fs.map Dv.int)) → ds.length ≤ ls.length → (∀ z ∈ ls, z ∈ zs) → (∀ z ∈ fs, z ∈ zs) → fs.length + ls.length = zs.length →
    ∃ (fs' : List Int) (x5' : Option Dv) (G' : Sto), Mi.mLoop (Mi.gNm 5) qb_law_keys_1 (fun _ => True) ds [some (.ref hd), a1, a2, some (.ref hl), some (.ref hf), x5] G = some (.nx, [some (.ref hd), a1, a2, some (.ref hl), some (.ref hf), x5'], G') ∧
      G'[hf]? = some (.lst (fs'.map Dv.int)) ∧ fs'.length = fs.length + ds.length ∧ (∀ z ∈ fs', z ∈ zs) ∧ Dk hd hc G' ∧ Sm [hd, hc, hl, hf] G G'
  | [], ls, fs, G, x5, d, el, ef, _, _, hfs, _ => ⟨fs, x5, G, by rw [Mi.mLoop, if_pos trivial], ef, rfl, hfs, d, Sm.refl⟩
  | y :: ds, ls, fs, G, x5, d, el, ef, hlen, hls, hfs, htot => by
    rw [List.length_cons] at hlen
    obtain ⟨r, G1, e1, b1, b2, d1⟩ := draw d (ls.length : Int) (by omega) (by omega)
    obtain ⟨i, rfl⟩ := Int.eq_ofNat_of_zero_le b1
    have hi : i < ls.length := by omega
    have el1 := d1.s.get n1 el
    have ef1 := d1.s.get n2 ef
    have ei : (ls.map Dv.int)[i]? = some (.int ls[i]) := by rw [List.getElem?_map, List.getElem?_eq_getElem hi]; rfl
    have ix : Mi.ixN ls.length (i : Int) = some i := ixN_nat hi
    have S1 : Sm [hl] G1 (G1.set hl (.lst ((ls.map Dv.int).eraseIdx i))) := sm_set (by simp)
    have k1 := d1.d.sm S1 (by simp only [List.mem_singleton]; intro q; exact n1 (by simp [q])) (by simp only [List.mem_singleton]; intro q; exact n1 (by simp [q]))
    have ef2 := S1.get (show hf ∉ [hl] by simp only [List.mem_singleton]; exact fun q => n3 q.symm) ef1
    have el2 : (G1.set hl (.lst ((ls.map Dv.int).eraseIdx i)))[hl]? = some (.lst ((ls.eraseIdx i).map Dv.int)) := by rw [set_at el1, List.eraseIdx_eq_take_drop_succ, List.eraseIdx_eq_take_drop_succ, List.map_append, List.map_take, List.map_drop]
    have S2 : Sm [hf] (G1.set hl (.lst ((ls.map Dv.int).eraseIdx i))) ((G1.set hl (.lst ((ls.map Dv.int).eraseIdx i))).set hf (.lst (fs.map Dv.int ++ [.int ls[i]]))) := sm_set (by simp)
    have k2 := k1.sm S2 (by simp only [List.mem_singleton]; intro q; exact n2 (by simp [q])) (by simp only [List.mem_singleton]; intro q; exact n2 (by simp [q]))
    have el3 := S2.get (show hl ∉ [hf] by simp only [List.mem_singleton]; exact n3) el2
    have ef3 : ((G1.set hl (.lst ((ls.map Dv.int).eraseIdx i))).set hf (.lst (fs.map Dv.int ++ [.int ls[i]])))[hf]? = some (.lst ((fs ++ [ls[i]]).map Dv.int)) := by rw [set_at ef2, List.map_append]; rfl
    have le : (ls.eraseIdx i).length = ls.length - 1 := by rw [List.length_eraseIdx, if_pos hi]
    obtain ⟨fs', x5', G', e', g', lg, hm, dk', sm'⟩ := keys_go hl hf zs hz n1 n2 n3 a1 a2 ds (ls.eraseIdx i) (fs ++ [ls[i]]) _ (some y) k2 el3 ef3 (by omega) (fun z hz' => hls z (List.mem_of_mem_eraseIdx hz')) (fun z hz' => by
      rcases List.mem_append.mp hz' with q | q
      · exact hfs z q
      · rw [List.mem_singleton.mp q]
        exact hls _ (List.getElem_mem _)) (by rw [List.length_append, List.length_singleton]; omega)
    refine ⟨fs', x5', G', ?_, g', by rw [lg, List.length_append, List.length_singleton, List.length_cons]; omega, hm, dk', ((d1.s.mono (by intro j hj; simp at hj ⊢; omega)).trans ((S1.mono (by intro j hj; simp at hj ⊢; omega)).trans (S2.mono (by intro j hj; simp at hj ⊢; omega)))).trans sm'⟩
    have hb : qb_law_keys_1 [some (.ref hd), a1, a2, some (.ref hl), some (.ref hf), some y] G = some (.nx, [some (.ref hd), a1, a2, some (.ref hl), some (.ref hf), some y], (G1.set hl (.lst ((ls.map Dv.int).eraseIdx i))).set hf (.lst (fs.map Dv.int ++ [.int ls[i]]))) := by
      have lk : Mi.fLen [.ref hl] G = some (.int (ls.length : Int), G) := by simp [Mi.fLen, Mi.lstOf, el]
      have hb1 : ls.length ≤ 16777216 := by omega
      have hb2 : fs.length < 16777216 := by omega
      have ls1 : (ls.map Dv.int).length = ls.length := List.length_map ..
      have ls2 : (fs.map Dv.int).length = fs.length := List.length_map ..
      simp only [Mi.bnd, Mi.mVar, Mi.mC, Mi.mkL, Mi.m2, Mi.m1, Mi.uNeg, Mi.bAdd, Mi.bSub, Mi.bDiv, Mi.bMod, Mi.bPow, Mi.sEq, Mi.bEq, Mi.bCmp, Mi.bLt, Mi.bLe, Mi.bGt, Mi.bGe, Mi.isNon, Mi.mIsN, Mi.mChain, Mi.mAnd, Mi.mOr, Mi.mNot, Mi.mTb, Mi.mTand, Mi.mTor, Mi.mTnot, Mi.mIf, Mi.mNil, Mi.mCons, Mi.mTup, Mi.mLst, Mi.mB, Mi.kOf, Mi.mFld, Mi.mCall, Mi.mCallK, Mi.mMeth, Mi.mMethK, Mi.mDef, Mi.fInt, Mi.fMax, Mi.fMin, Mi.isI, Mi.mIsI, Ms.mIsC, Mi.gNm, Mi.gNil, Mi.gCons, Mi.gTup, Mi.mSeq, Mi.mSkip, Mi.mBrk, Mi.mCont, Mi.mAsg, Mi.mPar, Mi.mExpr, Mi.mRet, Mi.mRetN, Mi.mIfS, Mi.tYes, Mi.wipe, Ms.mDct0, Ms.bAddI, List.map_cons, List.map_nil, List.nil_append, List.cons_append, List.length_cons, List.length_nil, List.replicate_succ, List.replicate_zero, List.getElem?_cons_zero, List.getElem?_cons_succ, List.getElem?_nil, List.set_cons_zero, List.set_cons_succ, Option.map_some, Option.map_none, if_true, if_false, reduceIte, decide_true, decide_false, Nat.reduceAdd, Nat.reduceLeDiff, List.mem_cons, List.mem_singleton, true_or, or_true, true_and, and_true, bne_self_eq_false, Bool.not_true, Bool.not_false, reduceCtorEq, Nat.reduceEqDiff, beq_self_eq_true, Nat.reduceLT, Int.reduceLT, Int.reduceLE, Int.reduceToNat, Int.reduceAdd, Int.reduceSub, Int.reduceMul, Int.reduceNeg, String.reduceEq, String.reduceBEq, List.lookup_cons, List.lookup_nil, Mi.big, Mi.putF, List.length_append, List.append_assoc, ite_true, ite_false, Bool.false_eq_true, and_self, not_true_eq_false, not_false_eq_true, Sum.inr.injEq, Sum.inl.injEq, Mi.look, Mi.put, List.any_cons, List.any_nil, Bool.or_true, Bool.or_false, Bool.true_or, Bool.false_or, List.find?_cons, Option.getD_some, Option.getD_none, Bool.bne_false, Bool.false_bne, Bool.true_bne, Bool.bne_true, Int.reduceEq, Int.reducePow, qb_law_keys_1, Mi.mAppend, mPopAt, lk, e1, el, ef, el1, ef1, ix, ei, ls1, hb1, ef2, ls2, hb2]
    rw [Mi.mLoop, if_pos trivial]
    simp only [Mi.bnd, Mi.mVar, Mi.mC, Mi.mkL, Mi.m2, Mi.m1, Mi.uNeg, Mi.bAdd, Mi.bSub, Mi.bDiv, Mi.bMod, Mi.bPow, Mi.sEq, Mi.bEq, Mi.bCmp, Mi.bLt, Mi.bLe, Mi.bGt, Mi.bGe, Mi.isNon, Mi.mIsN, Mi.mChain, Mi.mAnd, Mi.mOr, Mi.mNot, Mi.mTb, Mi.mTand, Mi.mTor, Mi.mTnot, Mi.mIf, Mi.mNil, Mi.mCons, Mi.mTup, Mi.mLst, Mi.mB, Mi.kOf, Mi.mFld, Mi.mCall, Mi.mCallK, Mi.mMeth, Mi.mMethK, Mi.mDef, Mi.fInt, Mi.fMax, Mi.fMin, Mi.isI, Mi.mIsI, Ms.mIsC, Mi.gNm, Mi.gNil, Mi.gCons, Mi.gTup, Mi.mSeq, Mi.mSkip, Mi.mBrk, Mi.mCont, Mi.mAsg, Mi.mPar, Mi.mExpr, Mi.mRet, Mi.mRetN, Mi.mIfS, Mi.tYes, Mi.wipe, Ms.mDct0, Ms.bAddI, List.map_cons, List.map_nil, List.nil_append, List.cons_append, List.length_cons, List.length_nil, List.replicate_succ, List.replicate_zero, List.getElem?_cons_zero, List.getElem?_cons_succ, List.getElem?_nil, List.set_cons_zero, List.set_cons_succ, Option.map_some, Option.map_none, if_true, if_false, reduceIte, decide_true, decide_false, Nat.reduceAdd, Nat.reduceLeDiff, List.mem_cons, List.mem_singleton, true_or, or_true, true_and, and_true, bne_self_eq_false, Bool.not_true, Bool.not_false, reduceCtorEq, Nat.reduceEqDiff, beq_self_eq_true, Nat.reduceLT, Int.reduceLT, Int.reduceLE, Int.reduceToNat, Int.reduceAdd, Int.reduceSub, Int.reduceMul, Int.reduceNeg, String.reduceEq, String.reduceBEq, List.lookup_cons, List.lookup_nil, Mi.big, Mi.putF, List.length_append, List.append_assoc, ite_true, ite_false, Bool.false_eq_true, and_self, not_true_eq_false, not_false_eq_true, Sum.inr.injEq, Sum.inl.injEq, Mi.look, Mi.put, List.any_cons, List.any_nil, Bool.or_true, Bool.or_false, Bool.true_or, Bool.false_or, List.find?_cons, Option.getD_some, Option.getD_none, Bool.bne_false, Bool.false_bne, Bool.true_bne, Bool.bne_true, Int.reduceEq, Int.reducePow, hb]
    exact e'
theorem law_keys_ok {G : Sto} (d : Dk hd hc G) (zs : List Int) (hz : zs.length ≤ 1000) (many : Int) (h0 : 0 ≤ many) : ∃ (ks : List Int) (G' : Sto), m_law_keys [.ref hd, .fls (zs.map Dv.int), .int many] G = some (.tup (ks.map Dv.int), G') ∧ (∀ z ∈ ks, z ∈ zs) ∧ (ks.length : Int) = (if zs.length < many then (zs.length : Int) else many) ∧ Dg hd hc G G' := by
  have lt := d.lt
  have hG : (G ++ [MO.lst (zs.map Dv.int)] ++ [MO.lst []] : Sto) = G ++ [.lst (zs.map Dv.int), .lst []] := by simp
  have S0 : Sm [] G (G ++ [.lst (zs.map Dv.int), .lst []]) := sm_app
  have d0 := d.disk S0
  have el : (G ++ [MO.lst (zs.map Dv.int), MO.lst []])[G.length]? = some (.lst (zs.map Dv.int)) := get0 _ _ _
  have ef : (G ++ [MO.lst (zs.map Dv.int), MO.lst []])[G.length + 1]? = some (.lst (([] : List Int).map Dv.int)) := by
    rw [List.getElem?_append_right (by omega)]
    simp
  obtain ⟨t, ht⟩ : ∃ t : Nat, (t : Int) = (if zs.length < many then (zs.length : Int) else many) := ⟨(if zs.length < many then (zs.length : Int) else many).toNat, Int.toNat_of_nonneg (by split <;> omega)⟩
  have ht2 : t ≤ zs.length := by
    have : (t : Int) ≤ zs.length := by rw [ht]; split <;> omega
    omega
  have lr : (Mi.rng 0 (t : Int)).length = t := by simp [Mi.rng]
  obtain ⟨fs, x5, G1, e1, g1, l1, hm, k1, S1⟩ := keys_go (hd := hd) (hc := hc) G.length (G.length + 1) zs hz (by simp; omega) (by simp; omega) (by omega) (some (.fls (zs.map Dv.int))) (some (.int many)) (Mi.rng 0 (t : Int)) zs [] _ none d0 el ef (by omega) (fun z h => h) (fun z h => by simp at h) (by simp)
  refine ⟨srt fs, G1, ?_, fun z h => hm z ((Ms.srt_perm fs).mem_iff.mp h), ?_, k1, ?_⟩
  · have i1 : -(2 ^ 62) ≤ (t : Int) ∧ (t : Int) < 2 ^ 62 := by omega
    have sq : Mi.seqOf G (.fls (zs.map Dv.int)) = some (zs.map Dv.int) := rfl
    have lk : Mi.fLen [.ref G.length] (G ++ [MO.lst (zs.map Dv.int), MO.lst []]) = some (.int (zs.length : Int), G ++ [MO.lst (zs.map Dv.int), MO.lst []]) := by simp [Mi.fLen, Mi.lstOf]
    have q1 : qf_law_keys_1 [some (.ref hd), some (.fls (zs.map Dv.int)), some (.int many), some (.ref G.length), some (.ref (G.length + 1)), none] (G ++ [MO.lst (zs.map Dv.int), MO.lst []]) = some (.nx, [some (.ref hd), some (.fls (zs.map Dv.int)), some (.int many), some (.ref G.length), some (.ref (G.length + 1)), x5], G1) := by
      unfold qf_law_keys_1 qi_law_keys_1 Mi.mFor
      obtain ⟨T0, hT⟩ : ∃ T0 : Int, (t : Int) = T0 := ⟨_, rfl⟩
      rw [hT] at i1 e1 ht
      simp only [Mi.bnd, Mi.mVar, Mi.mC, Mi.mkL, Mi.m2, Mi.m1, Mi.uNeg, Mi.bAdd, Mi.bSub, Mi.bDiv, Mi.bMod, Mi.bPow, Mi.sEq, Mi.bEq, Mi.bCmp, Mi.bLt, Mi.bLe, Mi.bGt, Mi.bGe, Mi.isNon, Mi.mIsN, Mi.mChain, Mi.mAnd, Mi.mOr, Mi.mNot, Mi.mTb, Mi.mTand, Mi.mTor, Mi.mTnot, Mi.mIf, Mi.mNil, Mi.mCons, Mi.mTup, Mi.mLst, Mi.mB, Mi.kOf, Mi.mFld, Mi.mCall, Mi.mCallK, Mi.mMeth, Mi.mMethK, Mi.mDef, Mi.fInt, Mi.fMax, Mi.fMin, Mi.isI, Mi.mIsI, Ms.mIsC, Mi.gNm, Mi.gNil, Mi.gCons, Mi.gTup, Mi.mSeq, Mi.mSkip, Mi.mBrk, Mi.mCont, Mi.mAsg, Mi.mPar, Mi.mExpr, Mi.mRet, Mi.mRetN, Mi.mIfS, Mi.tYes, Mi.wipe, Ms.mDct0, Ms.bAddI, List.map_cons, List.map_nil, List.nil_append, List.cons_append, List.length_cons, List.length_nil, List.replicate_succ, List.replicate_zero, List.getElem?_cons_zero, List.getElem?_cons_succ, List.getElem?_nil, List.set_cons_zero, List.set_cons_succ, Option.map_some, Option.map_none, if_true, if_false, reduceIte, decide_true, decide_false, Nat.reduceAdd, Nat.reduceLeDiff, List.mem_cons, List.mem_singleton, true_or, or_true, true_and, and_true, bne_self_eq_false, Bool.not_true, Bool.not_false, reduceCtorEq, Nat.reduceEqDiff, beq_self_eq_true, Nat.reduceLT, Int.reduceLT, Int.reduceLE, Int.reduceToNat, Int.reduceAdd, Int.reduceSub, Int.reduceMul, Int.reduceNeg, String.reduceEq, String.reduceBEq, List.lookup_cons, List.lookup_nil, Mi.big, Mi.putF, List.length_append, List.append_assoc, ite_true, ite_false, Bool.false_eq_true, and_self, not_true_eq_false, not_false_eq_true, Sum.inr.injEq, Sum.inl.injEq, Mi.look, Mi.put, List.any_cons, List.any_nil, Bool.or_true, Bool.or_false, Bool.true_or, Bool.false_or, List.find?_cons, Option.getD_some, Option.getD_none, Bool.bne_false, Bool.false_bne, Bool.true_bne, Bool.bne_true, Int.reduceEq, Int.reducePow, -Int.reducePow, -Int.reduceNeg, Mi.iRange1, lk, ← ht, if_pos i1]
      exact e1
    have ie := intsOf_map fs
    have fsr : fSorted false [.ref (G.length + 1)] G1 = some (.fls ((srt fs).map Dv.int), G1) := by simp [fSorted, Mi.lstOf, g1, ie, Mi.mkL]
    simp only [Mi.bnd, Mi.mVar, Mi.mC, Mi.mkL, Mi.m2, Mi.m1, Mi.uNeg, Mi.bAdd, Mi.bSub, Mi.bDiv, Mi.bMod, Mi.bPow, Mi.sEq, Mi.bEq, Mi.bCmp, Mi.bLt, Mi.bLe, Mi.bGt, Mi.bGe, Mi.isNon, Mi.mIsN, Mi.mChain, Mi.mAnd, Mi.mOr, Mi.mNot, Mi.mTb, Mi.mTand, Mi.mTor, Mi.mTnot, Mi.mIf, Mi.mNil, Mi.mCons, Mi.mTup, Mi.mLst, Mi.mB, Mi.kOf, Mi.mFld, Mi.mCall, Mi.mCallK, Mi.mMeth, Mi.mMethK, Mi.mDef, Mi.fInt, Mi.fMax, Mi.fMin, Mi.isI, Mi.mIsI, Ms.mIsC, Mi.gNm, Mi.gNil, Mi.gCons, Mi.gTup, Mi.mSeq, Mi.mSkip, Mi.mBrk, Mi.mCont, Mi.mAsg, Mi.mPar, Mi.mExpr, Mi.mRet, Mi.mRetN, Mi.mIfS, Mi.tYes, Mi.wipe, Ms.mDct0, Ms.bAddI, List.map_cons, List.map_nil, List.nil_append, List.cons_append, List.length_cons, List.length_nil, List.replicate_succ, List.replicate_zero, List.getElem?_cons_zero, List.getElem?_cons_succ, List.getElem?_nil, List.set_cons_zero, List.set_cons_succ, Option.map_some, Option.map_none, if_true, if_false, reduceIte, decide_true, decide_false, Nat.reduceAdd, Nat.reduceLeDiff, List.mem_cons, List.mem_singleton, true_or, or_true, true_and, and_true, bne_self_eq_false, Bool.not_true, Bool.not_false, reduceCtorEq, Nat.reduceEqDiff, beq_self_eq_true, Nat.reduceLT, Int.reduceLT, Int.reduceLE, Int.reduceToNat, Int.reduceAdd, Int.reduceSub, Int.reduceMul, Int.reduceNeg, String.reduceEq, String.reduceBEq, List.lookup_cons, List.lookup_nil, Mi.big, Mi.putF, List.length_append, List.append_assoc, ite_true, ite_false, Bool.false_eq_true, and_self, not_true_eq_false, not_false_eq_true, Sum.inr.injEq, Sum.inl.injEq, Mi.look, Mi.put, List.any_cons, List.any_nil, Bool.or_true, Bool.or_false, Bool.true_or, Bool.false_or, List.find?_cons, Option.getD_some, Option.getD_none, Bool.bne_false, Bool.false_bne, Bool.true_bne, Bool.bne_true, Int.reduceEq, Int.reducePow, m_law_keys, b_law_keys, Mi.fList, sq, hG, q1, fsr, Mi.fTuple, Mi.lstOf]
  · rw [(Ms.srt_perm fs).length_eq, l1, lr, ← ht]
    simp
  · refine ⟨Nat.le_trans S0.le S1.le, fun i hi hn => ?_⟩
    rw [S1.at_ i (Nat.lt_of_lt_of_le hi S0.le) (by simp at hn ⊢; omega)]
    exact S0.at_ i hi (by simp)
/-! ### contents, data blocks, summaries -/
def Cnt (cs : List Int) : Prop := cs.length = 28 ∧ ∀ w ∈ cs, 0 ≤ w ∧ w ≤ 1000000000
theorem content_ok {G : Sto} (d : Dk hd hc G) : ∃ (cs : List Int) (G' : Sto), m_law_content [.ref hd] G = some (.tup (cs.map Dv.int), G') ∧ Cnt cs ∧ Dr hd hc G G' := by
  obtain ⟨r, G1, e1, b1, b2, d1⟩ := draw d 2 (by decide) (by decide)
  by_cases hr : r = 0
  · obtain ⟨x, G2, e2, x0, x9, d2⟩ := word d1.d
    refine ⟨List.replicate 28 x, G2, ?_, ⟨by simp, fun w hw => by rw [(List.mem_replicate.mp hw).2]; exact ⟨x0, x9⟩⟩, d1.trans d2⟩
    have m : Mi.bMul false (.fls [.int x]) (.int 28) G2 = some (.fls (List.replicate 28 (.int x)), G2) := rfl
    subst hr
    rw [List.map_replicate]
    generalize List.replicate 28 (Dv.int x) = L at m
    simp only [Mi.bnd, Mi.mVar, Mi.mC, Mi.mkL, Mi.m2, Mi.m1, Mi.uNeg, Mi.bAdd, Mi.bSub, Mi.bDiv, Mi.bMod, Mi.bPow, Mi.sEq, Mi.bEq, Mi.bCmp, Mi.bLt, Mi.bLe, Mi.bGt, Mi.bGe, Mi.isNon, Mi.mIsN, Mi.mChain, Mi.mAnd, Mi.mOr, Mi.mNot, Mi.mTb, Mi.mTand, Mi.mTor, Mi.mTnot, Mi.mIf, Mi.mNil, Mi.mCons, Mi.mTup, Mi.mLst, Mi.mB, Mi.kOf, Mi.mFld, Mi.mCall, Mi.mCallK, Mi.mMeth, Mi.mMethK, Mi.mDef, Mi.fInt, Mi.fMax, Mi.fMin, Mi.isI, Mi.mIsI, Ms.mIsC, Mi.gNm, Mi.gNil, Mi.gCons, Mi.gTup, Mi.mSeq, Mi.mSkip, Mi.mBrk, Mi.mCont, Mi.mAsg, Mi.mPar, Mi.mExpr, Mi.mRet, Mi.mRetN, Mi.mIfS, Mi.tYes, Mi.wipe, Ms.mDct0, Ms.bAddI, List.map_cons, List.map_nil, List.nil_append, List.cons_append, List.length_cons, List.length_nil, List.replicate_succ, List.replicate_zero, List.getElem?_cons_zero, List.getElem?_cons_succ, List.getElem?_nil, List.set_cons_zero, List.set_cons_succ, Option.map_some, Option.map_none, if_true, if_false, reduceIte, decide_true, decide_false, Nat.reduceAdd, Nat.reduceLeDiff, List.mem_cons, List.mem_singleton, true_or, or_true, true_and, and_true, bne_self_eq_false, Bool.not_true, Bool.not_false, reduceCtorEq, Nat.reduceEqDiff, beq_self_eq_true, Nat.reduceLT, Int.reduceLT, Int.reduceLE, Int.reduceToNat, Int.reduceAdd, Int.reduceSub, Int.reduceMul, Int.reduceNeg, String.reduceEq, String.reduceBEq, List.lookup_cons, List.lookup_nil, Mi.big, Mi.putF, List.length_append, List.append_assoc, ite_true, ite_false, Bool.false_eq_true, and_self, not_true_eq_false, not_false_eq_true, Sum.inr.injEq, Sum.inl.injEq, Mi.look, Mi.put, List.any_cons, List.any_nil, Bool.or_true, Bool.or_false, Bool.true_or, Bool.false_or, List.find?_cons, Option.getD_some, Option.getD_none, Bool.bne_false, Bool.false_bne, Bool.true_bne, Bool.bne_true, Int.reduceEq, Int.reducePow, m_law_content, b_law_content, e1, e2, m, Mi.fTuple, Mi.lstOf]
  · obtain ⟨ws, G2, e2, l2, w2, d2⟩ := lc_draw (hd := hd) (hc := hc) (i := 1) (e := qe_law_content_1) (δ := [some (.ref hd), none]) d1.d (Mi.rng 0 28) (fun dd hdd G3 d3 => by
      obtain ⟨x, G4, e4, x0, x9, d4⟩ := word d3
      exact ⟨x, G4, by simp only [Mi.bnd, Mi.mVar, Mi.mC, Mi.mkL, Mi.m2, Mi.m1, Mi.uNeg, Mi.bAdd, Mi.bSub, Mi.bDiv, Mi.bMod, Mi.bPow, Mi.sEq, Mi.bEq, Mi.bCmp, Mi.bLt, Mi.bLe, Mi.bGt, Mi.bGe, Mi.isNon, Mi.mIsN, Mi.mChain, Mi.mAnd, Mi.mOr, Mi.mNot, Mi.mTb, Mi.mTand, Mi.mTor, Mi.mTnot, Mi.mIf, Mi.mNil, Mi.mCons, Mi.mTup, Mi.mLst, Mi.mB, Mi.kOf, Mi.mFld, Mi.mCall, Mi.mCallK, Mi.mMeth, Mi.mMethK, Mi.mDef, Mi.fInt, Mi.fMax, Mi.fMin, Mi.isI, Mi.mIsI, Ms.mIsC, Mi.gNm, Mi.gNil, Mi.gCons, Mi.gTup, Mi.mSeq, Mi.mSkip, Mi.mBrk, Mi.mCont, Mi.mAsg, Mi.mPar, Mi.mExpr, Mi.mRet, Mi.mRetN, Mi.mIfS, Mi.tYes, Mi.wipe, Ms.mDct0, Ms.bAddI, List.map_cons, List.map_nil, List.nil_append, List.cons_append, List.length_cons, List.length_nil, List.replicate_succ, List.replicate_zero, List.getElem?_cons_zero, List.getElem?_cons_succ, List.getElem?_nil, List.set_cons_zero, List.set_cons_succ, Option.map_some, Option.map_none, if_true, if_false, reduceIte, decide_true, decide_false, Nat.reduceAdd, Nat.reduceLeDiff, List.mem_cons, List.mem_singleton, true_or, or_true, true_and, and_true, bne_self_eq_false, Bool.not_true, Bool.not_false, reduceCtorEq, Nat.reduceEqDiff, beq_self_eq_true, Nat.reduceLT, Int.reduceLT, Int.reduceLE, Int.reduceToNat, Int.reduceAdd, Int.reduceSub, Int.reduceMul, Int.reduceNeg, String.reduceEq, String.reduceBEq, List.lookup_cons, List.lookup_nil, Mi.big, Mi.putF, List.length_append, List.append_assoc, ite_true, ite_false, Bool.false_eq_true, and_self, not_true_eq_false, not_false_eq_true, Sum.inr.injEq, Sum.inl.injEq, Mi.look, Mi.put, List.any_cons, List.any_nil, Bool.or_true, Bool.or_false, Bool.true_or, Bool.false_or, List.find?_cons, Option.getD_some, Option.getD_none, Bool.bne_false, Bool.false_bne, Bool.true_bne, Bool.bne_true, Int.reduceEq, Int.reducePow, qe_law_content_1, e4], ⟨x0, x9⟩, d4⟩) (by decide)
    refine ⟨ws, G2, ?_, ⟨by rw [l2]; rfl, w2⟩, d1.trans d2⟩
    have i1 : (-(2 ^ 62) ≤ (28 : Int) ∧ (28 : Int) < 2 ^ 62) := by decide
    have e3 : ql_law_content_1 [some (.ref hd), none] G1 = some (.fls (ws.map Dv.int), G2) := by
      unfold ql_law_content_1 qi_law_content_1 Mi.mLc
      simp only [Mi.bnd, Mi.mVar, Mi.mC, Mi.mkL, Mi.m2, Mi.m1, Mi.uNeg, Mi.bAdd, Mi.bSub, Mi.bDiv, Mi.bMod, Mi.bPow, Mi.sEq, Mi.bEq, Mi.bCmp, Mi.bLt, Mi.bLe, Mi.bGt, Mi.bGe, Mi.isNon, Mi.mIsN, Mi.mChain, Mi.mAnd, Mi.mOr, Mi.mNot, Mi.mTb, Mi.mTand, Mi.mTor, Mi.mTnot, Mi.mIf, Mi.mNil, Mi.mCons, Mi.mTup, Mi.mLst, Mi.mB, Mi.kOf, Mi.mFld, Mi.mCall, Mi.mCallK, Mi.mMeth, Mi.mMethK, Mi.mDef, Mi.fInt, Mi.fMax, Mi.fMin, Mi.isI, Mi.mIsI, Ms.mIsC, Mi.gNm, Mi.gNil, Mi.gCons, Mi.gTup, Mi.mSeq, Mi.mSkip, Mi.mBrk, Mi.mCont, Mi.mAsg, Mi.mPar, Mi.mExpr, Mi.mRet, Mi.mRetN, Mi.mIfS, Mi.tYes, Mi.wipe, Ms.mDct0, Ms.bAddI, List.map_cons, List.map_nil, List.nil_append, List.cons_append, List.length_cons, List.length_nil, List.replicate_succ, List.replicate_zero, List.getElem?_cons_zero, List.getElem?_cons_succ, List.getElem?_nil, List.set_cons_zero, List.set_cons_succ, Option.map_some, Option.map_none, if_true, if_false, reduceIte, decide_true, decide_false, Nat.reduceAdd, Nat.reduceLeDiff, List.mem_cons, List.mem_singleton, true_or, or_true, true_and, and_true, bne_self_eq_false, Bool.not_true, Bool.not_false, reduceCtorEq, Nat.reduceEqDiff, beq_self_eq_true, Nat.reduceLT, Int.reduceLT, Int.reduceLE, Int.reduceToNat, Int.reduceAdd, Int.reduceSub, Int.reduceMul, Int.reduceNeg, String.reduceEq, String.reduceBEq, List.lookup_cons, List.lookup_nil, Mi.big, Mi.putF, List.length_append, List.append_assoc, ite_true, ite_false, Bool.false_eq_true, and_self, not_true_eq_false, not_false_eq_true, Sum.inr.injEq, Sum.inl.injEq, Mi.look, Mi.put, List.any_cons, List.any_nil, Bool.or_true, Bool.or_false, Bool.true_or, Bool.false_or, List.find?_cons, Option.getD_some, Option.getD_none, Bool.bne_false, Bool.false_bne, Bool.true_bne, Bool.bne_true, Int.reduceEq, Int.reducePow, -Int.reducePow, -Int.reduceNeg, Mi.iRange1, if_pos i1, e2]
    simp only [Mi.bnd, Mi.mVar, Mi.mC, Mi.mkL, Mi.m2, Mi.m1, Mi.uNeg, Mi.bAdd, Mi.bSub, Mi.bDiv, Mi.bMod, Mi.bPow, Mi.sEq, Mi.bEq, Mi.bCmp, Mi.bLt, Mi.bLe, Mi.bGt, Mi.bGe, Mi.isNon, Mi.mIsN, Mi.mChain, Mi.mAnd, Mi.mOr, Mi.mNot, Mi.mTb, Mi.mTand, Mi.mTor, Mi.mTnot, Mi.mIf, Mi.mNil, Mi.mCons, Mi.mTup, Mi.mLst, Mi.mB, Mi.kOf, Mi.mFld, Mi.mCall, Mi.mCallK, Mi.mMeth, Mi.mMethK, Mi.mDef, Mi.fInt, Mi.fMax, Mi.fMin, Mi.isI, Mi.mIsI, Ms.mIsC, Mi.gNm, Mi.gNil, Mi.gCons, Mi.gTup, Mi.mSeq, Mi.mSkip, Mi.mBrk, Mi.mCont, Mi.mAsg, Mi.mPar, Mi.mExpr, Mi.mRet, Mi.mRetN, Mi.mIfS, Mi.tYes, Mi.wipe, Ms.mDct0, Ms.bAddI, List.map_cons, List.map_nil, List.nil_append, List.cons_append, List.length_cons, List.length_nil, List.replicate_succ, List.replicate_zero, List.getElem?_cons_zero, List.getElem?_cons_succ, List.getElem?_nil, List.set_cons_zero, List.set_cons_succ, Option.map_some, Option.map_none, if_true, if_false, reduceIte, decide_true, decide_false, Nat.reduceAdd, Nat.reduceLeDiff, List.mem_cons, List.mem_singleton, true_or, or_true, true_and, and_true, bne_self_eq_false, Bool.not_true, Bool.not_false, reduceCtorEq, Nat.reduceEqDiff, beq_self_eq_true, Nat.reduceLT, Int.reduceLT, Int.reduceLE, Int.reduceToNat, Int.reduceAdd, Int.reduceSub, Int.reduceMul, Int.reduceNeg, String.reduceEq, String.reduceBEq, List.lookup_cons, List.lookup_nil, Mi.big, Mi.putF, List.length_append, List.append_assoc, ite_true, ite_false, Bool.false_eq_true, and_self, not_true_eq_false, not_false_eq_true, Sum.inr.injEq, Sum.inl.injEq, Mi.look, Mi.put, List.any_cons, List.any_nil, Bool.or_true, Bool.or_false, Bool.true_or, Bool.false_or, List.find?_cons, Option.getD_some, Option.getD_none, Bool.bne_false, Bool.false_bne, Bool.true_bne, Bool.bne_true, Int.reduceEq, Int.reducePow, m_law_content, b_law_content, e1, hr, e3, Mi.fTuple, Mi.lstOf]
def dataW (n key : Int) (cs : List Int) : List Int := n :: 2 :: key :: (cs ++ [n])
theorem dataW_blk {n key : Int} {cs : List Int} (hn : 0 ≤ n ∧ n ≤ 1000000000) (hk : 0 ≤ key ∧ key ≤ 1000000000) (hcs : Cnt cs) : Blk (dataW n key cs) := by
  refine ⟨by unfold dataW; simp only [List.length_cons, List.length_append, List.length_nil, hcs.1], fun w hw => ?_⟩
  unfold dataW at hw
  simp only [List.mem_cons, List.mem_append, List.not_mem_nil, or_false] at hw
  rcases hw with rfl | rfl | rfl | hw | rfl
  · exact hn
  · decide
  · exact hk
  · exact hcs.2 w hw
  · exact hn
theorem add_tt (a b : List Int) (G : Sto) (h : a.length + b.length ≤ 1000) : Mi.bAdd false (.tup (a.map Dv.int)) (.tup (b.map Dv.int)) G = some (.tup ((a ++ b).map Dv.int), G) := by
  unfold Mi.bAdd
  dsimp only
  rw [if_pos (by rw [List.length_map, List.length_map]; show _ ≤ 16777216; omega), List.map_append]
theorem law_data_ok (n key : Int) (cs : List Int) (hcs : cs.length = 28) (G : Sto) : m_law_data [.int n, .int key, .tup (cs.map Dv.int)] G = some (T (dataW n key cs), G) := by
  have h1 : Mi.bAdd false (.tup [.int n, .int 2, .int key]) (.tup (cs.map Dv.int)) G = some (.tup (([n, 2, key] ++ cs).map Dv.int), G) := add_tt [n, 2, key] cs G (by simp [hcs])
  have h2 : Mi.bAdd false (.tup (([n, 2, key] ++ cs).map Dv.int)) (.tup [.int n]) G = some (.tup ((([n, 2, key] ++ cs) ++ [n]).map Dv.int), G) := add_tt ([n, 2, key] ++ cs) [n] G (by simp [hcs])
  have h3 : T (dataW n key cs) = .tup ((([n, 2, key] ++ cs) ++ [n]).map Dv.int) := rfl
  rw [h3]
  generalize (.tup ((([n, 2, key] ++ cs) ++ [n]).map Dv.int) : Dv) = X at h2 ⊢
  generalize (.tup (([n, 2, key] ++ cs).map Dv.int) : Dv) = Y at h1 h2
  simp only [Mi.bnd, Mi.mVar, Mi.mC, Mi.mkL, Mi.m2, Mi.m1, Mi.uNeg, Mi.bAdd, Mi.bSub, Mi.bDiv, Mi.bMod, Mi.bPow, Mi.sEq, Mi.bEq, Mi.bCmp, Mi.bLt, Mi.bLe, Mi.bGt, Mi.bGe, Mi.isNon, Mi.mIsN, Mi.mChain, Mi.mAnd, Mi.mOr, Mi.mNot, Mi.mTb, Mi.mTand, Mi.mTor, Mi.mTnot, Mi.mIf, Mi.mNil, Mi.mCons, Mi.mTup, Mi.mLst, Mi.mB, Mi.kOf, Mi.mFld, Mi.mCall, Mi.mCallK, Mi.mMeth, Mi.mMethK, Mi.mDef, Mi.fInt, Mi.fMax, Mi.fMin, Mi.isI, Mi.mIsI, Ms.mIsC, Mi.gNm, Mi.gNil, Mi.gCons, Mi.gTup, Mi.mSeq, Mi.mSkip, Mi.mBrk, Mi.mCont, Mi.mAsg, Mi.mPar, Mi.mExpr, Mi.mRet, Mi.mRetN, Mi.mIfS, Mi.tYes, Mi.wipe, Ms.mDct0, Ms.bAddI, List.map_cons, List.map_nil, List.nil_append, List.cons_append, List.length_cons, List.length_nil, List.replicate_succ, List.replicate_zero, List.getElem?_cons_zero, List.getElem?_cons_succ, List.getElem?_nil, List.set_cons_zero, List.set_cons_succ, Option.map_some, Option.map_none, if_true, if_false, reduceIte, decide_true, decide_false, Nat.reduceAdd, Nat.reduceLeDiff, List.mem_cons, List.mem_singleton, true_or, or_true, true_and, and_true, bne_self_eq_false, Bool.not_true, Bool.not_false, reduceCtorEq, Nat.reduceEqDiff, beq_self_eq_true, Nat.reduceLT, Int.reduceLT, Int.reduceLE, Int.reduceToNat, Int.reduceAdd, Int.reduceSub, Int.reduceMul, Int.reduceNeg, String.reduceEq, String.reduceBEq, List.lookup_cons, List.lookup_nil, Mi.big, Mi.putF, List.length_append, List.append_assoc, ite_true, ite_false, Bool.false_eq_true, and_self, not_true_eq_false, not_false_eq_true, Sum.inr.injEq, Sum.inl.injEq, Mi.look, Mi.put, List.any_cons, List.any_nil, Bool.or_true, Bool.or_false, Bool.true_or, Bool.false_or, List.find?_cons, Option.getD_some, Option.getD_none, Bool.bne_false, Bool.false_bne, Bool.true_bne, Bool.bne_true, Int.reduceEq, Int.reducePow, -Mi.bAdd, m_law_data, b_law_data, h1, h2]
end
end Lw

namespace Lw
open Mi (Dv MO Sto Sl Rs bnd ME MT MA MS MF Fl MG MGs MI)
open Ms (mExtend mPar3 fMaxL mLc2 mLc2Loop gUnL mReprK txt mZipT iEnumT bIn fSorted srt mPopAt fMaxTI fIntB bMulT)
open PySem (PyData Str)
section
variable {G G' : Sto} {hd hc hi hs h hb hq hn n : Nat} {s k : Int} {bl : List Dv} {its : List (Nat × Dv)}
theorem Wh.dg (W : Wh hd hc h hb hq hn hi hs s k bl its n G) (r : Dg hd hc G G') : Wh hd hc h hb hq hn hi hs s k bl its n G' := by
  have m : ∀ x ∈ [h, hb, hq, hn, hi, hs], x ∉ [hd, hc] := fun x hx => by
    obtain ⟨a, b⟩ := W.ap x hx
    simp only [List.mem_cons, List.not_mem_nil, or_false]
    omega
  exact ⟨r.d, W.ds.sm r.s (m _ (by simp)) (m _ (by simp)) (m _ (by simp)) (m _ (by simp)), r.s.get (m _ (by simp)) W.it, r.s.get (m _ (by simp)) W.sd, W.ap, W.a2, W.a3, W.bb, W.ib, W.sz, W.hS, W.hK, W.il⟩
theorem Wh.lt (W : Wh hd hc h hb hq hn hi hs s k bl its n G) : ∀ x ∈ [h, hb, hq, hn, hi, hs, hd, hc], x < G.length := by
  have l1 := lt_get W.it
  have l2 := lt_get W.sd
  have l3 := W.dk.lt
  have l4 := lt_get W.ds.ob
  have l5 := lt_get W.ds.bl
  have l6 := lt_get W.ds.qu
  have l7 := lt_get W.ds.nw
  intro x hx
  simp only [List.mem_cons, or_false, List.not_mem_nil] at hx
  omega
/-- a force on both sides -/
theorem force_k (W : Wh hd hc h hb hq hn hi hs s k bl its n G) :
    ∃ G1 G2 hq' hn', m_Disk_force [.ref h] G = some (.non, G1) ∧ m_law_forced [.ref hi] G1 = some (.non, G2) ∧ Wh hd hc h hb hq' hn' hi hs s k (layAll bl its) [] n G2 ∧ G.length ≤ hq' ∧ G.length ≤ hn' ∧ Sm [h, hb, hi, hs] G G2 := by
  obtain ⟨G1, e1, D1, S1, L1⟩ := force_ok W.ds fun p hp => (W.ib p hp).1
  have q1 := W.a2 h (by simp)
  have q2 := W.a2 hb (by simp)
  have q3 := W.ap h (by simp)
  have q4 := W.ap hb (by simp)
  have q5 := W.ap hi (by simp)
  have q6 := W.ap hs (by simp)
  have m : ∀ x ∈ [hi, hs, hd, hc], x ∉ [h, hb] := fun x hx => by
    simp only [List.mem_cons, List.not_mem_nil, or_false] at hx ⊢
    omega
  have g1 := S1.get (m hi (by simp)) W.it
  have g2 := S1.get (m hs (by simp)) W.sd
  have k1 := W.dk.sm S1 (m hd (by simp)) (m hc (by simp))
  obtain ⟨G2, e2, t1, t2, S2, L2⟩ := forced_ok g1 g2 W.a3 fun p hp => (W.ib p hp).1
  have l1 := lt_get W.it
  have l2 := lt_get W.sd
  have l3 := W.dk.lt
  have m2 : ∀ x ∈ [h, hb, G.length, G.length + 1, hd, hc], x ∉ [hi, hs] := fun x hx => by
    simp only [List.mem_cons, List.not_mem_nil, or_false] at hx ⊢
    omega
  refine ⟨G1, G2, G.length, G.length + 1, e1, e2, ⟨k1.sm S2 (m2 _ (by simp)) (m2 _ (by simp)), D1.sm S2 (m2 _ (by simp)) (m2 _ (by simp)) (m2 _ (by simp)) (m2 _ (by simp)), t1, t2, ?_, ?_, W.a3, layAll_blk its bl W.bb fun p hp => (W.ib p hp).2, fun p hp => (by simp at hp), by rw [layAll_len]; exact W.sz, W.hS, W.hK, Nat.zero_le _⟩, Nat.le_refl _, by omega, (S1.mono (by intro j hj; simp at hj ⊢; omega)).trans (S2.mono (by intro j hj; simp at hj ⊢; omega))⟩
  · intro x hx
    simp only [List.mem_cons, or_false, List.not_mem_nil] at hx
    omega
  · intro x hx
    simp only [List.mem_cons, or_false, List.not_mem_nil] at hx
    omega
end
theorem cut_t (a : List Dv) (c : Nat) : Mi.cut a none (some (c : Int)) = a.take c := by
  unfold Mi.cut Mi.sIx
  simp only
  rw [if_neg (by omega), List.drop_zero, Int.toNat_natCast, Nat.sub_zero]
  by_cases h : c ≤ a.length
  · rw [Nat.min_eq_left h]
  · rw [Nat.min_eq_right (by omega), List.take_length, List.take_of_length_le (by omega)]
theorem rAt {ws : List (List Int)} {hx i : Nat} {G : Sto} (e : G[hx]? = some (.lst (ws.map T))) (h : i < ws.length) : Mi.bSubs (.ref hx) (.int (i : Nat)) G = some (T (ws[i]), G) := by
  have e' : Mi.atI (ws.map T) (i : Nat) = some (T (ws[i])) := by
    unfold Mi.atI
    rw [ixN_nat (by rw [List.length_map]; exact h)]
    show (ws.map T)[i]? = _
    rw [List.getElem?_map, List.getElem?_eq_getElem h]
    rfl
  simp [Mi.bSubs, Mi.bGet, Mi.bIx, Mi.seqOf, Mi.lstOf, e, e']
theorem cutU {w : List Int} (m : Nat) : Mi.cut (w.map Dv.int) none (some (m : Int)) = (w.take m).map Dv.int := by rw [cut_t, List.map_take]
theorem cutV {w : List Int} (m : Nat) (h : m ≤ w.length) : Mi.cut (w.map Dv.int) (some (m : Int)) none = (w.drop m).map Dv.int := by rw [cut_hi _ m (by rw [List.length_map]; exact h), List.map_drop]
def Wd (z : Int) : Prop := 0 ≤ z ∧ z ≤ 1000000000
/-- the blocks' list stands apart from all others -/
structure Bx (hx : Nat) (ws : List (List Int)) (L : List Nat) (G : Sto) : Prop where
  e : G[hx]? = some (.lst (ws.map T))
  m : ∀ x ∈ L, x ≠ hx
theorem Bx.sm {hx : Nat} {ws : List (List Int)} {L M : List Nat} {G G' : Sto} (b : Bx hx ws L G) (s : Sm M G G') (h : ∀ x ∈ M, x ∈ L) : Bx hx ws L G' :=
  ⟨s.get (fun q => b.m hx (h hx q) rfl) b.e, b.m⟩
section
variable {G G' : Sto} {hd hc hi hs h hb hq hn n hx : Nat} {s k : Int} {bl : List Dv} {its : List (Nat × Dv)} {ws : List (List Int)}
theorem place_nat (W : Wh hd hc h hb hq hn hi hs s k bl its n G) (g o : Int) (hg : 0 ≤ g ∧ g < s) (ho : 0 ≤ o ∧ o < k) : ∃ p : Nat, 2 * R' s k + g * k + o = (p : Int) ∧ p < bl.length := by
  have q := place_in W.hS W.hK hg ho
  obtain ⟨p, hp⟩ := Int.eq_ofNat_of_zero_le q.1
  refine ⟨p, hp, ?_⟩
  rw [W.sz]
  omega
end
end Lw

namespace Lw
open Mi (Dv MO Sto Sl Rs bnd ME MT MA MS MF Fl MG MGs MI)
open Ms (mExtend mPar3 fMaxL mLc2 mLc2Loop gUnL mReprK txt mZipT iEnumT bIn fSorted srt mPopAt fMaxTI fIntB bMulT gSubI bAddL)
open PySem (PyData Str)
theorem iAt {ks : List Int} {hf i : Nat} {G : Sto} (e : G[hf]? = some (.lst (ks.map Dv.int))) (h : i < ks.length) : Mi.bSubs (.ref hf) (.int (i : Nat)) G = some (.int (ks[i]), G) := by
  have e' : Mi.atI (ks.map Dv.int) (i : Nat) = some (.int (ks[i])) := by
    unfold Mi.atI
    rw [ixN_nat (by rw [List.length_map]; exact h)]
    show (ks.map Dv.int)[i]? = _
    rw [List.getElem?_map, List.getElem?_eq_getElem h]
    rfl
  simp [Mi.bSubs, Mi.bGet, Mi.bIx, Mi.seqOf, Mi.lstOf, e, e']
theorem ixNeg {n : Nat} (h : 0 < n) : Mi.ixN n (-1) = some (n - 1) := by
  unfold Mi.ixN
  rw [if_neg (by decide), if_pos (by omega), show ((-1 : Int) + (n : Int)).toNat = n - 1 by omega]
theorem iLast {ks : List Int} {hf : Nat} {G : Sto} (e : G[hf]? = some (.lst (ks.map Dv.int))) (h : 0 < ks.length) : ∃ x, Mi.bSubs (.ref hf) (.int (-1)) G = some (.int x, G) ∧ x ∈ ks := by
  have e' : Mi.atI (ks.map Dv.int) (-1) = some (.int (ks[ks.length - 1])) := by
    unfold Mi.atI
    rw [List.length_map, ixNeg h]
    show (ks.map Dv.int)[ks.length - 1]? = _
    rw [List.getElem?_map, List.getElem?_eq_getElem (by omega)]
    rfl
  exact ⟨ks[ks.length - 1], by simp [Mi.bSubs, Mi.bGet, Mi.bIx, Mi.seqOf, Mi.lstOf, e, e'], List.getElem_mem _⟩
def In (b : Int) (ks : List Int) : Prop := ∀ z ∈ ks, 0 ≤ z ∧ z ≤ b
theorem In.set {b : Int} {ks : List Int} (h : In b ks) (i : Nat) {x : Int} (hx : 0 ≤ x ∧ x ≤ b) : In b (ks.set i x) := fun z hz => by
  rcases List.mem_or_eq_of_mem_set hz with q | rfl
  · exact h z q
  · exact hx
theorem neqL (ks : List Int) (hf : Nat) (G : Sto) (e : G[hf]? = some (.lst (ks.map Dv.int))) : Mi.bEq true (.ref hf) (.fls []) G = some (.bl (!decide (ks = [])), G) := by
  have e1 := intsOf_map ks
  simp [Mi.bEq, Mi.sEq, Mi.qEq, Mi.lstOf, e, e1, Mi.intsOf]
section
variable {hd hc : Nat}
theorem Sm.to {G G' : Sto} {hf n : Nat} (s : Sm [hd, hc, hf] G G') (h : n ≤ hf) (hn : n ≤ G.length) : ∀ i, i < n → i ∉ [hd, hc] → G'[i]? = G[i]? := fun i hi hni => s.at_ i (by omega) (by simp at hni ⊢; omega)
theorem some_keys_ok {G : Sto} (d : Dk hd hc G) {s k : Int} (hS : 6 ≤ s ∧ s ≤ 40) (hK : 4 ≤ k ∧ k ≤ 24) (many : Int) (hm : 0 ≤ many ∧ many ≤ 100) :
    ∃ (ks : List Int) (hf : Nat) (G' : Sto), m_law_some_keys [.ref hd, szs s k, .int many] G = some (.ref hf, G') ∧ G'[hf]? = some (.lst (ks.map Dv.int)) ∧ G.length ≤ hf ∧ (ks.length : Int) = many ∧ In 828 ks ∧ Dg hd hc G G' := by
  have pb := prodB hS hK
  obtain ⟨N, hN⟩ : ∃ N : Nat, (N : Int) = N' s k := ⟨(N' s k).toNat, Int.toNat_of_nonneg (by omega)⟩
  have z2 : ∀ G, Mi.bSubs (szs s k) (.int 2) G = some (.int (N' s k), G) := fun G => rfl
  obtain ⟨zs, hzs⟩ : ∃ zs : List Int, zs = (List.range N).map fun i => ((i : Nat) : Int) := ⟨_, rfl⟩
  have lzs : zs.length = N := by rw [hzs]; simp
  have bzs : ∀ z ∈ zs, 0 ≤ z ∧ z ≤ 828 := fun z hz => by
    rw [hzs] at hz
    obtain ⟨i, hi, rfl⟩ := List.mem_map.mp hz
    have := (List.mem_range).mp hi
    omega
  have er : Mi.rng 0 (N' s k) = zs.map Dv.int := by
    unfold Mi.rng
    rw [hzs, List.map_map, show (N' s k - 0).toNat = N by omega]
    refine List.map_congr_left fun i _ => (by simp)
  have ul : Mi.uListR false (.int (N' s k)) G = some (.fls (zs.map Dv.int), G) := by
    unfold Mi.uListR
    dsimp only
    rw [if_pos (by omega), er]
    rfl
  obtain ⟨m1, hm1⟩ : ∃ m1 : Int, (if N' s k < many then N' s k else many) = m1 := ⟨_, rfl⟩
  have bm1 : 0 ≤ m1 ∧ m1 ≤ many ∧ m1 ≤ N' s k := by rw [← hm1]; split <;> omega
  obtain ⟨K0, G1, e1, k1, l1, d1⟩ := law_keys_ok d zs (by omega) m1 bm1.1
  rw [if_neg (by omega)] at l1
  -- the list of them
  have S2 : Sm [] G1 (G1 ++ [.lst (K0.map Dv.int)]) := sm_app
  have D2 := d1.d.disk S2
  have g2 : (G1 ++ [MO.lst (K0.map Dv.int)])[G1.length]? = some (.lst (K0.map Dv.int)) := get0 _ _ _
  obtain ⟨r, G3, e3, a3, b3, d3⟩ := draw D2 (N' s k) (by omega) (by omega)
  have lt1 := d1.d.lt
  have g3 := d3.s.get (show G1.length ∉ [hd, hc] by simp; omega) g2
  obtain ⟨c, hc'⟩ : ∃ c : Nat, (c : Int) = many - (K0.length : Int) := ⟨(many - (K0.length : Int)).toNat, Int.toNat_of_nonneg (by omega)⟩
  have mu : Mi.bMul false (.fls [.int r]) (.int (c : Nat)) G3 = some (.fls (List.replicate c (.int r)), G3) := by
    unfold Mi.bMul
    dsimp only
    rw [if_pos ⟨by omega, by omega, by show 1 * ((c : Nat) : Int).toNat ≤ 16777216; omega⟩, Int.toNat_natCast, rep1]
    rfl
  have ad : Mi.bAdd true (.ref G1.length) (.fls (List.replicate c (.int r))) G3 = some (.ref G3.length, G3 ++ [.lst ((K0 ++ List.replicate c r).map Dv.int)]) := by
    unfold Mi.bAdd
    simp only [g3]
    rw [if_pos (by rw [List.length_map, List.length_replicate]; show _ ≤ 16777216; omega), List.map_append, List.map_replicate]
    rfl
  have lF : (K0 ++ List.replicate c r).length = many := by rw [List.length_append, List.length_replicate]; omega
  have iF : In 828 (K0 ++ List.replicate c r) := fun z hz => by
    rcases (List.mem_append.mp hz : _ ∨ _) with q | q
    · exact bzs z (k1 z q)
    · rw [(List.mem_replicate.mp q).2]; omega
  generalize K0 ++ List.replicate c r = F at ad lF iF
  have S4 : Sm [] G3 (G3 ++ [.lst (F.map Dv.int)]) := sm_app
  have D4 := d3.d.disk S4
  have g4 : (G3 ++ [MO.lst (F.map Dv.int)])[G3.length]? = some (.lst (F.map Dv.int)) := get0 _ _ _
  obtain ⟨way, G5, e5, a5, b5, d5⟩ := draw D4 16 (by decide) (by decide)
  have lt3 := d3.d.lt
  have g5 := d5.s.get (show G3.length ∉ [hd, hc] by simp; omega) g4
  have le3 : G.length ≤ G3.length := Nat.le_trans d1.s.le (Nat.le_trans S2.le d3.s.le)
  have dg5 : Dg hd hc G G5 := ⟨d5.d, ((d1.s.trans (S2.mono (by simp))).trans d3.s).trans ((S4.mono (by simp)).trans d5.s)⟩
  have lenK3 : Mi.fLen [.ref G1.length] G3 = some (.int (K0.length : Nat), G3) := by simp [Mi.fLen, Mi.lstOf, g3]
  have nq := neqL F G3.length G5 g5
  have sq : ∀ G, Mi.seqOf G (.tup (K0.map Dv.int)) = some (K0.map Dv.int) := fun G => rfl
  by_cases h0 : F = []
  · rw [decide_eq_true h0] at nq
    refine ⟨F, G3.length, G5, ?_, g5, le3, lF, iF, dg5⟩
    simp only [Mi.bnd, Mi.mVar, Mi.mC, Mi.mkL, Mi.m2, Mi.m1, Mi.uNeg, Mi.bAdd, Mi.bSub, Mi.bDiv, Mi.bMod, Mi.bPow, Mi.sEq, Mi.bEq, Mi.bCmp, Mi.bLt, Mi.bLe, Mi.bGt, Mi.bGe, Mi.isNon, Mi.mIsN, Mi.mChain, Mi.mAnd, Mi.mOr, Mi.mNot, Mi.mTb, Mi.mTand, Mi.mTor, Mi.mTnot, Mi.mIf, Mi.mNil, Mi.mCons, Mi.mTup, Mi.mLst, Mi.mB, Mi.kOf, Mi.mFld, Mi.mCall, Mi.mCallK, Mi.mMeth, Mi.mMethK, Mi.mDef, Mi.fInt, Mi.fMax, Mi.fMin, Mi.isI, Mi.mIsI, Ms.mIsC, Mi.gNm, Mi.gNil, Mi.gCons, Mi.gTup, Mi.mSeq, Mi.mSkip, Mi.mBrk, Mi.mCont, Mi.mAsg, Mi.mPar, Mi.mExpr, Mi.mRet, Mi.mRetN, Mi.mIfS, Mi.tYes, Mi.wipe, Ms.mDct0, Ms.bAddI, List.map_cons, List.map_nil, List.nil_append, List.cons_append, List.length_cons, List.length_nil, List.replicate_succ, List.replicate_zero, List.getElem?_cons_zero, List.getElem?_cons_succ, List.getElem?_nil, List.set_cons_zero, List.set_cons_succ, Option.map_some, Option.map_none, if_true, if_false, reduceIte, decide_true, decide_false, Nat.reduceAdd, Nat.reduceLeDiff, List.mem_cons, List.mem_singleton, true_or, or_true, true_and, and_true, bne_self_eq_false, Bool.not_true, Bool.not_false, reduceCtorEq, Nat.reduceEqDiff, beq_self_eq_true, Nat.reduceLT, Int.reduceLT, Int.reduceLE, Int.reduceToNat, Int.reduceAdd, Int.reduceSub, Int.reduceMul, Int.reduceNeg, String.reduceEq, String.reduceBEq, List.lookup_cons, List.lookup_nil, Mi.big, Mi.putF, List.length_append, List.append_assoc, ite_true, ite_false, Bool.false_eq_true, and_self, not_true_eq_false, not_false_eq_true, Sum.inr.injEq, Sum.inl.injEq, Mi.look, Mi.put, List.any_cons, List.any_nil, Bool.or_true, Bool.or_false, Bool.true_or, Bool.false_or, List.find?_cons, Option.getD_some, Option.getD_none, Bool.bne_false, Bool.false_bne, Bool.true_bne, Bool.bne_true, Int.reduceEq, Int.reducePow, -Mi.bEq, -Mi.bAdd, m_law_some_keys, b_law_some_keys, z2, ul, hm1, e1, Mi.fList, sq, e3, lenK3, ← hc', mu, ad, e5, nq]
  · rw [decide_eq_false h0] at nq
    have lpos : 0 < F.length := List.length_pos_iff.mpr h0
    have lenF : Mi.fLen [.ref G3.length] G5 = some (.int (F.length : Nat), G5) := by simp [Mi.fLen, Mi.lstOf, g5]
    by_cases h3 : way < 3
    · obtain ⟨j, G6, e6, a6, b6, d6⟩ := draw d5.d (F.length : Int) (by omega) (by omega)
      obtain ⟨j, rfl⟩ := Int.eq_ofNat_of_zero_le a6
      have hj : j < F.length := by omega
      have lt5 := d5.d.lt
      have g6 := d6.s.get (show G3.length ∉ [hd, hc] by simp; omega) g5
      have q0 : Mi.bSubs (.ref G3.length) (.int 0) G6 = some (.int F[0], G6) := iAt g6 (i := 0) lpos
      obtain ⟨x, q1, hx⟩ := iLast g6 lpos
      have ix : Mi.ixN F.length (j : Int) = some j := ixN_nat hj
      obtain ⟨y, hy, q2⟩ : ∃ y, (0 ≤ y ∧ y ≤ 828) ∧ Mi.bSubs (.fls [.int (N' s k), .int F[0], .int x]) (.int way) G6 = some (.int y, G6) := by
        have b0 := iF F[0] (List.getElem_mem _)
        have bx := iF x hx
        rcases (show way = 0 ∨ way = 1 ∨ way = 2 by omega) with rfl | rfl | rfl
        · exact ⟨_, by omega, rfl⟩
        · exact ⟨_, b0, rfl⟩
        · exact ⟨_, bx, rfl⟩
      have lm : (F.map Dv.int).length = F.length := List.length_map ..
      have S7 : Sm [G3.length] G6 (G6.set G3.length (.lst ((F.map Dv.int).set j (.int y)))) := sm_set (by simp)
      refine ⟨F.set j y, G3.length, G6.set G3.length (.lst ((F.map Dv.int).set j (.int y))), ?_, by rw [set_at g6, List.map_set], le3, by rw [List.length_set]; exact lF, iF.set j hy, ?_, ⟨Nat.le_trans dg5.s.le (Nat.le_trans d6.s.le S7.le), fun i hi hni => ?_⟩⟩
      · simp only [Mi.bnd, Mi.mVar, Mi.mC, Mi.mkL, Mi.m2, Mi.m1, Mi.uNeg, Mi.bAdd, Mi.bSub, Mi.bDiv, Mi.bMod, Mi.bPow, Mi.sEq, Mi.bEq, Mi.bCmp, Mi.bLt, Mi.bLe, Mi.bGt, Mi.bGe, Mi.isNon, Mi.mIsN, Mi.mChain, Mi.mAnd, Mi.mOr, Mi.mNot, Mi.mTb, Mi.mTand, Mi.mTor, Mi.mTnot, Mi.mIf, Mi.mNil, Mi.mCons, Mi.mTup, Mi.mLst, Mi.mB, Mi.kOf, Mi.mFld, Mi.mCall, Mi.mCallK, Mi.mMeth, Mi.mMethK, Mi.mDef, Mi.fInt, Mi.fMax, Mi.fMin, Mi.isI, Mi.mIsI, Ms.mIsC, Mi.gNm, Mi.gNil, Mi.gCons, Mi.gTup, Mi.mSeq, Mi.mSkip, Mi.mBrk, Mi.mCont, Mi.mAsg, Mi.mPar, Mi.mExpr, Mi.mRet, Mi.mRetN, Mi.mIfS, Mi.tYes, Mi.wipe, Ms.mDct0, Ms.bAddI, List.map_cons, List.map_nil, List.nil_append, List.cons_append, List.length_cons, List.length_nil, List.replicate_succ, List.replicate_zero, List.getElem?_cons_zero, List.getElem?_cons_succ, List.getElem?_nil, List.set_cons_zero, List.set_cons_succ, Option.map_some, Option.map_none, if_true, if_false, reduceIte, decide_true, decide_false, Nat.reduceAdd, Nat.reduceLeDiff, List.mem_cons, List.mem_singleton, true_or, or_true, true_and, and_true, bne_self_eq_false, Bool.not_true, Bool.not_false, reduceCtorEq, Nat.reduceEqDiff, beq_self_eq_true, Nat.reduceLT, Int.reduceLT, Int.reduceLE, Int.reduceToNat, Int.reduceAdd, Int.reduceSub, Int.reduceMul, Int.reduceNeg, String.reduceEq, String.reduceBEq, List.lookup_cons, List.lookup_nil, Mi.big, Mi.putF, List.length_append, List.append_assoc, ite_true, ite_false, Bool.false_eq_true, and_self, not_true_eq_false, not_false_eq_true, Sum.inr.injEq, Sum.inl.injEq, Mi.look, Mi.put, List.any_cons, List.any_nil, Bool.or_true, Bool.or_false, Bool.true_or, Bool.false_or, List.find?_cons, Option.getD_some, Option.getD_none, Bool.bne_false, Bool.false_bne, Bool.true_bne, Bool.bne_true, Int.reduceEq, Int.reducePow, -Mi.bEq, -Mi.bAdd, m_law_some_keys, b_law_some_keys, z2, ul, hm1, e1, Mi.fList, sq, e3, lenK3, ← hc', mu, ad, e5, nq, h3, lenF, e6, q0, q1, q2, Mi.mSetI, g6, lm, ix]
      · exact d6.d.sm S7 (by simp; omega) (by simp; omega)
      · rw [S7.at_ i (by have := d6.s.le; have := d5.s.le; have := S4.le; omega) (by simp; omega), d6.s.at_ i (by have := d5.s.le; have := S4.le; omega) hni]
        exact dg5.s.at_ i hi hni
    · by_cases h4 : way = 3
      · have q0 : Mi.bSubs (.ref G3.length) (.int 0) G5 = some (.int F[0], G5) := iAt g5 (i := 0) lpos
        obtain ⟨x, q1, hx⟩ := iLast g5 lpos
        have lm : (F.map Dv.int).length = F.length := List.length_map ..
        have ix : Mi.ixN F.length 0 = some 0 := ixN_nat lpos
        have ix2 : Mi.ixN F.length (-1) = some (F.length - 1) := ixNeg lpos
        have S7 : Sm [G3.length] G5 (G5.set G3.length (.lst ((F.map Dv.int).set 0 (.int x)))) := sm_set (by simp)
        have g7 : (G5.set G3.length (.lst ((F.map Dv.int).set 0 (.int x))))[G3.length]? = some (.lst ((F.map Dv.int).set 0 (.int x))) := set_at g5
        have S8 : Sm [G3.length] (G5.set G3.length (.lst ((F.map Dv.int).set 0 (.int x)))) ((G5.set G3.length (.lst ((F.map Dv.int).set 0 (.int x)))).set G3.length (.lst (((F.map Dv.int).set 0 (.int x)).set (F.length - 1) (.int F[0])))) := sm_set (by simp)
        have lt5 := d5.d.lt
        subst h4
        refine ⟨(F.set 0 x).set (F.length - 1) F[0], G3.length, (G5.set G3.length (.lst ((F.map Dv.int).set 0 (.int x)))).set G3.length (.lst (((F.map Dv.int).set 0 (.int x)).set (F.length - 1) (.int F[0]))), ?_, by rw [set_at g7, List.map_set, List.map_set], le3, by rw [List.length_set, List.length_set]; exact lF, (iF.set 0 (iF x hx)).set _ (iF _ (List.getElem_mem _)), ?_, ⟨Nat.le_trans dg5.s.le (Nat.le_trans S7.le S8.le), fun i hi hni => ?_⟩⟩
        · simp only [Mi.bnd, Mi.mVar, Mi.mC, Mi.mkL, Mi.m2, Mi.m1, Mi.uNeg, Mi.bAdd, Mi.bSub, Mi.bDiv, Mi.bMod, Mi.bPow, Mi.sEq, Mi.bEq, Mi.bCmp, Mi.bLt, Mi.bLe, Mi.bGt, Mi.bGe, Mi.isNon, Mi.mIsN, Mi.mChain, Mi.mAnd, Mi.mOr, Mi.mNot, Mi.mTb, Mi.mTand, Mi.mTor, Mi.mTnot, Mi.mIf, Mi.mNil, Mi.mCons, Mi.mTup, Mi.mLst, Mi.mB, Mi.kOf, Mi.mFld, Mi.mCall, Mi.mCallK, Mi.mMeth, Mi.mMethK, Mi.mDef, Mi.fInt, Mi.fMax, Mi.fMin, Mi.isI, Mi.mIsI, Ms.mIsC, Mi.gNm, Mi.gNil, Mi.gCons, Mi.gTup, Mi.mSeq, Mi.mSkip, Mi.mBrk, Mi.mCont, Mi.mAsg, Mi.mPar, Mi.mExpr, Mi.mRet, Mi.mRetN, Mi.mIfS, Mi.tYes, Mi.wipe, Ms.mDct0, Ms.bAddI, List.map_cons, List.map_nil, List.nil_append, List.cons_append, List.length_cons, List.length_nil, List.replicate_succ, List.replicate_zero, List.getElem?_cons_zero, List.getElem?_cons_succ, List.getElem?_nil, List.set_cons_zero, List.set_cons_succ, Option.map_some, Option.map_none, if_true, if_false, reduceIte, decide_true, decide_false, Nat.reduceAdd, Nat.reduceLeDiff, List.mem_cons, List.mem_singleton, true_or, or_true, true_and, and_true, bne_self_eq_false, Bool.not_true, Bool.not_false, reduceCtorEq, Nat.reduceEqDiff, beq_self_eq_true, Nat.reduceLT, Int.reduceLT, Int.reduceLE, Int.reduceToNat, Int.reduceAdd, Int.reduceSub, Int.reduceMul, Int.reduceNeg, String.reduceEq, String.reduceBEq, List.lookup_cons, List.lookup_nil, Mi.big, Mi.putF, List.length_append, List.append_assoc, ite_true, ite_false, Bool.false_eq_true, and_self, not_true_eq_false, not_false_eq_true, Sum.inr.injEq, Sum.inl.injEq, Mi.look, Mi.put, List.any_cons, List.any_nil, Bool.or_true, Bool.or_false, Bool.true_or, Bool.false_or, List.find?_cons, Option.getD_some, Option.getD_none, Bool.bne_false, Bool.false_bne, Bool.true_bne, Bool.bne_true, Int.reduceEq, Int.reducePow, -Mi.bEq, eqI, -Mi.bAdd, m_law_some_keys, b_law_some_keys, z2, ul, hm1, e1, Mi.fList, sq, e3, lenK3, ← hc', mu, ad, e5, nq, q0, q1, gSubI, g5, lm, ix, g7, List.length_set, ix2]
        · exact (d5.d.sm S7 (by simp; omega) (by simp; omega)).sm S8 (by simp; omega) (by simp; omega)
        · have hl : i < G5.length := by have := d5.s.le; have := S4.le; omega
          rw [S8.at_ i (Nat.lt_of_lt_of_le hl S7.le) (by simp; omega), S7.at_ i hl (by simp; omega)]
          exact dg5.s.at_ i hi hni
      · refine ⟨F, G3.length, G5, ?_, g5, le3, lF, iF, dg5⟩
        simp only [Mi.bnd, Mi.mVar, Mi.mC, Mi.mkL, Mi.m2, Mi.m1, Mi.uNeg, Mi.bAdd, Mi.bSub, Mi.bDiv, Mi.bMod, Mi.bPow, Mi.sEq, Mi.bEq, Mi.bCmp, Mi.bLt, Mi.bLe, Mi.bGt, Mi.bGe, Mi.isNon, Mi.mIsN, Mi.mChain, Mi.mAnd, Mi.mOr, Mi.mNot, Mi.mTb, Mi.mTand, Mi.mTor, Mi.mTnot, Mi.mIf, Mi.mNil, Mi.mCons, Mi.mTup, Mi.mLst, Mi.mB, Mi.kOf, Mi.mFld, Mi.mCall, Mi.mCallK, Mi.mMeth, Mi.mMethK, Mi.mDef, Mi.fInt, Mi.fMax, Mi.fMin, Mi.isI, Mi.mIsI, Ms.mIsC, Mi.gNm, Mi.gNil, Mi.gCons, Mi.gTup, Mi.mSeq, Mi.mSkip, Mi.mBrk, Mi.mCont, Mi.mAsg, Mi.mPar, Mi.mExpr, Mi.mRet, Mi.mRetN, Mi.mIfS, Mi.tYes, Mi.wipe, Ms.mDct0, Ms.bAddI, List.map_cons, List.map_nil, List.nil_append, List.cons_append, List.length_cons, List.length_nil, List.replicate_succ, List.replicate_zero, List.getElem?_cons_zero, List.getElem?_cons_succ, List.getElem?_nil, List.set_cons_zero, List.set_cons_succ, Option.map_some, Option.map_none, if_true, if_false, reduceIte, decide_true, decide_false, Nat.reduceAdd, Nat.reduceLeDiff, List.mem_cons, List.mem_singleton, true_or, or_true, true_and, and_true, bne_self_eq_false, Bool.not_true, Bool.not_false, reduceCtorEq, Nat.reduceEqDiff, beq_self_eq_true, Nat.reduceLT, Int.reduceLT, Int.reduceLE, Int.reduceToNat, Int.reduceAdd, Int.reduceSub, Int.reduceMul, Int.reduceNeg, String.reduceEq, String.reduceBEq, List.lookup_cons, List.lookup_nil, Mi.big, Mi.putF, List.length_append, List.append_assoc, ite_true, ite_false, Bool.false_eq_true, and_self, not_true_eq_false, not_false_eq_true, Sum.inr.injEq, Sum.inl.injEq, Mi.look, Mi.put, List.any_cons, List.any_nil, Bool.or_true, Bool.or_false, Bool.true_or, Bool.false_or, List.find?_cons, Option.getD_some, Option.getD_none, Bool.bne_false, Bool.false_bne, Bool.true_bne, Bool.bne_true, Int.reduceEq, Int.reducePow, -Mi.bEq, eqI, -Mi.bAdd, m_law_some_keys, b_law_some_keys, z2, ul, hm1, e1, Mi.fList, sq, e3, lenK3, ← hc', mu, ad, e5, nq, h3, h4]
end
end Lw

namespace Lw
open Mi (Dv MO Sto Sl Rs bnd ME MT MA MS MF Fl MG MGs MI)
open Ms (mExtend mPar3 fMaxL mLc2 mLc2Loop gUnL mReprK txt mZipT iEnumT bIn fSorted srt mPopAt fMaxTI fIntB bMulT gSubI bAddL)
open PySem (PyData Str)
section
variable {hd hc : Nat}
/-- some of the drops are taken -/
theorem drops_go (hp hq : Nat) (n1 : hp ∉ [hd, hc]) (n2 : hq ∉ [hd, hc]) (P ZS : List Int) (a1 a2 a3 a4 a5 a6 a8 a9 a10 a11 : Option Dv) : ∀ (zs acc : List Int) (G : Sto), Dk hd hc G → G[hp]? = some (.lst (P.map Dv.int)) → G[hq]? = some (.lst (ZS.map Dv.int)) → acc.length + zs.length ≤ 1000 →
    ∃ (ys : List Int) (G' : Sto), Mi.mLcLoop (Mi.gNm 12) qt_law_some_summary_1 qe_law_some_summary_1 (fun G' => Mi.seqOf G' (.ref hq) = some (ZS.map Dv.int)) [some (.ref hd), a1, a2, a3, a4, a5, a6, some (.ref hp), a8, a9, a10, a11, none] (zs.map Dv.int) (acc.map Dv.int) G = some ((acc ++ ys).map Dv.int, G') ∧ (∀ y ∈ ys, y ∈ zs) ∧ ys.length ≤ zs.length ∧ Dr hd hc G G'
  | [], acc, G, d, ep, eq', _ => ⟨[], G, by
      rw [List.map_nil]
      unfold Mi.mLcLoop
      rw [if_pos (seq_ref eq'), List.append_nil], fun y h => h, Nat.le_refl _, ⟨d, Sm.refl, rfl⟩⟩
  | z :: zs, acc, G, d, ep, eq', hl => by
    rw [List.length_cons] at hl
    have ie := intsOf_map P
    have bi : bIn true (.int z) (.ref hp) G = some (.bl (!decide (z ∈ P)), G) := by simp [bIn, Mi.seqOf, Mi.lstOf, ep, ie]
    have hacc : (acc.map Dv.int).length < Mi.big := by rw [List.length_map]; show _ < 16777216; omega
    have step : ∀ (b : Bool) (G1 : Sto), Dr hd hc G G1 → qt_law_some_summary_1 [some (.ref hd), a1, a2, a3, a4, a5, a6, some (.ref hp), a8, a9, a10, a11, some (.int z)] G = some (b, G1) →
        ∃ (ys : List Int) (G' : Sto), Mi.mLcLoop (Mi.gNm 12) qt_law_some_summary_1 qe_law_some_summary_1 (fun G' => Mi.seqOf G' (.ref hq) = some (ZS.map Dv.int)) [some (.ref hd), a1, a2, a3, a4, a5, a6, some (.ref hp), a8, a9, a10, a11, none] ((z :: zs).map Dv.int) (acc.map Dv.int) G = some ((acc ++ ys).map Dv.int, G') ∧ (∀ y ∈ ys, y ∈ z :: zs) ∧ ys.length ≤ zs.length + 1 ∧ Dr hd hc G G' := fun b G1 d1 et => by
      have ep1 := d1.s.get n1 ep
      have eq1 := d1.s.get n2 eq'
      cases b with
      | true =>
        obtain ⟨ys, G', e', m', l', d'⟩ := drops_go hp hq n1 n2 P ZS a1 a2 a3 a4 a5 a6 a8 a9 a10 a11 zs (acc ++ [z]) G1 d1.d ep1 eq1 (by rw [List.length_append, List.length_singleton]; omega)
        refine ⟨z :: ys, G', ?_, fun y hy => ?_, by rw [List.length_cons]; omega, d1.trans d'⟩
        · rw [List.map_cons]
          unfold Mi.mLcLoop
          rw [if_pos ⟨seq_ref eq', hacc⟩]
          simp only [Mi.gNm, List.set_cons_succ, List.set_cons_zero]
          rw [et]
          have e2 : qe_law_some_summary_1 [some (.ref hd), a1, a2, a3, a4, a5, a6, some (.ref hp), a8, a9, a10, a11, some (.int z)] G1 = some (.int z, G1) := rfl
          dsimp only
          rw [e2]
          dsimp only
          rw [List.map_append] at e'
          rw [show acc ++ z :: ys = acc ++ [z] ++ ys by simp]
          exact e'
        · rcases (List.mem_cons.mp hy : _ ∨ _) with rfl | hy
          · exact List.mem_cons_self ..
          · exact List.mem_cons_of_mem _ (m' y hy)
      | false =>
        obtain ⟨ys, G', e', m', l', d'⟩ := drops_go hp hq n1 n2 P ZS a1 a2 a3 a4 a5 a6 a8 a9 a10 a11 zs acc G1 d1.d ep1 eq1 (by omega)
        refine ⟨ys, G', ?_, fun y hy => List.mem_cons_of_mem _ (m' y hy), by omega, d1.trans d'⟩
        rw [List.map_cons]
        unfold Mi.mLcLoop
        rw [if_pos ⟨seq_ref eq', hacc⟩]
        simp only [Mi.gNm, List.set_cons_succ, List.set_cons_zero]
        rw [et]
        dsimp only
        exact e'
    by_cases hz : z ∈ P
    · rw [decide_eq_true hz] at bi
      obtain ⟨r, G1, e1, a1', b1, d1⟩ := draw d 12 (by decide) (by decide)
      refine step (decide (r = 0)) G1 d1 ?_
      simp only [Mi.bnd, Mi.mVar, Mi.mC, Mi.mkL, Mi.m2, Mi.m1, Mi.uNeg, Mi.bAdd, Mi.bSub, Mi.bDiv, Mi.bMod, Mi.bPow, Mi.sEq, Mi.bEq, Mi.bCmp, Mi.bLt, Mi.bLe, Mi.bGt, Mi.bGe, Mi.isNon, Mi.mIsN, Mi.mChain, Mi.mAnd, Mi.mOr, Mi.mNot, Mi.mTb, Mi.mTand, Mi.mTor, Mi.mTnot, Mi.mIf, Mi.mNil, Mi.mCons, Mi.mTup, Mi.mLst, Mi.mB, Mi.kOf, Mi.mFld, Mi.mCall, Mi.mCallK, Mi.mMeth, Mi.mMethK, Mi.mDef, Mi.fInt, Mi.fMax, Mi.fMin, Mi.isI, Mi.mIsI, Ms.mIsC, Mi.gNm, Mi.gNil, Mi.gCons, Mi.gTup, Mi.mSeq, Mi.mSkip, Mi.mBrk, Mi.mCont, Mi.mAsg, Mi.mPar, Mi.mExpr, Mi.mRet, Mi.mRetN, Mi.mIfS, Mi.tYes, Mi.wipe, Ms.mDct0, Ms.bAddI, List.map_cons, List.map_nil, List.nil_append, List.cons_append, List.length_cons, List.length_nil, List.replicate_succ, List.replicate_zero, List.getElem?_cons_zero, List.getElem?_cons_succ, List.getElem?_nil, List.set_cons_zero, List.set_cons_succ, Option.map_some, Option.map_none, if_true, if_false, reduceIte, decide_true, decide_false, Nat.reduceAdd, Nat.reduceLeDiff, List.mem_cons, List.mem_singleton, true_or, or_true, true_and, and_true, bne_self_eq_false, Bool.not_true, Bool.not_false, reduceCtorEq, Nat.reduceEqDiff, beq_self_eq_true, Nat.reduceLT, Int.reduceLT, Int.reduceLE, Int.reduceToNat, Int.reduceAdd, Int.reduceSub, Int.reduceMul, Int.reduceNeg, String.reduceEq, String.reduceBEq, List.lookup_cons, List.lookup_nil, Mi.big, Mi.putF, List.length_append, List.append_assoc, ite_true, ite_false, Bool.false_eq_true, and_self, not_true_eq_false, not_false_eq_true, Sum.inr.injEq, Sum.inl.injEq, Mi.look, Mi.put, List.any_cons, List.any_nil, Bool.or_true, Bool.or_false, Bool.true_or, Bool.false_or, List.find?_cons, Option.getD_some, Option.getD_none, Bool.bne_false, Bool.false_bne, Bool.true_bne, Bool.bne_true, Int.reduceEq, Int.reducePow, -Mi.bEq, eqI, qt_law_some_summary_1, bi, e1]
    · rw [decide_eq_false hz] at bi
      refine step true G ⟨d, Sm.refl, rfl⟩ ?_
      simp only [Mi.bnd, Mi.mVar, Mi.mC, Mi.mkL, Mi.m2, Mi.m1, Mi.uNeg, Mi.bAdd, Mi.bSub, Mi.bDiv, Mi.bMod, Mi.bPow, Mi.sEq, Mi.bEq, Mi.bCmp, Mi.bLt, Mi.bLe, Mi.bGt, Mi.bGe, Mi.isNon, Mi.mIsN, Mi.mChain, Mi.mAnd, Mi.mOr, Mi.mNot, Mi.mTb, Mi.mTand, Mi.mTor, Mi.mTnot, Mi.mIf, Mi.mNil, Mi.mCons, Mi.mTup, Mi.mLst, Mi.mB, Mi.kOf, Mi.mFld, Mi.mCall, Mi.mCallK, Mi.mMeth, Mi.mMethK, Mi.mDef, Mi.fInt, Mi.fMax, Mi.fMin, Mi.isI, Mi.mIsI, Ms.mIsC, Mi.gNm, Mi.gNil, Mi.gCons, Mi.gTup, Mi.mSeq, Mi.mSkip, Mi.mBrk, Mi.mCont, Mi.mAsg, Mi.mPar, Mi.mExpr, Mi.mRet, Mi.mRetN, Mi.mIfS, Mi.tYes, Mi.wipe, Ms.mDct0, Ms.bAddI, List.map_cons, List.map_nil, List.nil_append, List.cons_append, List.length_cons, List.length_nil, List.replicate_succ, List.replicate_zero, List.getElem?_cons_zero, List.getElem?_cons_succ, List.getElem?_nil, List.set_cons_zero, List.set_cons_succ, Option.map_some, Option.map_none, if_true, if_false, reduceIte, decide_true, decide_false, Nat.reduceAdd, Nat.reduceLeDiff, List.mem_cons, List.mem_singleton, true_or, or_true, true_and, and_true, bne_self_eq_false, Bool.not_true, Bool.not_false, reduceCtorEq, Nat.reduceEqDiff, beq_self_eq_true, Nat.reduceLT, Int.reduceLT, Int.reduceLE, Int.reduceToNat, Int.reduceAdd, Int.reduceSub, Int.reduceMul, Int.reduceNeg, String.reduceEq, String.reduceBEq, List.lookup_cons, List.lookup_nil, Mi.big, Mi.putF, List.length_append, List.append_assoc, ite_true, ite_false, Bool.false_eq_true, and_self, not_true_eq_false, not_false_eq_true, Sum.inr.injEq, Sum.inl.injEq, Mi.look, Mi.put, List.any_cons, List.any_nil, Bool.or_true, Bool.or_false, Bool.true_or, Bool.false_or, List.find?_cons, Option.getD_some, Option.getD_none, Bool.bne_false, Bool.false_bne, Bool.true_bne, Bool.bne_true, Int.reduceEq, Int.reducePow, qt_law_some_summary_1, bi]
/-- a word of the summary drawn anew -/
theorem bend_go (hw : Nat) (n1 : hw ∉ [hd, hc]) (a1 a2 a3 a4 a5 a6 a7 a8 a12 : Option Dv) : ∀ (ts : List Dv) (W : List Int) (G : Sto) (x10 x11 : Option Dv), Dk hd hc G → G[hw]? = some (.lst (W.map Dv.int)) → Blk W →
    ∃ (W' : List Int) (y10 y11 : Option Dv) (G' : Sto), Mi.mLoop (Mi.gNm 10) qb_law_some_summary_1 (fun _ => True) ts [some (.ref hd), a1, a2, a3, a4, a5, a6, a7, a8, some (.ref hw), x10, x11, a12] G = some (.nx, [some (.ref hd), a1, a2, a3, a4, a5, a6, a7, a8, some (.ref hw), y10, y11, a12], G') ∧ G'[hw]? = some (.lst (W'.map Dv.int)) ∧ Blk W' ∧ Dk hd hc G' ∧ Sm [hd, hc, hw] G G'
  | [], W, G, x10, x11, d, e, B => ⟨W, x10, x11, G, by rw [Mi.mLoop, if_pos trivial], e, B, d, Sm.refl⟩
  | t :: ts, W, G, x10, x11, d, e, B => by
    obtain ⟨r1, G1, e1, a1', b1, d1⟩ := draw d 32 (by decide) (by decide)
    obtain ⟨y, G2, e2, hy, d2⟩ := pick d1.d [.int 0, .int 1, .int 3, .int 4, .int 5, .int 6, .int 7, .int 30, .int 31, .int r1] (by simp) (by simp)
    have hyi : ∃ i : Nat, y = .int (i : Int) ∧ i < 32 := by
      simp only [List.mem_cons, List.not_mem_nil, or_false] at hy
      have mk : ∀ i : Int, 0 ≤ i → i < 32 → ∃ p : Nat, Dv.int i = .int (p : Int) ∧ p < 32 := fun i h1 h2 => ⟨i.toNat, by rw [Int.toNat_of_nonneg h1], by omega⟩
      rcases hy with rfl | rfl | rfl | rfl | rfl | rfl | rfl | rfl | rfl | rfl <;> exact mk _ (by omega) (by omega)
    obtain ⟨i, rfl, hi⟩ := hyi
    have dd := d1.trans d2
    have g2 := dd.s.get n1 e
    have hi' : i < W.length := by rw [B.1]; exact hi
    have s1 := iAt g2 hi'
    have bw := B.2 W[i] (List.getElem_mem _)
    generalize W[i] = w at s1 bw
    obtain ⟨u, hu⟩ : ∃ u : Int, (if w < 1000000000 then w + 1 else 0) = u := ⟨_, rfl⟩
    have bu : 0 ≤ u ∧ u ≤ 1000000000 := by rw [← hu]; split <;> omega
    obtain ⟨v, hv⟩ : ∃ v : Int, (if w - 1 > 0 then w - 1 else 0) = v := ⟨_, rfl⟩
    have bv : 0 ≤ v ∧ v ≤ 1000000000 := by rw [← hv]; split <;> omega
    obtain ⟨x, G3, e3, hx, d3⟩ := pick d2.d [.int 0, .int 1, .int 2, .int u, .int v, .int 1000000000] (by simp) (by simp)
    have hxi : ∃ z, x = .int z ∧ 0 ≤ z ∧ z ≤ 1000000000 := by
      simp only [List.mem_cons, or_false, List.not_mem_nil] at hx
      rcases hx with rfl | rfl | rfl | rfl | rfl | rfl
      · exact ⟨_, rfl, by decide, by decide⟩
      · exact ⟨_, rfl, by decide, by decide⟩
      · exact ⟨_, rfl, by decide, by decide⟩
      · exact ⟨_, rfl, bu⟩
      · exact ⟨_, rfl, bv⟩
      · exact ⟨_, rfl, by decide, by decide⟩
    obtain ⟨x, rfl, bx⟩ := hxi
    have g3 := d3.s.get n1 g2
    have ddd := dd.trans d3
    have S4 : Sm [hw] G3 (G3.set hw (.lst ((W.map Dv.int).set i (.int x)))) := sm_set (by simp)
    have k4 := ddd.d.sm S4 (by simp only [List.mem_singleton]; intro q; exact n1 (by simp [q])) (by simp only [List.mem_singleton]; intro q; exact n1 (by simp [q]))
    have g4 : (G3.set hw (.lst ((W.map Dv.int).set i (.int x))))[hw]? = some (.lst ((W.set i x).map Dv.int)) := by rw [set_at g3, List.map_set]
    obtain ⟨W', y10, y11, G', e', g', B', k', s'⟩ := bend_go hw n1 a1 a2 a3 a4 a5 a6 a7 a8 a12 ts (W.set i x) _ (some t) (some (.int (i : Nat))) k4 g4 ⟨by rw [List.length_set]; exact B.1, fun z hz => by
      rcases List.mem_or_eq_of_mem_set hz with q | rfl
      · exact B.2 z q
      · exact bx⟩
    refine ⟨W', y10, y11, G', ?_, g', B', k', ((ddd.s.mono (by intro j hj; simp at hj ⊢; omega)).trans (S4.mono (by intro j hj; simp at hj ⊢; omega))).trans s'⟩
    have hb : qb_law_some_summary_1 [some (.ref hd), a1, a2, a3, a4, a5, a6, a7, a8, some (.ref hw), some t, x11, a12] G = some (.nx, [some (.ref hd), a1, a2, a3, a4, a5, a6, a7, a8, some (.ref hw), some t, some (.int (i : Nat)), a12], G3.set hw (.lst ((W.map Dv.int).set i (.int x)))) := by
      have p9 : (Int.natAbs 10 < 2 ^ 64) = True := by decide
      have ix : Mi.ixN W.length (i : Int) = some i := ixN_nat hi'
      have lm : (W.map Dv.int).length = W.length := List.length_map ..
      have z3 : ∀ G, Mi.bAdd false (.int w) (.int 1) G = some (.int (w + 1), G) := fun G => rfl
      have gt : ∀ a b : Int, (a > b) = (b < a) := fun _ _ => rfl
      by_cases hw1 : w < 1000000000
      · rw [if_pos hw1] at hu
        subst hu
        simp only [Mi.bnd, Mi.mVar, Mi.mC, Mi.mkL, Mi.m2, Mi.m1, Mi.uNeg, Mi.bAdd, Mi.bSub, Mi.bDiv, Mi.bMod, Mi.bPow, Mi.sEq, Mi.bEq, Mi.bCmp, Mi.bLt, Mi.bLe, Mi.bGt, Mi.bGe, Mi.isNon, Mi.mIsN, Mi.mChain, Mi.mAnd, Mi.mOr, Mi.mNot, Mi.mTb, Mi.mTand, Mi.mTor, Mi.mTnot, Mi.mIf, Mi.mNil, Mi.mCons, Mi.mTup, Mi.mLst, Mi.mB, Mi.kOf, Mi.mFld, Mi.mCall, Mi.mCallK, Mi.mMeth, Mi.mMethK, Mi.mDef, Mi.fInt, Mi.fMax, Mi.fMin, Mi.isI, Mi.mIsI, Ms.mIsC, Mi.gNm, Mi.gNil, Mi.gCons, Mi.gTup, Mi.mSeq, Mi.mSkip, Mi.mBrk, Mi.mCont, Mi.mAsg, Mi.mPar, Mi.mExpr, Mi.mRet, Mi.mRetN, Mi.mIfS, Mi.tYes, Mi.wipe, Ms.mDct0, Ms.bAddI, List.map_cons, List.map_nil, List.nil_append, List.cons_append, List.length_cons, List.length_nil, List.replicate_succ, List.replicate_zero, List.getElem?_cons_zero, List.getElem?_cons_succ, List.getElem?_nil, List.set_cons_zero, List.set_cons_succ, Option.map_some, Option.map_none, if_true, if_false, reduceIte, decide_true, decide_false, Nat.reduceAdd, Nat.reduceLeDiff, List.mem_cons, List.mem_singleton, true_or, or_true, true_and, and_true, bne_self_eq_false, Bool.not_true, Bool.not_false, reduceCtorEq, Nat.reduceEqDiff, beq_self_eq_true, Nat.reduceLT, Int.reduceLT, Int.reduceLE, Int.reduceToNat, Int.reduceAdd, Int.reduceSub, Int.reduceMul, Int.reduceNeg, String.reduceEq, String.reduceBEq, List.lookup_cons, List.lookup_nil, Mi.big, Mi.putF, List.length_append, List.append_assoc, ite_true, ite_false, Bool.false_eq_true, and_self, not_true_eq_false, not_false_eq_true, Sum.inr.injEq, Sum.inl.injEq, Mi.look, Mi.put, List.any_cons, List.any_nil, Bool.or_true, Bool.or_false, Bool.true_or, Bool.false_or, List.find?_cons, Option.getD_some, Option.getD_none, Bool.bne_false, Bool.false_bne, Bool.true_bne, Bool.bne_true, Int.reduceEq, Int.reducePow, -Mi.bAdd, qb_law_some_summary_1, e1, e2, s1, p9, hw1, z3, hv, e3, Mi.mSetI, g3, lm, ix]
      · rw [if_neg hw1] at hu
        subst hu
        simp only [Mi.bnd, Mi.mVar, Mi.mC, Mi.mkL, Mi.m2, Mi.m1, Mi.uNeg, Mi.bAdd, Mi.bSub, Mi.bDiv, Mi.bMod, Mi.bPow, Mi.sEq, Mi.bEq, Mi.bCmp, Mi.bLt, Mi.bLe, Mi.bGt, Mi.bGe, Mi.isNon, Mi.mIsN, Mi.mChain, Mi.mAnd, Mi.mOr, Mi.mNot, Mi.mTb, Mi.mTand, Mi.mTor, Mi.mTnot, Mi.mIf, Mi.mNil, Mi.mCons, Mi.mTup, Mi.mLst, Mi.mB, Mi.kOf, Mi.mFld, Mi.mCall, Mi.mCallK, Mi.mMeth, Mi.mMethK, Mi.mDef, Mi.fInt, Mi.fMax, Mi.fMin, Mi.isI, Mi.mIsI, Ms.mIsC, Mi.gNm, Mi.gNil, Mi.gCons, Mi.gTup, Mi.mSeq, Mi.mSkip, Mi.mBrk, Mi.mCont, Mi.mAsg, Mi.mPar, Mi.mExpr, Mi.mRet, Mi.mRetN, Mi.mIfS, Mi.tYes, Mi.wipe, Ms.mDct0, Ms.bAddI, List.map_cons, List.map_nil, List.nil_append, List.cons_append, List.length_cons, List.length_nil, List.replicate_succ, List.replicate_zero, List.getElem?_cons_zero, List.getElem?_cons_succ, List.getElem?_nil, List.set_cons_zero, List.set_cons_succ, Option.map_some, Option.map_none, if_true, if_false, reduceIte, decide_true, decide_false, Nat.reduceAdd, Nat.reduceLeDiff, List.mem_cons, List.mem_singleton, true_or, or_true, true_and, and_true, bne_self_eq_false, Bool.not_true, Bool.not_false, reduceCtorEq, Nat.reduceEqDiff, beq_self_eq_true, Nat.reduceLT, Int.reduceLT, Int.reduceLE, Int.reduceToNat, Int.reduceAdd, Int.reduceSub, Int.reduceMul, Int.reduceNeg, String.reduceEq, String.reduceBEq, List.lookup_cons, List.lookup_nil, Mi.big, Mi.putF, List.length_append, List.append_assoc, ite_true, ite_false, Bool.false_eq_true, and_self, not_true_eq_false, not_false_eq_true, Sum.inr.injEq, Sum.inl.injEq, Mi.look, Mi.put, List.any_cons, List.any_nil, Bool.or_true, Bool.or_false, Bool.true_or, Bool.false_or, List.find?_cons, Option.getD_some, Option.getD_none, Bool.bne_false, Bool.false_bne, Bool.true_bne, Bool.bne_true, Int.reduceEq, Int.reducePow, -Mi.bAdd, qb_law_some_summary_1, e1, e2, s1, p9, hw1, z3, hv, e3, Mi.mSetI, g3, lm, ix]
    rw [Mi.mLoop, if_pos trivial]
    simp only [Mi.gNm, List.set_cons_succ, List.set_cons_zero]
    rw [hb]
    exact e'
theorem minL (a b : Int) (G : Sto) : Mi.fMin [.int a, .int b] G = some (.int (if b < a then b else a), G) := rfl
theorem maxL2 (a b : Int) (G : Sto) : Mi.fMax [.int a, .int b] G = some (.int (if b > a then b else a), G) := rfl
theorem some_summary_ok {G : Sto} (d : Dk hd hc G) {s k : Int} (hS : 6 ≤ s ∧ s ≤ 40) (hK : 4 ≤ k ∧ k ≤ 24) (o : Int) (ho : 0 ≤ o ∧ o < k) : ∃ (w : List Int) (G' : Sto), m_law_some_summary [.ref hd, szs s k, .int o] G = some (T w, G') ∧ Blk w ∧ Dg hd hc G G' := by
  have z1 : ∀ G, Mi.bSubs (szs s k) (.int 1) G = some (.int k, G) := fun G => rfl
  have z0 : ∀ G, Mi.bSubs (szs s k) (.int 0) G = some (.int s, G) := fun G => rfl
  have p9 : (Int.natAbs 10 < 2 ^ 64) = True := by decide
  obtain ⟨r1, G1, e1, a1, b1, d1⟩ := draw d 9 (by decide) (by decide)
  obtain ⟨r2, G2, e2, a2, b2, d2⟩ := draw d1.d 9 (by decide) (by decide)
  obtain ⟨r3, G3, e3, a3, b3, d3⟩ := draw d2.d 1000000000 (by decide) (by decide)
  obtain ⟨y4, G4, e4, h4, d4⟩ := pick d3.d [.int (1 + r1), .int (1 + r2), .int 0, .int 1000000000, .int (1 + r3)] (by simp) (by simp)
  have hi4 : ∃ i : Int, y4 = .int i ∧ 0 ≤ i ∧ i ≤ 1000000000 := by
    simp only [List.mem_cons, List.not_mem_nil, or_false] at h4
    rcases h4 with rfl | rfl | rfl | rfl | rfl <;> exact ⟨_, rfl, by omega, by omega⟩
  obtain ⟨n, rfl, n0, n9⟩ := hi4
  obtain ⟨room, hroom⟩ : ∃ room : Int, k - 1 - o = room := ⟨_, rfl⟩
  have br : 0 ≤ room ∧ room ≤ 23 := by omega
  obtain ⟨m1, hm1⟩ : ∃ m1 : Int, (if 1 < room then (1 : Int) else room) = m1 := ⟨_, rfl⟩
  obtain ⟨m2, hm2⟩ : ∃ m2 : Int, (if 2 < room then (2 : Int) else room) = m2 := ⟨_, rfl⟩
  obtain ⟨m3, hm3⟩ : ∃ m3 : Int, (if 3 < room then (3 : Int) else room) = m3 := ⟨_, rfl⟩
  have bm1 : 0 ≤ m1 ∧ m1 ≤ 23 := by rw [← hm1]; split <;> omega
  have bm2 : 0 ≤ m2 ∧ m2 ≤ 23 := by rw [← hm2]; split <;> omega
  have bm3 : 0 ≤ m3 ∧ m3 ≤ 23 := by rw [← hm3]; split <;> omega
  obtain ⟨r5, G5, e5, a5, b5, d5⟩ := draw d4.d (room + 1) (by omega) (by omega)
  obtain ⟨r6, G6, e6, a6, b6, d6⟩ := draw d5.d 4 (by decide) (by decide)
  obtain ⟨y7, G7, e7, h7, d7⟩ := pick d6.d [.int 0, .int m1, .int m2, .int room, .int m3, .int r5, .int (room + 1), .int k, .int r6] (by simp) (by simp)
  have hi7 : ∃ i : Int, y7 = .int i ∧ 0 ≤ i ∧ i ≤ 24 := by
    simp only [List.mem_cons, List.not_mem_nil, or_false] at h7
    rcases h7 with rfl | rfl | rfl | rfl | rfl | rfl | rfl | rfl | rfl <;> exact ⟨_, rfl, by omega, by omega⟩
  obtain ⟨many, rfl, my0, my9⟩ := hi7
  obtain ⟨r8, G8, e8, a8, b8, d8⟩ := draw d7.d 4 (by decide) (by decide)
  obtain ⟨m4, hm4⟩ : ∃ m4 : Int, (if 24 - many > 0 then 24 - many else (0 : Int)) = m4 := ⟨_, rfl⟩
  obtain ⟨m5, hm5⟩ : ∃ m5 : Int, (if 25 - many > 0 then 25 - many else (0 : Int)) = m5 := ⟨_, rfl⟩
  have bm4 : 0 ≤ m4 ∧ m4 ≤ 25 := by rw [← hm4]; split <;> omega
  have bm5 : 0 ≤ m5 ∧ m5 ≤ 25 := by rw [← hm5]; split <;> omega
  obtain ⟨y9, G9, e9, h9, d9⟩ := pick d8.d [.int 0, .int 1, .int 1, .int 2, .int r8, .int 1, .int 3, .int m4, .int m5] (by simp) (by simp)
  have hi9 : ∃ i : Int, y9 = .int i ∧ 0 ≤ i ∧ i ≤ 25 := by
    simp only [List.mem_cons, List.not_mem_nil, or_false] at h9
    rcases h9 with rfl | rfl | rfl | rfl | rfl | rfl | rfl | rfl | rfl <;> exact ⟨_, rfl, by omega, by omega⟩
  obtain ⟨more, rfl, mo0, mo9⟩ := hi9
  obtain ⟨P, hp, G10, e10, g10, lp10, lP, iP, d10⟩ := some_keys_ok d9.d hS hK many (by omega)
  obtain ⟨Q0, hq, G11, e11, g11, lq11, lQ0, iQ0, d11⟩ := some_keys_ok d10.d hS hK more (by omega)
  have dg9 : Dg hd hc G G9 := (((((((d1.trans d2).trans d3).trans d4).trans d5).trans d6).trans d7).trans d8).trans d9 |>.g
  have lt9 := dg9.d.lt
  have np : hp ∉ [hd, hc] := by simp; omega
  have lt10 := d10.d.lt
  have nq : hq ∉ [hd, hc] := by simp; omega
  have g11p := d11.s.get np g10
  obtain ⟨Q, G12, e12, mQ, lQ, d12⟩ := drops_go hp hq np nq P Q0 (some (szs s k)) (some (.int o)) (some (.int n)) (some (.int room)) (some (.int many)) (some (.int more)) none none none none Q0 [] G11 d11.d g11p g11 (by simp; omega)
  have g12p := d12.s.get np g11p
  have iQ : In 828 Q := fun z hz => iQ0 z (mQ z hz)
  obtain ⟨m6, hm6⟩ : ∃ m6 : Int, (if n - 1 > 0 then n - 1 else (0 : Int)) = m6 := ⟨_, rfl⟩
  have bm6 : 0 ≤ m6 ∧ m6 ≤ 1000000000 := by rw [← hm6]; split <;> omega
  obtain ⟨y13, G13, e13, h13, d13⟩ := pick d12.d [.int 0, .int m6, .int 3, .int n, .int 1000000000] (by simp) (by simp)
  have hi13 : ∃ i : Int, y13 = .int i ∧ 0 ≤ i ∧ i ≤ 1000000000 := by
    simp only [List.mem_cons, List.not_mem_nil, or_false] at h13
    rcases h13 with rfl | rfl | rfl | rfl | rfl <;> exact ⟨_, rfl, by omega, by omega⟩
  obtain ⟨ah, rfl, ah0, ah9⟩ := hi13
  obtain ⟨y14, G14, e14, h14, d14⟩ := pick d13.d [.int 0, .int (s - 1), .int 1, .int 1, .int 2, .int 3, .int 4, .int s] (by simp) (by simp)
  have hi14 : ∃ i : Int, y14 = .int i ∧ 0 ≤ i ∧ i ≤ 1000000000 := by
    simp only [List.mem_cons, List.not_mem_nil, or_false] at h14
    rcases h14 with rfl | rfl | rfl | rfl | rfl | rfl | rfl | rfl <;> exact ⟨_, rfl, by omega, by omega⟩
  obtain ⟨be, rfl, be0, be9⟩ := hi14
  have dd14 := (d12.trans d13).trans d14
  have g14p := (d13.trans d14).s.get np g12p
  have dg14 : Dg hd hc G G14 := (dg9.trans d10).trans (d11.trans dd14.g)
  have lt14 := dg14.d.lt
  have lenP : Mi.fLen [.ref hp] G14 = some (.int (P.length : Nat), G14) := by simp [Mi.fLen, Mi.lstOf, g14p]
  have lenQ : Mi.fLen [.fls (Q.map Dv.int)] G14 = some (.int (Q.length : Nat), G14) := by simp [Mi.fLen, Mi.lstOf]
  -- the words, in three steps
  obtain ⟨W0, hW0⟩ : ∃ W0 : List Int, W0 = [n, 1, ah, be, (P.length : Int), (Q.length : Int)] := ⟨_, rfl⟩
  have bW0 : ∀ z ∈ W0, 0 ≤ z ∧ z ≤ 1000000000 := fun z hz => by
    rw [hW0] at hz
    simp only [List.mem_cons, List.not_mem_nil, or_false] at hz
    rcases hz with rfl | rfl | rfl | rfl | rfl | rfl
    · exact ⟨n0, n9⟩
    · decide
    · exact ⟨ah0, ah9⟩
    · exact ⟨be0, be9⟩
    · omega
    · omega
  have hW0d : [Dv.int n, Dv.int 1, Dv.int ah, Dv.int be, Dv.int (P.length : Nat), Dv.int (Q.length : Nat)] = W0.map Dv.int := by rw [hW0]; rfl
  have g15 : (G14 ++ [MO.lst (W0.map Dv.int)])[G14.length]? = some (.lst (W0.map Dv.int)) := get0 _ _ _
  have S15 : Sm [] G14 (G14 ++ [.lst (W0.map Dv.int)]) := sm_app
  have g15p := S15.get (by simp) g14p
  obtain ⟨W1, hW1⟩ : ∃ W1 : List Int, W1 = ((W0 ++ P) ++ Q).take 31 := ⟨_, rfl⟩
  have bW1 : ∀ z ∈ W1, 0 ≤ z ∧ z ≤ 1000000000 := fun z hz => by
    rw [hW1] at hz
    rcases List.mem_append.mp (List.mem_of_mem_take hz) with q | q
    · rcases (List.mem_append.mp q : _ ∨ _) with q | q
      · exact bW0 z q
      · have := iP z q; omega
    · have := iQ z q; omega
  have lW1 : W1.length ≤ 31 := by rw [hW1]; exact List.length_take_le ..
  have ad1 : bAddL false (.ref G14.length) (.ref hp) (G14 ++ [MO.lst (W0.map Dv.int)]) = some (.fls ((W0 ++ P).map Dv.int), G14 ++ [MO.lst (W0.map Dv.int)]) := by
    unfold bAddL
    simp only [g15, g15p]
    rw [if_pos (by rw [List.length_map, List.length_map, hW0]; show _ ≤ 16777216; simp only [List.length_cons, List.length_nil]; omega), List.map_append]
    rfl
  have lW0 : W0.length = 6 := by rw [hW0]; rfl
  have ad2 : Mi.bAdd false (.fls ((W0 ++ P).map Dv.int)) (.fls (Q.map Dv.int)) (G14 ++ [MO.lst (W0.map Dv.int)]) = some (.fls (((W0 ++ P) ++ Q).map Dv.int), G14 ++ [MO.lst (W0.map Dv.int)]) := by
    unfold Mi.bAdd
    dsimp only
    rw [if_pos (by rw [List.length_map, List.length_map, List.length_append, lW0]; show _ ≤ 16777216; omega), List.map_append (l₁ := W0 ++ P)]
    rfl
  have ct : Mi.cut (((W0 ++ P) ++ Q).map Dv.int) none (some 31) = W1.map Dv.int := by rw [hW1]; exact cutU 31
  obtain ⟨G15, hG15⟩ : ∃ G15, G15 = G14 ++ [MO.lst (W0.map Dv.int)] := ⟨_, rfl⟩
  rw [← hG15] at g15 S15 g15p ad1 ad2
  have l15 : G15.length = G14.length + 1 := by rw [hG15]; simp
  have g16 : (G15 ++ [MO.lst (W1.map Dv.int)])[G15.length]? = some (.lst (W1.map Dv.int)) := get0 _ _ _
  have S16 : Sm [] G15 (G15 ++ [.lst (W1.map Dv.int)]) := sm_app
  obtain ⟨G16, hG16⟩ : ∃ G16, G16 = G15 ++ [MO.lst (W1.map Dv.int)] := ⟨_, rfl⟩
  rw [← hG16] at g16 S16
  have l16 : G16.length = G15.length + 1 := by rw [hG16]; simp
  obtain ⟨z, hz⟩ : ∃ z : Nat, W1.length + z = 31 := ⟨31 - W1.length, by omega⟩
  have lenW1 : Mi.fLen [.ref G15.length] G16 = some (.int (W1.length : Nat), G16) := by simp [Mi.fLen, Mi.lstOf, g16]
  have zi : (31 : Int) - (W1.length : Nat) = (z : Int) := by omega
  have mu : Mi.bMul false (.fls [.int 0]) (.int (z : Nat)) G16 = some (.fls ((List.replicate z (0 : Int)).map Dv.int), G16) := by
    unfold Mi.bMul
    dsimp only
    rw [if_pos ⟨by omega, by omega, by show 1 * ((z : Nat) : Int).toNat ≤ 16777216; omega⟩, Int.toNat_natCast, rep1, List.map_replicate]
    rfl
  have ad3 : Mi.bAdd false (.ref G15.length) (.fls ((List.replicate z (0 : Int)).map Dv.int)) G16 = some (.fls ((W1 ++ List.replicate z 0).map Dv.int), G16) := by
    unfold Mi.bAdd
    simp only [g16]
    rw [if_pos (by rw [List.length_map, List.length_map, List.length_replicate]; show _ ≤ 16777216; omega), List.map_append]
    rfl
  have ad4 : Mi.bAdd true (.fls ((W1 ++ List.replicate z 0).map Dv.int)) (.fls [.int n]) G16 = some (.ref G16.length, G16 ++ [.lst (((W1 ++ List.replicate z 0) ++ [n]).map Dv.int)]) := by
    unfold Mi.bAdd
    dsimp only
    rw [if_pos (by rw [List.length_map, List.length_append, List.length_replicate]; show _ ≤ 16777216; simp only [List.length_cons, List.length_nil]; omega), List.map_append (l₁ := W1 ++ List.replicate z 0)]
    rfl
  have B17 : Blk ((W1 ++ List.replicate z 0) ++ [n]) := by
    refine ⟨by simp; omega, fun y hy => ?_⟩
    simp only [List.mem_append, List.mem_cons, List.not_mem_nil, or_false] at hy
    rcases hy with (hy | hy) | rfl
    · exact bW1 y hy
    · rw [(List.mem_replicate.mp hy).2]; decide
    · exact ⟨n0, n9⟩
  generalize (W1 ++ List.replicate z 0) ++ [n] = W2 at ad4 B17
  have g17 : (G16 ++ [MO.lst (W2.map Dv.int)])[G16.length]? = some (.lst (W2.map Dv.int)) := get0 _ _ _
  have S17 : Sm [] G16 (G16 ++ [.lst (W2.map Dv.int)]) := sm_app
  have D17 := ((dg14.d.disk S15).disk S16).disk S17
  obtain ⟨y18, G18, e18, h18, d18⟩ := pick D17 [.int 0, .int 0, .int 0, .int 1, .int 0, .int 2] (by simp) (by simp)
  have hi18 : ∃ i : Int, y18 = .int i ∧ 0 ≤ i ∧ i ≤ 2 := by
    simp only [List.mem_cons, List.not_mem_nil, or_false] at h18
    rcases h18 with rfl | rfl | rfl | rfl | rfl | rfl <;> exact ⟨_, rfl, by omega, by omega⟩
  obtain ⟨tn, rfl, tn0, tn2⟩ := hi18
  have n16 : G16.length ∉ [hd, hc] := by simp; omega
  have g18 := d18.s.get n16 g17
  obtain ⟨W3, y10, y11, G19, e19, g19, B19, k19, S19⟩ := bend_go G16.length n16 (some (szs s k)) (some (.int o)) (some (.int n)) (some (.int room)) (some (.int many)) (some (.int more)) (some (.ref hp)) (some (.fls (Q.map Dv.int))) none (Mi.rng 0 tn) W2 G18 none none d18.d g18 B17
  refine ⟨W3, G19, ?_, B19, k19, ?_⟩
  · have q12 : ql_law_some_summary_1 [some (.ref hd), some (szs s k), some (.int o), some (.int n), some (.int room), some (.int many), some (.int more), some (.ref hp), none, none, none, none, none] G10 = some (.fls (Q.map Dv.int), G12) := by
      unfold ql_law_some_summary_1 qi_law_some_summary_1 Mi.mLc
      have sqr : Mi.seqOf G11 (.ref hq) = some (Q0.map Dv.int) := seq_ref g11
      rw [List.map_nil, List.nil_append] at e12
      simp only [Mi.bnd, Mi.mVar, Mi.mC, Mi.mkL, Mi.m2, Mi.m1, Mi.uNeg, Mi.bAdd, Mi.bSub, Mi.bDiv, Mi.bMod, Mi.bPow, Mi.sEq, Mi.bEq, Mi.bCmp, Mi.bLt, Mi.bLe, Mi.bGt, Mi.bGe, Mi.isNon, Mi.mIsN, Mi.mChain, Mi.mAnd, Mi.mOr, Mi.mNot, Mi.mTb, Mi.mTand, Mi.mTor, Mi.mTnot, Mi.mIf, Mi.mNil, Mi.mCons, Mi.mTup, Mi.mLst, Mi.mB, Mi.kOf, Mi.mFld, Mi.mCall, Mi.mCallK, Mi.mMeth, Mi.mMethK, Mi.mDef, Mi.fInt, Mi.fMax, Mi.fMin, Mi.isI, Mi.mIsI, Ms.mIsC, Mi.gNm, Mi.gNil, Mi.gCons, Mi.gTup, Mi.mSeq, Mi.mSkip, Mi.mBrk, Mi.mCont, Mi.mAsg, Mi.mPar, Mi.mExpr, Mi.mRet, Mi.mRetN, Mi.mIfS, Mi.tYes, Mi.wipe, Ms.mDct0, Ms.bAddI, List.map_cons, List.map_nil, List.nil_append, List.cons_append, List.length_cons, List.length_nil, List.replicate_succ, List.replicate_zero, List.getElem?_cons_zero, List.getElem?_cons_succ, List.getElem?_nil, List.set_cons_zero, List.set_cons_succ, Option.map_some, Option.map_none, if_true, if_false, reduceIte, decide_true, decide_false, Nat.reduceAdd, Nat.reduceLeDiff, List.mem_cons, List.mem_singleton, true_or, or_true, true_and, and_true, bne_self_eq_false, Bool.not_true, Bool.not_false, reduceCtorEq, Nat.reduceEqDiff, beq_self_eq_true, Nat.reduceLT, Int.reduceLT, Int.reduceLE, Int.reduceToNat, Int.reduceAdd, Int.reduceSub, Int.reduceMul, Int.reduceNeg, String.reduceEq, String.reduceBEq, List.lookup_cons, List.lookup_nil, Mi.big, Mi.putF, List.length_append, List.append_assoc, ite_true, ite_false, Bool.false_eq_true, and_self, not_true_eq_false, not_false_eq_true, Sum.inr.injEq, Sum.inl.injEq, Mi.look, Mi.put, List.any_cons, List.any_nil, Bool.or_true, Bool.or_false, Bool.true_or, Bool.false_or, List.find?_cons, Option.getD_some, Option.getD_none, Bool.bne_false, Bool.false_bne, Bool.true_bne, Bool.bne_true, Int.reduceEq, Int.reducePow, Mi.iSeq, e11, sqr, e12]
    have i1 : -(2 ^ 62) ≤ tn ∧ tn < 2 ^ 62 := by omega
    have q19 : qf_law_some_summary_1 [some (.ref hd), some (szs s k), some (.int o), some (.int n), some (.int room), some (.int many), some (.int more), some (.ref hp), some (.fls (Q.map Dv.int)), some (.ref G16.length), none, none, none] (G16 ++ [MO.lst (W2.map Dv.int)]) = some (.nx, [some (.ref hd), some (szs s k), some (.int o), some (.int n), some (.int room), some (.int many), some (.int more), some (.ref hp), some (.fls (Q.map Dv.int)), some (.ref G16.length), y10, y11, none], G19) := by
      unfold qf_law_some_summary_1 qi_law_some_summary_2 Mi.mFor
      simp only [Mi.bnd, Mi.mVar, Mi.mC, Mi.mkL, Mi.m2, Mi.m1, Mi.uNeg, Mi.bAdd, Mi.bSub, Mi.bDiv, Mi.bMod, Mi.bPow, Mi.sEq, Mi.bEq, Mi.bCmp, Mi.bLt, Mi.bLe, Mi.bGt, Mi.bGe, Mi.isNon, Mi.mIsN, Mi.mChain, Mi.mAnd, Mi.mOr, Mi.mNot, Mi.mTb, Mi.mTand, Mi.mTor, Mi.mTnot, Mi.mIf, Mi.mNil, Mi.mCons, Mi.mTup, Mi.mLst, Mi.mB, Mi.kOf, Mi.mFld, Mi.mCall, Mi.mCallK, Mi.mMeth, Mi.mMethK, Mi.mDef, Mi.fInt, Mi.fMax, Mi.fMin, Mi.isI, Mi.mIsI, Ms.mIsC, Mi.gNm, Mi.gNil, Mi.gCons, Mi.gTup, Mi.mSeq, Mi.mSkip, Mi.mBrk, Mi.mCont, Mi.mAsg, Mi.mPar, Mi.mExpr, Mi.mRet, Mi.mRetN, Mi.mIfS, Mi.tYes, Mi.wipe, Ms.mDct0, Ms.bAddI, List.map_cons, List.map_nil, List.nil_append, List.cons_append, List.length_cons, List.length_nil, List.replicate_succ, List.replicate_zero, List.getElem?_cons_zero, List.getElem?_cons_succ, List.getElem?_nil, List.set_cons_zero, List.set_cons_succ, Option.map_some, Option.map_none, if_true, if_false, reduceIte, decide_true, decide_false, Nat.reduceAdd, Nat.reduceLeDiff, List.mem_cons, List.mem_singleton, true_or, or_true, true_and, and_true, bne_self_eq_false, Bool.not_true, Bool.not_false, reduceCtorEq, Nat.reduceEqDiff, beq_self_eq_true, Nat.reduceLT, Int.reduceLT, Int.reduceLE, Int.reduceToNat, Int.reduceAdd, Int.reduceSub, Int.reduceMul, Int.reduceNeg, String.reduceEq, String.reduceBEq, List.lookup_cons, List.lookup_nil, Mi.big, Mi.putF, List.length_append, List.append_assoc, ite_true, ite_false, Bool.false_eq_true, and_self, not_true_eq_false, not_false_eq_true, Sum.inr.injEq, Sum.inl.injEq, Mi.look, Mi.put, List.any_cons, List.any_nil, Bool.or_true, Bool.or_false, Bool.true_or, Bool.false_or, List.find?_cons, Option.getD_some, Option.getD_none, Bool.bne_false, Bool.false_bne, Bool.true_bne, Bool.bne_true, Int.reduceEq, Int.reducePow, -Int.reducePow, -Int.reduceNeg, Mi.iRange1, e18, if_pos i1]
      exact e19
    have lr19 : Mi.lstOf G19 (.ref G16.length) = some (W3.map Dv.int) := by simp only [Mi.lstOf, g19]
    have lrW : Mi.lstOf G15 (.fls (((W0 ++ P) ++ Q).map Dv.int)) = some (((W0 ++ P) ++ Q).map Dv.int) := rfl
    have lm0 : (W0.map Dv.int).length = 6 := by rw [List.length_map, lW0]
    have a11 : ∀ (x : Int) G, Mi.bAdd false (.int 1) (.int x) G = some (.int (1 + x), G) := fun x G => rfl
    have arm : ∀ G, Mi.bAdd false (.int room) (.int 1) G = some (.int (room + 1), G) := fun G => rfl
    generalize ((W0 ++ P) ++ Q).map Dv.int = Y2 at ad2 ct lrW
    generalize (W0 ++ P).map Dv.int = Y1 at ad1 ad2
    generalize (W1 ++ List.replicate z 0).map Dv.int = Y3 at ad3 ad4
    generalize (List.replicate z (0 : Int)).map Dv.int = Y4 at mu ad3
    simp only [Mi.bnd, Mi.mVar, Mi.mC, Mi.mkL, Mi.m2, Mi.m1, Mi.uNeg, Mi.bAdd, Mi.bSub, Mi.bDiv, Mi.bMod, Mi.bPow, Mi.sEq, Mi.bEq, Mi.bCmp, Mi.bLt, Mi.bLe, Mi.bGt, Mi.bGe, Mi.isNon, Mi.mIsN, Mi.mChain, Mi.mAnd, Mi.mOr, Mi.mNot, Mi.mTb, Mi.mTand, Mi.mTor, Mi.mTnot, Mi.mIf, Mi.mNil, Mi.mCons, Mi.mTup, Mi.mLst, Mi.mB, Mi.kOf, Mi.mFld, Mi.mCall, Mi.mCallK, Mi.mMeth, Mi.mMethK, Mi.mDef, Mi.fInt, Mi.fMax, Mi.fMin, Mi.isI, Mi.mIsI, Ms.mIsC, Mi.gNm, Mi.gNil, Mi.gCons, Mi.gTup, Mi.mSeq, Mi.mSkip, Mi.mBrk, Mi.mCont, Mi.mAsg, Mi.mPar, Mi.mExpr, Mi.mRet, Mi.mRetN, Mi.mIfS, Mi.tYes, Mi.wipe, Ms.mDct0, Ms.bAddI, List.map_cons, List.map_nil, List.nil_append, List.cons_append, List.length_cons, List.length_nil, List.replicate_succ, List.replicate_zero, List.getElem?_cons_zero, List.getElem?_cons_succ, List.getElem?_nil, List.set_cons_zero, List.set_cons_succ, Option.map_some, Option.map_none, if_true, if_false, reduceIte, decide_true, decide_false, Nat.reduceAdd, Nat.reduceLeDiff, List.mem_cons, List.mem_singleton, true_or, or_true, true_and, and_true, bne_self_eq_false, Bool.not_true, Bool.not_false, reduceCtorEq, Nat.reduceEqDiff, beq_self_eq_true, Nat.reduceLT, Int.reduceLT, Int.reduceLE, Int.reduceToNat, Int.reduceAdd, Int.reduceSub, Int.reduceMul, Int.reduceNeg, String.reduceEq, String.reduceBEq, List.lookup_cons, List.lookup_nil, Mi.big, Mi.putF, List.length_append, List.append_assoc, ite_true, ite_false, Bool.false_eq_true, and_self, not_true_eq_false, not_false_eq_true, Sum.inr.injEq, Sum.inl.injEq, Mi.look, Mi.put, List.any_cons, List.any_nil, Bool.or_true, Bool.or_false, Bool.true_or, Bool.false_or, List.find?_cons, Option.getD_some, Option.getD_none, Bool.bne_false, Bool.false_bne, Bool.true_bne, Bool.bne_true, Int.reduceEq, Int.reducePow, -Mi.bAdd, a11, arm, m_law_some_summary, b_law_some_summary, e1, e2, p9, e3, e4, z1, hroom, hm1, hm2, hm3, e5, e6, e7, e8, hm4, hm5, e9, e10, q12, hm6, e13, z0, e14, lenP, lenQ, hW0d, lm0, ← hG15, ad1, ad2, Mi.mSlice, Mi.mO, lrW, ct, ← hG16, lenW1, zi, mu, ad3, ad4, q19, Mi.fTuple, lr19]
  · have l17 : G18.length = G16.length + 1 := by rw [d18.l]; simp
    refine ⟨Nat.le_trans dg14.s.le (by have := S19.le; omega), fun i hi hn => ?_⟩
    have hi14 : i < G14.length := Nat.lt_of_lt_of_le hi dg14.s.le
    rw [S19.at_ i (by omega) (by simp at hn ⊢; omega), d18.s.at_ i (by simp; omega) hn, S17.at_ i (by omega) (by simp), S16.at_ i (by omega) (by simp), S15.at_ i hi14 (by simp)]
    exact dg14.s.at_ i hi hn
end
end Lw

namespace Lw
open Mi (Dv MO Sto Sl Rs bnd ME MT MA MS MF Fl MG MGs MI)
open Ms (mExtend mPar3 fMaxL mLc2 mLc2Loop gUnL mReprK txt mZipT iEnumT bIn fSorted srt mPopAt fMaxTI fIntB bMulT gSubI bAddL)
open PySem (PyData Str)
section
variable {hd hc : Nat}
theorem w_bd {w : List Int} (B : Blk w) (i : Nat) (h : i < 32) : 0 ≤ w.getD i 0 ∧ w.getD i 0 ≤ 1000000000 := by
  rw [List.getD_eq_getElem?_getD, List.getElem?_eq_getElem (by rw [B.1]; exact h)]
  exact B.2 _ (List.getElem_mem _)
theorem mk_body {G : Sto} (d : Dk hd hc G) {w : List Int} (B : Blk w) {hx : Nat} {ws : List (List Int)} (e : G[hx]? = some (.lst (ws.map T))) (nx : hx ∉ [hd, hc]) (hl : ws.length ≤ 100) (j : Nat) (hj : j ≤ 24) (bent : Bool) (a0 a2 a3 a4 a5 a6 a7 x12 x13 a14 a15 a16 : Option Dv) :
    ∃ (w' : List Int) (y13 : Option Dv) (G1 : Sto), Blk w' ∧ Dr hd hc G G1 ∧ G1[hx]? = some (.lst (ws.map T)) ∧ qb_law_1 [a0, some (.ref hd), a2, a3, a4, a5, a6, a7, some (T w), some (.ref hx), some (.bl bent), some (.int (j : Nat)), x12, x13, a14, a15, a16] G = some (.nx, [a0, some (.ref hd), a2, a3, a4, a5, a6, a7, some (T w), some (.ref hx), some (.bl bent), some (.int (j : Nat)), some (T w'), y13, a14, a15, a16], G1.set hx (.lst (ws.map T ++ [T w']))) := by
  obtain ⟨cs, G1, e1, hcs, d1⟩ := content_ok d
  have s0 : ∀ G, Mi.bSubs (T w) (.int 0) G = some (.int (w.getD 0 0), G) := fun G => wAt B.1 (i := 0) (by decide) G
  have s6 : ∀ G, Mi.bSubs (T w) (.int ((6 + j : Nat) : Int)) G = some (.int (w.getD (6 + j) 0), G) := fun G => wAt B.1 (i := 6 + j) (by omega) G
  have a6' : ∀ G, Mi.bAdd false (.int 6) (.int (j : Nat)) G = some (.int ((6 + j : Nat) : Int), G) := fun G => rfl
  have b0 := w_bd B 0 (by decide)
  have b6 := w_bd B (6 + j) (by omega)
  have e2 := law_data_ok (w.getD 0 0) (w.getD (6 + j) 0) cs hcs.1 G1
  have B2 := dataW_blk (n := w.getD 0 0) (key := w.getD (6 + j) 0) b0 b6 hcs
  generalize dataW (w.getD 0 0) (w.getD (6 + j) 0) cs = v at e2 B2
  have lw : (ws.map T).length = ws.length := List.length_map ..
  have hb1 : ws.length < 16777216 := by omega
  have plain : ∀ G2, Dr hd hc G G2 → ∀ x : List Int, Mi.mAppend (Mi.mVar 9) (Mi.mVar 12) [a0, some (.ref hd), a2, a3, a4, a5, a6, a7, some (T w), some (.ref hx), some (.bl bent), some (.int (j : Nat)), some (T x), x13, a14, a15, a16] G2 = some (.non, G2.set hx (.lst (ws.map T ++ [T x]))) := fun G2 d2 x => by
    have g2 := d2.s.get nx e
    simp only [Mi.bnd, Mi.mVar, Mi.mC, Mi.mkL, Mi.m2, Mi.m1, Mi.uNeg, Mi.bAdd, Mi.bSub, Mi.bDiv, Mi.bMod, Mi.bPow, Mi.sEq, Mi.bEq, Mi.bCmp, Mi.bLt, Mi.bLe, Mi.bGt, Mi.bGe, Mi.isNon, Mi.mIsN, Mi.mChain, Mi.mAnd, Mi.mOr, Mi.mNot, Mi.mTb, Mi.mTand, Mi.mTor, Mi.mTnot, Mi.mIf, Mi.mNil, Mi.mCons, Mi.mTup, Mi.mLst, Mi.mB, Mi.kOf, Mi.mFld, Mi.mCall, Mi.mCallK, Mi.mMeth, Mi.mMethK, Mi.mDef, Mi.fInt, Mi.fMax, Mi.fMin, Mi.isI, Mi.mIsI, Ms.mIsC, Mi.gNm, Mi.gNil, Mi.gCons, Mi.gTup, Mi.mSeq, Mi.mSkip, Mi.mBrk, Mi.mCont, Mi.mAsg, Mi.mPar, Mi.mExpr, Mi.mRet, Mi.mRetN, Mi.mIfS, Mi.tYes, Mi.wipe, Ms.mDct0, Ms.bAddI, List.map_cons, List.map_nil, List.nil_append, List.cons_append, List.length_cons, List.length_nil, List.replicate_succ, List.replicate_zero, List.getElem?_cons_zero, List.getElem?_cons_succ, List.getElem?_nil, List.set_cons_zero, List.set_cons_succ, Option.map_some, Option.map_none, if_true, if_false, reduceIte, decide_true, decide_false, Nat.reduceAdd, Nat.reduceLeDiff, List.mem_cons, List.mem_singleton, true_or, or_true, true_and, and_true, bne_self_eq_false, Bool.not_true, Bool.not_false, reduceCtorEq, Nat.reduceEqDiff, beq_self_eq_true, Nat.reduceLT, Int.reduceLT, Int.reduceLE, Int.reduceToNat, Int.reduceAdd, Int.reduceSub, Int.reduceMul, Int.reduceNeg, String.reduceEq, String.reduceBEq, List.lookup_cons, List.lookup_nil, Mi.big, Mi.putF, List.length_append, List.append_assoc, ite_true, ite_false, Bool.false_eq_true, and_self, not_true_eq_false, not_false_eq_true, Sum.inr.injEq, Sum.inl.injEq, Mi.look, Mi.put, List.any_cons, List.any_nil, Bool.or_true, Bool.or_false, Bool.true_or, Bool.false_or, List.find?_cons, Option.getD_some, Option.getD_none, Bool.bne_false, Bool.false_bne, Bool.true_bne, Bool.bne_true, Int.reduceEq, Int.reducePow, Mi.mAppend, g2, lw, hb1]
  generalize ((6 + j : Nat) : Int) = J6 at s6 a6'
  cases bent with
  | false =>
    have g1 := d1.s.get nx e
    refine ⟨v, x13, G1, B2, d1, g1, ?_⟩
    simp only [Mi.bnd, Mi.mVar, Mi.mC, Mi.mkL, Mi.m2, Mi.m1, Mi.uNeg, Mi.bAdd, Mi.bSub, Mi.bDiv, Mi.bMod, Mi.bPow, Mi.sEq, Mi.bEq, Mi.bCmp, Mi.bLt, Mi.bLe, Mi.bGt, Mi.bGe, Mi.isNon, Mi.mIsN, Mi.mChain, Mi.mAnd, Mi.mOr, Mi.mNot, Mi.mTb, Mi.mTand, Mi.mTor, Mi.mTnot, Mi.mIf, Mi.mNil, Mi.mCons, Mi.mTup, Mi.mLst, Mi.mB, Mi.kOf, Mi.mFld, Mi.mCall, Mi.mCallK, Mi.mMeth, Mi.mMethK, Mi.mDef, Mi.fInt, Mi.fMax, Mi.fMin, Mi.isI, Mi.mIsI, Ms.mIsC, Mi.gNm, Mi.gNil, Mi.gCons, Mi.gTup, Mi.mSeq, Mi.mSkip, Mi.mBrk, Mi.mCont, Mi.mAsg, Mi.mPar, Mi.mExpr, Mi.mRet, Mi.mRetN, Mi.mIfS, Mi.tYes, Mi.wipe, Ms.mDct0, Ms.bAddI, List.map_cons, List.map_nil, List.nil_append, List.cons_append, List.length_cons, List.length_nil, List.replicate_succ, List.replicate_zero, List.getElem?_cons_zero, List.getElem?_cons_succ, List.getElem?_nil, List.set_cons_zero, List.set_cons_succ, Option.map_some, Option.map_none, if_true, if_false, reduceIte, decide_true, decide_false, Nat.reduceAdd, Nat.reduceLeDiff, List.mem_cons, List.mem_singleton, true_or, or_true, true_and, and_true, bne_self_eq_false, Bool.not_true, Bool.not_false, reduceCtorEq, Nat.reduceEqDiff, beq_self_eq_true, Nat.reduceLT, Int.reduceLT, Int.reduceLE, Int.reduceToNat, Int.reduceAdd, Int.reduceSub, Int.reduceMul, Int.reduceNeg, String.reduceEq, String.reduceBEq, List.lookup_cons, List.lookup_nil, Mi.big, Mi.putF, List.length_append, List.append_assoc, ite_true, ite_false, Bool.false_eq_true, and_self, not_true_eq_false, not_false_eq_true, Sum.inr.injEq, Sum.inl.injEq, Mi.look, Mi.put, List.any_cons, List.any_nil, Bool.or_true, Bool.or_false, Bool.true_or, Bool.false_or, List.find?_cons, Option.getD_some, Option.getD_none, Bool.bne_false, Bool.false_bne, Bool.true_bne, Bool.bne_true, Int.reduceEq, Int.reducePow, -Mi.bAdd, qb_law_1, s0, a6', s6, e1, e2, Mi.mTru, Mi.tru, Mi.mAppend, g1, lw, hb1]
  | true =>
    obtain ⟨r2, G2, f2, a2', b2', d2⟩ := draw d1.d 3 (by decide) (by decide)
    by_cases hr : r2 = 0
    · obtain ⟨y, G3, f3, hy, d3⟩ := pick d2.d [.int 0, .int 1, .int 2, .int 31] (by simp) (by simp)
      have hyi : ∃ i : Nat, y = .int (i : Int) ∧ i < 32 := by
        simp only [List.mem_cons, List.not_mem_nil, or_false] at hy
        rcases hy with rfl | rfl | rfl | rfl
        · exact ⟨0, rfl, by decide⟩
        · exact ⟨1, rfl, by decide⟩
        · exact ⟨2, rfl, by decide⟩
        · exact ⟨31, rfl, by decide⟩
      obtain ⟨i, rfl, hi⟩ := hyi
      obtain ⟨x, G4, f4, x0, x9, d4⟩ := word d3.d
      have dd := ((d1.trans d2).trans d3).trans d4
      have g4 := dd.s.get nx e
      have c1 := cutU (w := v) i
      have c2 := cutV (w := v) (i + 1) (by rw [B2.1]; omega)
      have q1 : Mi.bAdd false (.tup ((v.take i).map Dv.int)) (.tup [.int x]) G4 = some (.tup ((v.take i ++ [x]).map Dv.int), G4) := add_tt _ [x] G4 (by simp; omega)
      have q2 : Mi.bAdd false (.tup ((v.take i ++ [x]).map Dv.int)) (.tup ((v.drop (i + 1)).map Dv.int)) G4 = some (T ((v.take i ++ [x]) ++ v.drop (i + 1)), G4) := add_tt _ _ G4 (by simp [B2.1]; omega)
      have i1 : ∀ G, Mi.bAdd false (.int (i : Nat)) (.int 1) G = some (.int ((i + 1 : Nat) : Int), G) := fun G => rfl
      refine ⟨(v.take i ++ [x]) ++ v.drop (i + 1), some (.int (i : Nat)), G4, ⟨by simp only [List.length_append, List.length_take, List.length_drop, B2.1, List.length_cons, List.length_nil]; omega, fun z hz => ?_⟩, dd, g4, ?_⟩
      · simp only [List.mem_append, List.mem_cons, List.not_mem_nil, or_false] at hz
        rcases hz with (hz | rfl) | hz
        · exact B2.2 z (List.mem_of_mem_take hz)
        · exact ⟨x0, x9⟩
        · exact B2.2 z (List.mem_of_mem_drop hz)
      · subst hr
        have tv : T v = .tup (v.map Dv.int) := rfl
        generalize T ((v.take i ++ [x]) ++ v.drop (i + 1)) = Z at q2 ⊢
        generalize (v.take i ++ [x]).map Dv.int = Y1 at q1 q2
        generalize (v.take i).map Dv.int = Y2 at c1 q1
        generalize (v.drop (i + 1)).map Dv.int = Y3 at c2 q2
        generalize ((i + 1 : Nat) : Int) = I1 at c2 i1
        simp only [Mi.bnd, Mi.mVar, Mi.mC, Mi.mkL, Mi.m2, Mi.m1, Mi.uNeg, Mi.bAdd, Mi.bSub, Mi.bDiv, Mi.bMod, Mi.bPow, Mi.sEq, Mi.bEq, Mi.bCmp, Mi.bLt, Mi.bLe, Mi.bGt, Mi.bGe, Mi.isNon, Mi.mIsN, Mi.mChain, Mi.mAnd, Mi.mOr, Mi.mNot, Mi.mTb, Mi.mTand, Mi.mTor, Mi.mTnot, Mi.mIf, Mi.mNil, Mi.mCons, Mi.mTup, Mi.mLst, Mi.mB, Mi.kOf, Mi.mFld, Mi.mCall, Mi.mCallK, Mi.mMeth, Mi.mMethK, Mi.mDef, Mi.fInt, Mi.fMax, Mi.fMin, Mi.isI, Mi.mIsI, Ms.mIsC, Mi.gNm, Mi.gNil, Mi.gCons, Mi.gTup, Mi.mSeq, Mi.mSkip, Mi.mBrk, Mi.mCont, Mi.mAsg, Mi.mPar, Mi.mExpr, Mi.mRet, Mi.mRetN, Mi.mIfS, Mi.tYes, Mi.wipe, Ms.mDct0, Ms.bAddI, List.map_cons, List.map_nil, List.nil_append, List.cons_append, List.length_cons, List.length_nil, List.replicate_succ, List.replicate_zero, List.getElem?_cons_zero, List.getElem?_cons_succ, List.getElem?_nil, List.set_cons_zero, List.set_cons_succ, Option.map_some, Option.map_none, if_true, if_false, reduceIte, decide_true, decide_false, Nat.reduceAdd, Nat.reduceLeDiff, List.mem_cons, List.mem_singleton, true_or, or_true, true_and, and_true, bne_self_eq_false, Bool.not_true, Bool.not_false, reduceCtorEq, Nat.reduceEqDiff, beq_self_eq_true, Nat.reduceLT, Int.reduceLT, Int.reduceLE, Int.reduceToNat, Int.reduceAdd, Int.reduceSub, Int.reduceMul, Int.reduceNeg, String.reduceEq, String.reduceBEq, List.lookup_cons, List.lookup_nil, Mi.big, Mi.putF, List.length_append, List.append_assoc, ite_true, ite_false, Bool.false_eq_true, and_self, not_true_eq_false, not_false_eq_true, Sum.inr.injEq, Sum.inl.injEq, Mi.look, Mi.put, List.any_cons, List.any_nil, Bool.or_true, Bool.or_false, Bool.true_or, Bool.false_or, List.find?_cons, Option.getD_some, Option.getD_none, Bool.bne_false, Bool.false_bne, Bool.true_bne, Bool.bne_true, Int.reduceEq, Int.reducePow, -Mi.bAdd, qb_law_1, s0, a6', s6, e1, e2, Mi.mTru, Mi.tru, f2, f3, f4, Mi.mSlice, Mi.mO, c1, q1, i1, c2, q2, Mi.mAppend, g4, lw, hb1]
    · have dd := d1.trans d2
      have g2 := dd.s.get nx e
      refine ⟨v, x13, G2, B2, dd, g2, ?_⟩
      simp only [Mi.bnd, Mi.mVar, Mi.mC, Mi.mkL, Mi.m2, Mi.m1, Mi.uNeg, Mi.bAdd, Mi.bSub, Mi.bDiv, Mi.bMod, Mi.bPow, Mi.sEq, Mi.bEq, Mi.bCmp, Mi.bLt, Mi.bLe, Mi.bGt, Mi.bGe, Mi.isNon, Mi.mIsN, Mi.mChain, Mi.mAnd, Mi.mOr, Mi.mNot, Mi.mTb, Mi.mTand, Mi.mTor, Mi.mTnot, Mi.mIf, Mi.mNil, Mi.mCons, Mi.mTup, Mi.mLst, Mi.mB, Mi.kOf, Mi.mFld, Mi.mCall, Mi.mCallK, Mi.mMeth, Mi.mMethK, Mi.mDef, Mi.fInt, Mi.fMax, Mi.fMin, Mi.isI, Mi.mIsI, Ms.mIsC, Mi.gNm, Mi.gNil, Mi.gCons, Mi.gTup, Mi.mSeq, Mi.mSkip, Mi.mBrk, Mi.mCont, Mi.mAsg, Mi.mPar, Mi.mExpr, Mi.mRet, Mi.mRetN, Mi.mIfS, Mi.tYes, Mi.wipe, Ms.mDct0, Ms.bAddI, List.map_cons, List.map_nil, List.nil_append, List.cons_append, List.length_cons, List.length_nil, List.replicate_succ, List.replicate_zero, List.getElem?_cons_zero, List.getElem?_cons_succ, List.getElem?_nil, List.set_cons_zero, List.set_cons_succ, Option.map_some, Option.map_none, if_true, if_false, reduceIte, decide_true, decide_false, Nat.reduceAdd, Nat.reduceLeDiff, List.mem_cons, List.mem_singleton, true_or, or_true, true_and, and_true, bne_self_eq_false, Bool.not_true, Bool.not_false, reduceCtorEq, Nat.reduceEqDiff, beq_self_eq_true, Nat.reduceLT, Int.reduceLT, Int.reduceLE, Int.reduceToNat, Int.reduceAdd, Int.reduceSub, Int.reduceMul, Int.reduceNeg, String.reduceEq, String.reduceBEq, List.lookup_cons, List.lookup_nil, Mi.big, Mi.putF, List.length_append, List.append_assoc, ite_true, ite_false, Bool.false_eq_true, and_self, not_true_eq_false, not_false_eq_true, Sum.inr.injEq, Sum.inl.injEq, Mi.look, Mi.put, List.any_cons, List.any_nil, Bool.or_true, Bool.or_false, Bool.true_or, Bool.false_or, List.find?_cons, Option.getD_some, Option.getD_none, Bool.bne_false, Bool.false_bne, Bool.true_bne, Bool.bne_true, Int.reduceEq, Int.reducePow, -Mi.bAdd, qb_law_1, s0, a6', s6, e1, e2, Mi.mTru, Mi.tru, f2, hr, Mi.mAppend, g2, lw, hb1]
theorem mk_loop {w : List Int} (B : Blk w) {hx : Nat} (nx : hx ∉ [hd, hc]) (bent : Bool) (a0 a2 a3 a4 a5 a6 a7 a14 a15 a16 : Option Dv) : ∀ (js : List Nat) (ws : List (List Int)) (G : Sto) (x11 x12 x13 : Option Dv), Dk hd hc G → G[hx]? = some (.lst (ws.map T)) → ws.length + js.length ≤ 100 → (∀ j ∈ js, j ≤ 24) → (∀ w ∈ ws, Blk w) →
    ∃ (ws' : List (List Int)) (y11 y12 y13 : Option Dv) (G' : Sto), Mi.mLoop (Mi.gNm 11) qb_law_1 (fun _ => True) (js.map fun j => Dv.int ((j : Nat) : Int)) [a0, some (.ref hd), a2, a3, a4, a5, a6, a7, some (T w), some (.ref hx), some (.bl bent), x11, x12, x13, a14, a15, a16] G = some (.nx, [a0, some (.ref hd), a2, a3, a4, a5, a6, a7, some (T w), some (.ref hx), some (.bl bent), y11, y12, y13, a14, a15, a16], G') ∧
      G'[hx]? = some (.lst (ws'.map T)) ∧ ws'.length = ws.length + js.length ∧ (∀ w ∈ ws', Blk w) ∧ Dk hd hc G' ∧ Sm [hd, hc, hx] G G'
  | [], ws, G, x11, x12, x13, d, e, _, _, hB => ⟨ws, x11, x12, x13, G, by rw [List.map_nil, Mi.mLoop, if_pos trivial], e, rfl, hB, d, Sm.refl⟩
  | j :: js, ws, G, x11, x12, x13, d, e, hl, hj, hB => by
    rw [List.length_cons] at hl
    obtain ⟨w', y13, G1, B', d1, g1, e1⟩ := mk_body d B e nx (by omega) j (hj j (List.mem_cons_self ..)) bent a0 a2 a3 a4 a5 a6 a7 x12 x13 a14 a15 a16
    have S1 : Sm [hx] G1 (G1.set hx (.lst (ws.map T ++ [T w']))) := sm_set (by simp)
    have k1 := d1.d.sm S1 (by simp only [List.mem_singleton]; intro q; exact nx (by simp [q])) (by simp only [List.mem_singleton]; intro q; exact nx (by simp [q]))
    have g2 : (G1.set hx (.lst (ws.map T ++ [T w'])))[hx]? = some (.lst ((ws ++ [w']).map T)) := by rw [set_at g1, List.map_append]; rfl
    obtain ⟨ws', z11, z12, z13, G', e', g', l', B2, k', s'⟩ := mk_loop B nx bent a0 a2 a3 a4 a5 a6 a7 a14 a15 a16 js (ws ++ [w']) _ (some (.int (j : Nat))) (some (T w')) y13 k1 g2 (by rw [List.length_append, List.length_singleton]; omega) (fun i hi => hj i (List.mem_cons_of_mem _ hi)) (fun v hv => by
      rcases (List.mem_append.mp hv : _ ∨ _) with q | q
      · exact hB v q
      · rw [List.mem_singleton.mp q]; exact B')
    refine ⟨ws', z11, z12, z13, G', ?_, g', by rw [l', List.length_append, List.length_singleton, List.length_cons]; omega, B2, k', ((d1.s.mono (by intro i hi; simp at hi ⊢; omega)).trans (S1.mono (by intro i hi; simp at hi ⊢; omega))).trans s'⟩
    rw [List.map_cons, Mi.mLoop, if_pos trivial]
    simp only [Mi.gNm, List.set_cons_succ, List.set_cons_zero]
    rw [e1]
    exact e'
end
section
variable {G G' : Sto} {hd hc hi hs h hb hq hn n hx : Nat} {s k : Int} {bl : List Dv} {its : List (Nat × Dv)} {ws : List (List Int)}
theorem wr_body (W : Wh hd hc h hb hq hn hi hs s k bl its n G) (hle : n ≤ 4000) (g o : Int) (hg : 0 ≤ g ∧ g < s) (j : Nat) (ho : 0 ≤ o ∧ o + j < k) (w : List Int) (B : Blk w) (a0 a5 a8 a9 a10 a11 x14 a15 a16 : Option Dv) :
    ∃ its' y14 G', qb_law_2 [a0, some (.ref hd), some (szs s k), some (.ref h), some (.ref hi), a5, some (.int g), some (.int o), a8, a9, a10, a11, some (T w), some (.int (j : Nat)), x14, a15, a16] G = some (.nx, [a0, some (.ref hd), some (szs s k), some (.ref h), some (.ref hi), a5, some (.int g), some (.int o), a8, a9, a10, a11, some (T w), some (.int (j : Nat)), y14, a15, a16], G') ∧
      Wh hd hc h hb hq hn hi hs s k bl its' (n + 1) G' ∧ Sm [hq, hn, hi] G G' := by
  have pl := law_place_ok s k g (o + (j : Nat)) G W.hS W.hK (by omega)
  obtain ⟨p, hp', hp⟩ := place_nat W g (o + (j : Nat)) hg (by omega)
  rw [hp'] at pl
  have il := W.il
  have nl := nw_len its
  obtain ⟨G1, e1, D1, S1, L1⟩ := write_ok W.ds (p : Int) w B (by omega) (by omega) (by unfold qOf; rw [List.length_map]; omega) (by omega)
  have a2 := W.a2
  have m : ∀ x ∈ [hi, hs, hd, hc], x ∉ [hq, hn] := fun x hx => by
    have q1 := W.a2 hq (by simp)
    have q2 := W.a2 hn (by simp)
    have q3 := W.ap hq (by simp)
    have q4 := W.ap hn (by simp)
    simp only [List.mem_cons, List.not_mem_nil, or_false] at hx ⊢
    omega
  have g1 := S1.get (m hi (by simp)) W.it
  have g2 := S1.get (m hs (by simp)) W.sd
  have k1 := W.dk.sm S1 (m hd (by simp)) (m hc (by simp))
  have S2 : Sm [hi] G1 (G1.set hi (.dct (itD s k hs (.fls (qOf (its ++ [(p, T w)]))) .non))) := sm_set (by simp)
  have ni : ∀ x, x ≠ hi → x ∉ [hi] := fun x hx => by simpa using hx
  have ap := W.ap
  have qa : qOf its ++ [.tup [.int (p : Int), T w]] = qOf (its ++ [(p, T w)]) := by unfold qOf; rw [List.map_append]; rfl
  have D1' : Dsk G1 h hb hq hn s k bl (qOf (its ++ [(p, T w)])) (nwOf (its ++ [(p, T w)])) := by rw [← qa, nwOf_app]; exact D1
  refine ⟨its ++ [(p, T w)], some (.int (p : Int)), _, ?_, ⟨k1.sm S2 (ni _ (fun e => (ap hi (by simp)).1 e.symm)) (ni _ (fun e => (ap hi (by simp)).2 e.symm)), D1'.sm S2 (ni _ (a2 h (by simp)).1) (ni _ (a2 hb (by simp)).1) (ni _ (a2 hq (by simp)).1) (ni _ (a2 hn (by simp)).1), set_at g1, S2.get (ni _ W.a3.symm) g2, W.ap, W.a2, W.a3, W.bb, ?_, W.sz, W.hS, W.hK, by rw [List.length_append]; simp; omega⟩, (S1.mono (by intro j hj; simp at hj ⊢; omega)).trans (S2.mono (by intro j hj; simp at hj ⊢; omega))⟩
  · have sw := sub_wait g1
    have ob := W.ds.ob
    have lb : (qOf its).length + 1 ≤ 16777216 := by unfold qOf; rw [List.length_map]; omega
    have e1' : m_Disk_write [.ref h, .int (p : Int), T w] G = some (.non, G1) := e1
    have il2 : (itD s k hs (.fls (qOf its)) .non).length < 16777216 := itD_len _ _
    have pw := put_wait (s := s) (k := k) (hs := hs) (.fls (qOf its)) (.fls (qOf (its ++ [(p, T w)]))) .non
    simp only [Mi.bnd, Mi.mVar, Mi.mC, Mi.mkL, Mi.m2, Mi.m1, Mi.uNeg, Mi.bAdd, Mi.bSub, Mi.bDiv, Mi.bMod, Mi.bPow, Mi.sEq, Mi.bEq, Mi.bCmp, Mi.bLt, Mi.bLe, Mi.bGt, Mi.bGe, Mi.isNon, Mi.mIsN, Mi.mChain, Mi.mAnd, Mi.mOr, Mi.mNot, Mi.mTb, Mi.mTand, Mi.mTor, Mi.mTnot, Mi.mIf, Mi.mNil, Mi.mCons, Mi.mTup, Mi.mLst, Mi.mB, Mi.kOf, Mi.mFld, Mi.mCall, Mi.mCallK, Mi.mMeth, Mi.mMethK, Mi.mDef, Mi.fInt, Mi.fMax, Mi.fMin, Mi.isI, Mi.mIsI, Ms.mIsC, Mi.gNm, Mi.gNil, Mi.gCons, Mi.gTup, Mi.mSeq, Mi.mSkip, Mi.mBrk, Mi.mCont, Mi.mAsg, Mi.mPar, Mi.mExpr, Mi.mRet, Mi.mRetN, Mi.mIfS, Mi.tYes, Mi.wipe, Ms.mDct0, Ms.bAddI, List.map_cons, List.map_nil, List.nil_append, List.cons_append, List.length_cons, List.length_nil, List.replicate_succ, List.replicate_zero, List.getElem?_cons_zero, List.getElem?_cons_succ, List.getElem?_nil, List.set_cons_zero, List.set_cons_succ, Option.map_some, Option.map_none, if_true, if_false, reduceIte, decide_true, decide_false, Nat.reduceAdd, Nat.reduceLeDiff, List.mem_cons, List.mem_singleton, true_or, or_true, true_and, and_true, bne_self_eq_false, Bool.not_true, Bool.not_false, reduceCtorEq, Nat.reduceEqDiff, beq_self_eq_true, Nat.reduceLT, Int.reduceLT, Int.reduceLE, Int.reduceToNat, Int.reduceAdd, Int.reduceSub, Int.reduceMul, Int.reduceNeg, String.reduceEq, String.reduceBEq, List.lookup_cons, List.lookup_nil, Mi.big, Mi.putF, List.length_append, List.append_assoc, ite_true, ite_false, Bool.false_eq_true, and_self, not_true_eq_false, not_false_eq_true, Sum.inr.injEq, Sum.inl.injEq, Mi.look, Mi.put, List.any_cons, List.any_nil, Bool.or_true, Bool.or_false, Bool.true_or, Bool.false_or, List.find?_cons, Option.getD_some, Option.getD_none, Bool.bne_false, Bool.false_bne, Bool.true_bne, Bool.bne_true, Int.reduceEq, Int.reducePow, -Mi.put, qb_law_2, pl, ob, dfs, e1', sw, lb, qa, Mi.mSetK, g1, il2, pw]
  · intro q hq
    rcases (List.mem_append.mp hq : _ ∨ _) with z | z
    · exact W.ib q z
    · cases List.mem_singleton.mp z
      exact ⟨hp, w, rfl, B⟩
theorem wr_loop (g o : Int) (hg : 0 ≤ g ∧ g < s) (ho : 0 ≤ o) (a0 a5 a8 a9 a10 a11 a15 a16 : Option Dv) (st : Sto → Prop) (hst : ∀ G, Bx hx ws [h, hb, hq, hn, hi, hs, hd, hc] G → st G) : ∀ (us : List (List Int)) (j n : Nat) (its : List (Nat × Dv)) (G : Sto) (x12 x13 x14 : Option Dv), Wh hd hc h hb hq hn hi hs s k bl its n G → Bx hx ws [h, hb, hq, hn, hi, hs, hd, hc] G → n + us.length ≤ 4000 → o + j + us.length ≤ k → (∀ w ∈ us, Blk w) →
    ∃ its' x12' x13' x14' G', Mi.mLoop (Mi.gTup 2 (Mi.gCons (Mi.gNm 13) (Mi.gCons (Mi.gNm 12) Mi.gNil))) qb_law_2 st (Mi.enumD j (us.map T)) [a0, some (.ref hd), some (szs s k), some (.ref h), some (.ref hi), a5, some (.int g), some (.int o), a8, a9, a10, a11, x12, x13, x14, a15, a16] G = some (.nx, [a0, some (.ref hd), some (szs s k), some (.ref h), some (.ref hi), a5, some (.int g), some (.int o), a8, a9, a10, a11, x12', x13', x14', a15, a16], G') ∧
      Wh hd hc h hb hq hn hi hs s k bl its' (n + us.length) G'
  | [], j, n, its, G, x12, x13, x14, W, b, _, _, _ => ⟨its, x12, x13, x14, G, by rw [List.map_nil, Mi.enumD, Mi.mLoop, if_pos (hst G b)], W⟩
  | w :: us, j, n, its, G, x12, x13, x14, W, b, hn', hk', hu => by
    rw [List.length_cons] at hn' hk'
    obtain ⟨its1, y14, G1, e1, W1, S1⟩ := wr_body W (by omega) g o hg j ⟨ho, by omega⟩ w (hu w (List.mem_cons_self ..)) a0 a5 a8 a9 a10 a11 x14 a15 a16
    have b1 := b.sm S1 (by simp)
    obtain ⟨its2, y12, y13, y14', G2, e2, W2⟩ := wr_loop g o hg ho a0 a5 a8 a9 a10 a11 a15 a16 st hst us (j + 1) (n + 1) its1 G1 (some (T w)) (some (.int (j : Nat))) y14 W1 b1 (by omega) (by omega) (fun v hv => hu v (List.mem_cons_of_mem _ hv))
    refine ⟨its2, y12, y13, y14', G2, ?_, by rw [List.length_cons, show n + (us.length + 1) = n + 1 + us.length by omega]; exact W2⟩
    rw [List.map_cons, Mi.enumD, Mi.mLoop, if_pos (hst G b)]
    simp only [Mi.bnd, Mi.mVar, Mi.mC, Mi.mkL, Mi.m2, Mi.m1, Mi.uNeg, Mi.bAdd, Mi.bSub, Mi.bDiv, Mi.bMod, Mi.bPow, Mi.sEq, Mi.bEq, Mi.bCmp, Mi.bLt, Mi.bLe, Mi.bGt, Mi.bGe, Mi.isNon, Mi.mIsN, Mi.mChain, Mi.mAnd, Mi.mOr, Mi.mNot, Mi.mTb, Mi.mTand, Mi.mTor, Mi.mTnot, Mi.mIf, Mi.mNil, Mi.mCons, Mi.mTup, Mi.mLst, Mi.mB, Mi.kOf, Mi.mFld, Mi.mCall, Mi.mCallK, Mi.mMeth, Mi.mMethK, Mi.mDef, Mi.fInt, Mi.fMax, Mi.fMin, Mi.isI, Mi.mIsI, Ms.mIsC, Mi.gNm, Mi.gNil, Mi.gCons, Mi.gTup, Mi.mSeq, Mi.mSkip, Mi.mBrk, Mi.mCont, Mi.mAsg, Mi.mPar, Mi.mExpr, Mi.mRet, Mi.mRetN, Mi.mIfS, Mi.tYes, Mi.wipe, Ms.mDct0, Ms.bAddI, List.map_cons, List.map_nil, List.nil_append, List.cons_append, List.length_cons, List.length_nil, List.replicate_succ, List.replicate_zero, List.getElem?_cons_zero, List.getElem?_cons_succ, List.getElem?_nil, List.set_cons_zero, List.set_cons_succ, Option.map_some, Option.map_none, if_true, if_false, reduceIte, decide_true, decide_false, Nat.reduceAdd, Nat.reduceLeDiff, List.mem_cons, List.mem_singleton, true_or, or_true, true_and, and_true, bne_self_eq_false, Bool.not_true, Bool.not_false, reduceCtorEq, Nat.reduceEqDiff, beq_self_eq_true, Nat.reduceLT, Int.reduceLT, Int.reduceLE, Int.reduceToNat, Int.reduceAdd, Int.reduceSub, Int.reduceMul, Int.reduceNeg, String.reduceEq, String.reduceBEq, List.lookup_cons, List.lookup_nil, Mi.big, Mi.putF, List.length_append, List.append_assoc, ite_true, ite_false, Bool.false_eq_true, and_self, not_true_eq_false, not_false_eq_true, Sum.inr.injEq, Sum.inl.injEq, Mi.look, Mi.put, List.any_cons, List.any_nil, Bool.or_true, Bool.or_false, Bool.true_or, Bool.false_or, List.find?_cons, Option.getD_some, Option.getD_none, Bool.bne_false, Bool.false_bne, Bool.true_bne, Bool.bne_true, Int.reduceEq, Int.reducePow, e1]
    exact e2
theorem go_body (W : Wh hd hc h hb hq hn hi hs s k bl its n G) (hle : n ≤ 3000) (a0 : Option Dv) (go : Int) (b6 b7 b8 b9 b10 b11 b12 b13 b14 b15 b16 : Option Dv) :
    ∃ bl' its' hq' hn' G' c6 c7 c8 c9 c10 c11 c12 c13 c14 c15 c16, qb_law_3 [a0, some (.ref hd), some (szs s k), some (.ref h), some (.ref hi), some (.int go), b6, b7, b8, b9, b10, b11, b12, b13, b14, b15, b16] G = some (.nx, [a0, some (.ref hd), some (szs s k), some (.ref h), some (.ref hi), some (.int go), c6, c7, c8, c9, c10, c11, c12, c13, c14, c15, c16], G') ∧
      Wh hd hc h hb hq' hn' hi hs s k bl' its' (n + 24) G' := by
  have hS := W.hS
  have hK := W.hK
  have z1 : ∀ G, Mi.bSubs (szs s k) (.int 1) G = some (.int k, G) := fun G => rfl
  have z0 : ∀ G, Mi.bSubs (szs s k) (.int 0) G = some (.int s, G) := fun G => rfl
  obtain ⟨g, G1, e1, a1, b1, d1⟩ := draw W.dk s (by omega) (by omega)
  obtain ⟨r2, G2, e2, a2, b2, d2⟩ := draw d1.d k (by omega) (by omega)
  obtain ⟨y, G3, e3, hy, d3⟩ := pick d2.d [.int 0, .int 0, .int 1, .int 0, .int (k - 1), .int r2] (by simp) (by simp)
  have hyi : ∃ i : Int, y = .int i ∧ 0 ≤ i ∧ i < k := by
    simp only [List.mem_cons, List.not_mem_nil, or_false] at hy
    rcases hy with rfl | rfl | rfl | rfl | rfl | rfl <;> exact ⟨_, rfl, by omega, by omega⟩
  obtain ⟨o, rfl, o0, o1⟩ := hyi
  have W3 := W.dr ((d1.trans d2).trans d3)
  have hg : 0 ≤ g ∧ g < s := ⟨a1, b1⟩
  obtain ⟨w, G4, e4, B, d4⟩ := some_summary_ok W3.dk hS hK o ⟨o0, o1⟩
  have W4 := W3.dg d4
  obtain ⟨r5, G5, e5, a5, b5, d5⟩ := draw (W4.dk.disk (sm_app (r := [.lst ([w].map T)]))) 3 (by decide) (by decide)
  have lt4 := W4.lt
  have lt4d := W4.dk.lt
  have n5 : G4.length ∉ [hd, hc] := by simp; omega
  have g4 : (G4 ++ [MO.lst ([w].map T)])[G4.length]? = some (.lst ([w].map T)) := get0 _ _ _
  have g5 := d5.s.get n5 g4
  have dg5 : Dg hd hc G4 G5 := ⟨d5.d, (sm_app : Sm [hd, hc] G4 (G4 ++ [MO.lst ([w].map T)])).trans d5.s⟩
  obtain ⟨c, hc'⟩ : ∃ c : Int, (if k - o - 1 < w.getD 4 0 then k - o - 1 else w.getD 4 0) = c := ⟨_, rfl⟩
  have b4 := w_bd B 4 (by decide)
  have bc : 0 ≤ c ∧ c ≤ k - o - 1 := by rw [← hc']; split <;> omega
  obtain ⟨C, rfl⟩ := Int.eq_ofNat_of_zero_le bc.1
  have er : Mi.rng 0 (C : Int) = (List.range C).map fun j => Dv.int ((j : Nat) : Int) := by
    unfold Mi.rng
    rw [show ((C : Int) - 0).toNat = C by omega]
    refine List.map_congr_left fun i _ => (by simp)
  obtain ⟨ws, y11, y12, y13, G6, e6, g6, l6, B6, k6, S6⟩ := mk_loop (hd := hd) (hc := hc) B (hx := G4.length) n5 (decide (r5 = 0)) a0 (some (szs s k)) (some (.ref h)) (some (.ref hi)) (some (.int go)) (some (.int g)) (some (.int o)) b14 b15 b16 (List.range C) [w] G5 b11 b12 b13 d5.d g5 (by simp; omega) (fun j hj => by have := (List.mem_range).mp hj; omega) (fun v hv => by rw [List.mem_singleton.mp hv]; exact B)
  have dg6 : Dg hd hc G4 G6 := ⟨k6, Nat.le_trans dg5.s.le S6.le, fun i hi' hni => by
    rw [S6.at_ i (Nat.lt_of_lt_of_le hi' dg5.s.le) (by simp at hni ⊢; omega)]
    exact dg5.s.at_ i hi' hni⟩
  have W6 := W4.dg dg6
  rw [List.length_range, List.length_singleton] at l6
  have s4 : ∀ G, Mi.bSubs (T w) (.int 4) G = some (.int (w.getD 4 0), G) := fun G => wAt B.1 (i := 4) (by decide) G
  have i1 : -(2 ^ 62) ≤ (C : Int) ∧ (C : Int) < 2 ^ 62 := by omega
  have e6' : qf_law_1 [a0, some (.ref hd), some (szs s k), some (.ref h), some (.ref hi), some (.int go), some (.int g), some (.int o), some (T w), some (.ref G4.length), some (.bl (decide (r5 = 0))), b11, b12, b13, b14, b15, b16] G5 = some (.nx, [a0, some (.ref hd), some (szs s k), some (.ref h), some (.ref hi), some (.int go), some (.int g), some (.int o), some (T w), some (.ref G4.length), some (.bl (decide (r5 = 0))), y11, y12, y13, b14, b15, b16], G6) := by
    rw [← er] at e6
    unfold qf_law_1 qi_law_1 Mi.mFor
    obtain ⟨C0, hC0⟩ : ∃ C0 : Int, (C : Int) = C0 := ⟨_, rfl⟩
    rw [hC0] at i1 hc' e6
    simp only [Mi.bnd, Mi.mVar, Mi.mC, Mi.mkL, Mi.m2, Mi.m1, Mi.uNeg, Mi.bAdd, Mi.bSub, Mi.bDiv, Mi.bMod, Mi.bPow, Mi.sEq, Mi.bEq, Mi.bCmp, Mi.bLt, Mi.bLe, Mi.bGt, Mi.bGe, Mi.isNon, Mi.mIsN, Mi.mChain, Mi.mAnd, Mi.mOr, Mi.mNot, Mi.mTb, Mi.mTand, Mi.mTor, Mi.mTnot, Mi.mIf, Mi.mNil, Mi.mCons, Mi.mTup, Mi.mLst, Mi.mB, Mi.kOf, Mi.mFld, Mi.mCall, Mi.mCallK, Mi.mMeth, Mi.mMethK, Mi.mDef, Mi.fInt, Mi.fMax, Mi.fMin, Mi.isI, Mi.mIsI, Ms.mIsC, Mi.gNm, Mi.gNil, Mi.gCons, Mi.gTup, Mi.mSeq, Mi.mSkip, Mi.mBrk, Mi.mCont, Mi.mAsg, Mi.mPar, Mi.mExpr, Mi.mRet, Mi.mRetN, Mi.mIfS, Mi.tYes, Mi.wipe, Ms.mDct0, Ms.bAddI, List.map_cons, List.map_nil, List.nil_append, List.cons_append, List.length_cons, List.length_nil, List.replicate_succ, List.replicate_zero, List.getElem?_cons_zero, List.getElem?_cons_succ, List.getElem?_nil, List.set_cons_zero, List.set_cons_succ, Option.map_some, Option.map_none, if_true, if_false, reduceIte, decide_true, decide_false, Nat.reduceAdd, Nat.reduceLeDiff, List.mem_cons, List.mem_singleton, true_or, or_true, true_and, and_true, bne_self_eq_false, Bool.not_true, Bool.not_false, reduceCtorEq, Nat.reduceEqDiff, beq_self_eq_true, Nat.reduceLT, Int.reduceLT, Int.reduceLE, Int.reduceToNat, Int.reduceAdd, Int.reduceSub, Int.reduceMul, Int.reduceNeg, String.reduceEq, String.reduceBEq, List.lookup_cons, List.lookup_nil, Mi.big, Mi.putF, List.length_append, List.append_assoc, ite_true, ite_false, Bool.false_eq_true, and_self, not_true_eq_false, not_false_eq_true, Sum.inr.injEq, Sum.inl.injEq, Mi.look, Mi.put, List.any_cons, List.any_nil, Bool.or_true, Bool.or_false, Bool.true_or, Bool.false_or, List.find?_cons, Option.getD_some, Option.getD_none, Bool.bne_false, Bool.false_bne, Bool.true_bne, Bool.bne_true, Int.reduceEq, Int.reducePow, -Int.reducePow, -Int.reduceNeg, Mi.iRange1, s4, z1, hc', if_pos i1]
    exact e6
  have bx6 : Bx G4.length ws [h, hb, hq, hn, hi, hs, hd, hc] G6 := ⟨g6, fun x hx' => by have := lt4 x hx'; omega⟩
  obtain ⟨its7, y12', y13', y14', G7, e7, W7⟩ := wr_loop (ws := ws) (hx := G4.length) g o hg o0 a0 (some (.int go)) (some (T w)) (some (.ref G4.length)) (some (.bl (decide (r5 = 0)))) y11 b15 b16 (fun G' => Mi.lstOf G' (.ref G4.length) = some (ws.map T)) (fun G' bb => by simp only [Mi.lstOf, bb.e]) ws 0 n its G6 y12 y13 b14 W6 bx6 (by omega) (by omega) B6
  have e7' : qf_law_2 [a0, some (.ref hd), some (szs s k), some (.ref h), some (.ref hi), some (.int go), some (.int g), some (.int o), some (T w), some (.ref G4.length), some (.bl (decide (r5 = 0))), y11, y12, y13, b14, b15, b16] G6 = some (.nx, [a0, some (.ref hd), some (szs s k), some (.ref h), some (.ref hi), some (.int go), some (.int g), some (.int o), some (T w), some (.ref G4.length), some (.bl (decide (r5 = 0))), y11, y12', y13', y14', b15, b16], G7) := by
    unfold qf_law_2 qi_law_2 Mi.mFor
    have lr : Mi.lstOf G6 (.ref G4.length) = some (ws.map T) := by simp only [Mi.lstOf, g6]
    simp only [Mi.bnd, Mi.mVar, Mi.mC, Mi.mkL, Mi.m2, Mi.m1, Mi.uNeg, Mi.bAdd, Mi.bSub, Mi.bDiv, Mi.bMod, Mi.bPow, Mi.sEq, Mi.bEq, Mi.bCmp, Mi.bLt, Mi.bLe, Mi.bGt, Mi.bGe, Mi.isNon, Mi.mIsN, Mi.mChain, Mi.mAnd, Mi.mOr, Mi.mNot, Mi.mTb, Mi.mTand, Mi.mTor, Mi.mTnot, Mi.mIf, Mi.mNil, Mi.mCons, Mi.mTup, Mi.mLst, Mi.mB, Mi.kOf, Mi.mFld, Mi.mCall, Mi.mCallK, Mi.mMeth, Mi.mMethK, Mi.mDef, Mi.fInt, Mi.fMax, Mi.fMin, Mi.isI, Mi.mIsI, Ms.mIsC, Mi.gNm, Mi.gNil, Mi.gCons, Mi.gTup, Mi.mSeq, Mi.mSkip, Mi.mBrk, Mi.mCont, Mi.mAsg, Mi.mPar, Mi.mExpr, Mi.mRet, Mi.mRetN, Mi.mIfS, Mi.tYes, Mi.wipe, Ms.mDct0, Ms.bAddI, List.map_cons, List.map_nil, List.nil_append, List.cons_append, List.length_cons, List.length_nil, List.replicate_succ, List.replicate_zero, List.getElem?_cons_zero, List.getElem?_cons_succ, List.getElem?_nil, List.set_cons_zero, List.set_cons_succ, Option.map_some, Option.map_none, if_true, if_false, reduceIte, decide_true, decide_false, Nat.reduceAdd, Nat.reduceLeDiff, List.mem_cons, List.mem_singleton, true_or, or_true, true_and, and_true, bne_self_eq_false, Bool.not_true, Bool.not_false, reduceCtorEq, Nat.reduceEqDiff, beq_self_eq_true, Nat.reduceLT, Int.reduceLT, Int.reduceLE, Int.reduceToNat, Int.reduceAdd, Int.reduceSub, Int.reduceMul, Int.reduceNeg, String.reduceEq, String.reduceBEq, List.lookup_cons, List.lookup_nil, Mi.big, Mi.putF, List.length_append, List.append_assoc, ite_true, ite_false, Bool.false_eq_true, and_self, not_true_eq_false, not_false_eq_true, Sum.inr.injEq, Sum.inl.injEq, Mi.look, Mi.put, List.any_cons, List.any_nil, Bool.or_true, Bool.or_false, Bool.true_or, Bool.false_or, List.find?_cons, Option.getD_some, Option.getD_none, Bool.bne_false, Bool.false_bne, Bool.true_bne, Bool.bne_true, Int.reduceEq, Int.reducePow, Mi.iEnum, lr]
    exact e7
  obtain ⟨r8, G8, e8, a8, b8', d8⟩ := draw W7.dk 4 (by decide) (by decide)
  have W8 := W7.dr d8
  have ge : ∀ G, Mi.mLst true (Mi.mCons (Mi.mVar 8) Mi.mNil) [a0, some (.ref hd), some (szs s k), some (.ref h), some (.ref hi), some (.int go), some (.int g), some (.int o), some (T w), b9, b10, b11, b12, b13, b14, b15, b16] G = some (.ref G.length, G ++ [.lst ([w].map T)]) := fun G => by simp only [Mi.bnd, Mi.mVar, Mi.mC, Mi.mkL, Mi.m2, Mi.m1, Mi.uNeg, Mi.bAdd, Mi.bSub, Mi.bDiv, Mi.bMod, Mi.bPow, Mi.sEq, Mi.bEq, Mi.bCmp, Mi.bLt, Mi.bLe, Mi.bGt, Mi.bGe, Mi.isNon, Mi.mIsN, Mi.mChain, Mi.mAnd, Mi.mOr, Mi.mNot, Mi.mTb, Mi.mTand, Mi.mTor, Mi.mTnot, Mi.mIf, Mi.mNil, Mi.mCons, Mi.mTup, Mi.mLst, Mi.mB, Mi.kOf, Mi.mFld, Mi.mCall, Mi.mCallK, Mi.mMeth, Mi.mMethK, Mi.mDef, Mi.fInt, Mi.fMax, Mi.fMin, Mi.isI, Mi.mIsI, Ms.mIsC, Mi.gNm, Mi.gNil, Mi.gCons, Mi.gTup, Mi.mSeq, Mi.mSkip, Mi.mBrk, Mi.mCont, Mi.mAsg, Mi.mPar, Mi.mExpr, Mi.mRet, Mi.mRetN, Mi.mIfS, Mi.tYes, Mi.wipe, Ms.mDct0, Ms.bAddI, List.map_cons, List.map_nil, List.nil_append, List.cons_append, List.length_cons, List.length_nil, List.replicate_succ, List.replicate_zero, List.getElem?_cons_zero, List.getElem?_cons_succ, List.getElem?_nil, List.set_cons_zero, List.set_cons_succ, Option.map_some, Option.map_none, if_true, if_false, reduceIte, decide_true, decide_false, Nat.reduceAdd, Nat.reduceLeDiff, List.mem_cons, List.mem_singleton, true_or, or_true, true_and, and_true, bne_self_eq_false, Bool.not_true, Bool.not_false, reduceCtorEq, Nat.reduceEqDiff, beq_self_eq_true, Nat.reduceLT, Int.reduceLT, Int.reduceLE, Int.reduceToNat, Int.reduceAdd, Int.reduceSub, Int.reduceMul, Int.reduceNeg, String.reduceEq, String.reduceBEq, List.lookup_cons, List.lookup_nil, Mi.big, Mi.putF, List.length_append, List.append_assoc, ite_true, ite_false, Bool.false_eq_true, and_self, not_true_eq_false, not_false_eq_true, Sum.inr.injEq, Sum.inl.injEq, Mi.look, Mi.put, List.any_cons, List.any_nil, Bool.or_true, Bool.or_false, Bool.true_or, Bool.false_or, List.find?_cons, Option.getD_some, Option.getD_none, Bool.bne_false, Bool.false_bne, Bool.true_bne, Bool.bne_true, Int.reduceEq, Int.reducePow]
  -- the judgement at a moment
  have fin : ∀ {hq hn : Nat} {bl : List Dv} {its : List (Nat × Dv)} {G : Sto}, Wh hd hc h hb hq hn hi hs s k bl its (n + ws.length) G →
      ∃ x L, m_judge_group [.ref h, .int g, .int o] G = some (x, G) ∧ m_law_from [.ref hi, .int g, .int o] G = some (L, G) ∧ m_law_group_told [szs s k, L] G = some (x, G) ∧ (∃ d, Mi.pyT G x = some d ∧ Mi.pyT G x = some d ∧ Mi.okR d) ∧ Wh hd hc h hb hq hn hi hs s k bl its (n + 24) G := fun {hq hn bl its G} W => by
    obtain ⟨x, L, ⟨dx, cx, rx, lx⟩, ag⟩ := both_look W hS hK g o hg ⟨o0, o1⟩
    obtain ⟨f1, f2, f3⟩ := ag G W
    exact ⟨x, L, f1, f2, f3, rx.rq (by omega) (by decide) G G, ⟨W.dk, W.ds, W.it, W.sd, W.ap, W.a2, W.a3, W.bb, W.ib, W.sz, W.hS, W.hK, by have := W.il; omega⟩⟩
  have e5' : m_law_draw [.ref hd, .int 3] (G4 ++ [MO.lst [T w]]) = some (.int r5, G5) := e5
  have md : ∀ G, Mi.bMod (.int go) (.int 2) G = some (.int (go % 2), G) := fun G => rfl
  by_cases hr : r8 = 0
  · obtain ⟨G9, G10, hq', hn', e9, e10, W10, _, _, _⟩ := force_k W8
    obtain ⟨x, L, f1, f2, f3, f4, f5⟩ := fin W10
    have ob := W8.ds.ob
    refine ⟨_, _, _, _, G10, some (.int g), some (.int o), some (T w), some (.ref G4.length), some (.bl (decide (r5 = 0))), y11, y12', y13', y14', some x, some x, ?_, f5⟩
    subst hr
    by_cases hm : go % 2 = 0
    · simp only [Mi.bnd, Mi.mVar, Mi.mC, Mi.mkL, Mi.m2, Mi.m1, Mi.uNeg, Mi.bAdd, Mi.bSub, Mi.bDiv, Mi.bMod, Mi.bPow, Mi.sEq, Mi.bEq, Mi.bCmp, Mi.bLt, Mi.bLe, Mi.bGt, Mi.bGe, Mi.isNon, Mi.mIsN, Mi.mChain, Mi.mAnd, Mi.mOr, Mi.mNot, Mi.mTb, Mi.mTand, Mi.mTor, Mi.mTnot, Mi.mIf, Mi.mNil, Mi.mCons, Mi.mTup, Mi.mLst, Mi.mB, Mi.kOf, Mi.mFld, Mi.mCall, Mi.mCallK, Mi.mMeth, Mi.mMethK, Mi.mDef, Mi.fInt, Mi.fMax, Mi.fMin, Mi.isI, Mi.mIsI, Ms.mIsC, Mi.gNm, Mi.gNil, Mi.gCons, Mi.gTup, Mi.mSeq, Mi.mSkip, Mi.mBrk, Mi.mCont, Mi.mAsg, Mi.mPar, Mi.mExpr, Mi.mRet, Mi.mRetN, Mi.mIfS, Mi.tYes, Mi.wipe, Ms.mDct0, Ms.bAddI, List.map_cons, List.map_nil, List.nil_append, List.cons_append, List.length_cons, List.length_nil, List.replicate_succ, List.replicate_zero, List.getElem?_cons_zero, List.getElem?_cons_succ, List.getElem?_nil, List.set_cons_zero, List.set_cons_succ, Option.map_some, Option.map_none, if_true, if_false, reduceIte, decide_true, decide_false, Nat.reduceAdd, Nat.reduceLeDiff, List.mem_cons, List.mem_singleton, true_or, or_true, true_and, and_true, bne_self_eq_false, Bool.not_true, Bool.not_false, reduceCtorEq, Nat.reduceEqDiff, beq_self_eq_true, Nat.reduceLT, Int.reduceLT, Int.reduceLE, Int.reduceToNat, Int.reduceAdd, Int.reduceSub, Int.reduceMul, Int.reduceNeg, String.reduceEq, String.reduceBEq, List.lookup_cons, List.lookup_nil, Mi.big, Mi.putF, List.length_append, List.append_assoc, ite_true, ite_false, Bool.false_eq_true, and_self, not_true_eq_false, not_false_eq_true, Sum.inr.injEq, Sum.inl.injEq, Mi.look, Mi.put, List.any_cons, List.any_nil, Bool.or_true, Bool.or_false, Bool.true_or, Bool.false_or, List.find?_cons, Option.getD_some, Option.getD_none, Bool.bne_false, Bool.false_bne, Bool.true_bne, Bool.bne_true, Int.reduceEq, Int.reducePow, -Mi.bEq, eqI, qb_law_3, z0, z1, e1, e2, e3, e4, e5', e6', e7', e8, ob, dfs, e9, e10, f1, f2, f3, md, hm, Mi.mReprEq, if_pos f4, List.getD_cons_zero, List.getD_cons_succ]
    · simp only [Mi.bnd, Mi.mVar, Mi.mC, Mi.mkL, Mi.m2, Mi.m1, Mi.uNeg, Mi.bAdd, Mi.bSub, Mi.bDiv, Mi.bMod, Mi.bPow, Mi.sEq, Mi.bEq, Mi.bCmp, Mi.bLt, Mi.bLe, Mi.bGt, Mi.bGe, Mi.isNon, Mi.mIsN, Mi.mChain, Mi.mAnd, Mi.mOr, Mi.mNot, Mi.mTb, Mi.mTand, Mi.mTor, Mi.mTnot, Mi.mIf, Mi.mNil, Mi.mCons, Mi.mTup, Mi.mLst, Mi.mB, Mi.kOf, Mi.mFld, Mi.mCall, Mi.mCallK, Mi.mMeth, Mi.mMethK, Mi.mDef, Mi.fInt, Mi.fMax, Mi.fMin, Mi.isI, Mi.mIsI, Ms.mIsC, Mi.gNm, Mi.gNil, Mi.gCons, Mi.gTup, Mi.mSeq, Mi.mSkip, Mi.mBrk, Mi.mCont, Mi.mAsg, Mi.mPar, Mi.mExpr, Mi.mRet, Mi.mRetN, Mi.mIfS, Mi.tYes, Mi.wipe, Ms.mDct0, Ms.bAddI, List.map_cons, List.map_nil, List.nil_append, List.cons_append, List.length_cons, List.length_nil, List.replicate_succ, List.replicate_zero, List.getElem?_cons_zero, List.getElem?_cons_succ, List.getElem?_nil, List.set_cons_zero, List.set_cons_succ, Option.map_some, Option.map_none, if_true, if_false, reduceIte, decide_true, decide_false, Nat.reduceAdd, Nat.reduceLeDiff, List.mem_cons, List.mem_singleton, true_or, or_true, true_and, and_true, bne_self_eq_false, Bool.not_true, Bool.not_false, reduceCtorEq, Nat.reduceEqDiff, beq_self_eq_true, Nat.reduceLT, Int.reduceLT, Int.reduceLE, Int.reduceToNat, Int.reduceAdd, Int.reduceSub, Int.reduceMul, Int.reduceNeg, String.reduceEq, String.reduceBEq, List.lookup_cons, List.lookup_nil, Mi.big, Mi.putF, List.length_append, List.append_assoc, ite_true, ite_false, Bool.false_eq_true, and_self, not_true_eq_false, not_false_eq_true, Sum.inr.injEq, Sum.inl.injEq, Mi.look, Mi.put, List.any_cons, List.any_nil, Bool.or_true, Bool.or_false, Bool.true_or, Bool.false_or, List.find?_cons, Option.getD_some, Option.getD_none, Bool.bne_false, Bool.false_bne, Bool.true_bne, Bool.bne_true, Int.reduceEq, Int.reducePow, -Mi.bEq, eqI, qb_law_3, z0, z1, e1, e2, e3, e4, e5', e6', e7', e8, ob, dfs, e9, e10, f1, f2, f3, md, hm, Mi.mReprEq, if_pos f4, List.getD_cons_zero, List.getD_cons_succ]
  · obtain ⟨x, L, f1, f2, f3, f4, f5⟩ := fin W8
    refine ⟨_, _, _, _, G8, some (.int g), some (.int o), some (T w), some (.ref G4.length), some (.bl (decide (r5 = 0))), y11, y12', y13', y14', some x, some x, ?_, f5⟩
    by_cases hm : go % 2 = 0
    · simp only [Mi.bnd, Mi.mVar, Mi.mC, Mi.mkL, Mi.m2, Mi.m1, Mi.uNeg, Mi.bAdd, Mi.bSub, Mi.bDiv, Mi.bMod, Mi.bPow, Mi.sEq, Mi.bEq, Mi.bCmp, Mi.bLt, Mi.bLe, Mi.bGt, Mi.bGe, Mi.isNon, Mi.mIsN, Mi.mChain, Mi.mAnd, Mi.mOr, Mi.mNot, Mi.mTb, Mi.mTand, Mi.mTor, Mi.mTnot, Mi.mIf, Mi.mNil, Mi.mCons, Mi.mTup, Mi.mLst, Mi.mB, Mi.kOf, Mi.mFld, Mi.mCall, Mi.mCallK, Mi.mMeth, Mi.mMethK, Mi.mDef, Mi.fInt, Mi.fMax, Mi.fMin, Mi.isI, Mi.mIsI, Ms.mIsC, Mi.gNm, Mi.gNil, Mi.gCons, Mi.gTup, Mi.mSeq, Mi.mSkip, Mi.mBrk, Mi.mCont, Mi.mAsg, Mi.mPar, Mi.mExpr, Mi.mRet, Mi.mRetN, Mi.mIfS, Mi.tYes, Mi.wipe, Ms.mDct0, Ms.bAddI, List.map_cons, List.map_nil, List.nil_append, List.cons_append, List.length_cons, List.length_nil, List.replicate_succ, List.replicate_zero, List.getElem?_cons_zero, List.getElem?_cons_succ, List.getElem?_nil, List.set_cons_zero, List.set_cons_succ, Option.map_some, Option.map_none, if_true, if_false, reduceIte, decide_true, decide_false, Nat.reduceAdd, Nat.reduceLeDiff, List.mem_cons, List.mem_singleton, true_or, or_true, true_and, and_true, bne_self_eq_false, Bool.not_true, Bool.not_false, reduceCtorEq, Nat.reduceEqDiff, beq_self_eq_true, Nat.reduceLT, Int.reduceLT, Int.reduceLE, Int.reduceToNat, Int.reduceAdd, Int.reduceSub, Int.reduceMul, Int.reduceNeg, String.reduceEq, String.reduceBEq, List.lookup_cons, List.lookup_nil, Mi.big, Mi.putF, List.length_append, List.append_assoc, ite_true, ite_false, Bool.false_eq_true, and_self, not_true_eq_false, not_false_eq_true, Sum.inr.injEq, Sum.inl.injEq, Mi.look, Mi.put, List.any_cons, List.any_nil, Bool.or_true, Bool.or_false, Bool.true_or, Bool.false_or, List.find?_cons, Option.getD_some, Option.getD_none, Bool.bne_false, Bool.false_bne, Bool.true_bne, Bool.bne_true, Int.reduceEq, Int.reducePow, -Mi.bEq, eqI, qb_law_3, z0, z1, e1, e2, e3, e4, e5', e6', e7', e8, hr, f1, f2, f3, md, hm, Mi.mReprEq, if_pos f4, List.getD_cons_zero, List.getD_cons_succ]
    · simp only [Mi.bnd, Mi.mVar, Mi.mC, Mi.mkL, Mi.m2, Mi.m1, Mi.uNeg, Mi.bAdd, Mi.bSub, Mi.bDiv, Mi.bMod, Mi.bPow, Mi.sEq, Mi.bEq, Mi.bCmp, Mi.bLt, Mi.bLe, Mi.bGt, Mi.bGe, Mi.isNon, Mi.mIsN, Mi.mChain, Mi.mAnd, Mi.mOr, Mi.mNot, Mi.mTb, Mi.mTand, Mi.mTor, Mi.mTnot, Mi.mIf, Mi.mNil, Mi.mCons, Mi.mTup, Mi.mLst, Mi.mB, Mi.kOf, Mi.mFld, Mi.mCall, Mi.mCallK, Mi.mMeth, Mi.mMethK, Mi.mDef, Mi.fInt, Mi.fMax, Mi.fMin, Mi.isI, Mi.mIsI, Ms.mIsC, Mi.gNm, Mi.gNil, Mi.gCons, Mi.gTup, Mi.mSeq, Mi.mSkip, Mi.mBrk, Mi.mCont, Mi.mAsg, Mi.mPar, Mi.mExpr, Mi.mRet, Mi.mRetN, Mi.mIfS, Mi.tYes, Mi.wipe, Ms.mDct0, Ms.bAddI, List.map_cons, List.map_nil, List.nil_append, List.cons_append, List.length_cons, List.length_nil, List.replicate_succ, List.replicate_zero, List.getElem?_cons_zero, List.getElem?_cons_succ, List.getElem?_nil, List.set_cons_zero, List.set_cons_succ, Option.map_some, Option.map_none, if_true, if_false, reduceIte, decide_true, decide_false, Nat.reduceAdd, Nat.reduceLeDiff, List.mem_cons, List.mem_singleton, true_or, or_true, true_and, and_true, bne_self_eq_false, Bool.not_true, Bool.not_false, reduceCtorEq, Nat.reduceEqDiff, beq_self_eq_true, Nat.reduceLT, Int.reduceLT, Int.reduceLE, Int.reduceToNat, Int.reduceAdd, Int.reduceSub, Int.reduceMul, Int.reduceNeg, String.reduceEq, String.reduceBEq, List.lookup_cons, List.lookup_nil, Mi.big, Mi.putF, List.length_append, List.append_assoc, ite_true, ite_false, Bool.false_eq_true, and_self, not_true_eq_false, not_false_eq_true, Sum.inr.injEq, Sum.inl.injEq, Mi.look, Mi.put, List.any_cons, List.any_nil, Bool.or_true, Bool.or_false, Bool.true_or, Bool.false_or, List.find?_cons, Option.getD_some, Option.getD_none, Bool.bne_false, Bool.false_bne, Bool.true_bne, Bool.bne_true, Int.reduceEq, Int.reducePow, -Mi.bEq, eqI, qb_law_3, z0, z1, e1, e2, e3, e4, e5', e6', e7', e8, hr, f1, f2, f3, md, hm, Mi.mReprEq, if_pos f4, List.getD_cons_zero, List.getD_cons_succ]
end
end Lw

namespace Lw
open Mi (Dv MO Sto Sl Rs bnd ME MT MA MS MF Fl MG MGs MI)
open PySem (PyData Str)
theorem start_ok {hd hc : Nat} {G : Sto} (d : Dk hd hc G) (s k : Int) (hS : 6 ≤ s ∧ s ≤ 40) (hK : 4 ≤ k ∧ k ≤ 24) : ∃ G1 G2, m_Disk_mk [.ref G.length, .int s, .int k] (G ++ [.ins 0 []]) = some (.non, G1) ∧ m_law_blank [szs s k] G1 = some (.ref G1.length, G2) ∧
    Wh hd hc G.length (G.length + 1) (G.length + 2) (G.length + 3) G1.length (G1.length + 1) s k (List.replicate (Many s k) d_BLANK) [] 0 G2 := by
  have e1 := mk_ok s k G hS hK
  have D := dsk_mk s k G
  have S1 : Sm [] G (G ++ [.ins 0 (dfs s k (G.length + 1) (G.length + 2) (G.length + 3) .non), .lst (List.replicate (Many s k) d_BLANK), .lst [], .dct []]) := sm_app
  have lt := d.lt
  have l1 : (G ++ [.ins 0 (dfs s k (G.length + 1) (G.length + 2) (G.length + 3) .non), .lst (List.replicate (Many s k) d_BLANK), .lst [], .dct []] : Sto).length = G.length + 4 := by rw [List.length_append]; rfl
  generalize eG : (G ++ [.ins 0 (dfs s k (G.length + 1) (G.length + 2) (G.length + 3) .non), .lst (List.replicate (Many s k) d_BLANK), .lst [], .dct []] : Sto) = G1 at e1 D S1 l1
  have e2 := blank_ok s k G1 hS hK
  have S2 : Sm [] G1 (G1 ++ [.dct (itD s k (G1.length + 1) (.fls []) .non), .lst (List.replicate (Many s k) d_BLANK)]) := sm_app
  refine ⟨G1, _, e1, e2, (d.disk S1).disk S2, D.sm S2 (by simp) (by simp) (by simp) (by simp), get0 _ _ _, ?_, ?_, ?_, by omega, fun x hx => ?_, fun p hp => (by simp at hp), by rw [List.length_replicate], hS, hK, Nat.le_refl _⟩
  · rw [List.getElem?_append_right (by omega)]
    simp
  · intro x hx
    simp only [List.mem_cons, or_false, List.not_mem_nil] at hx
    omega
  · intro x hx
    simp only [List.mem_cons, or_false, List.not_mem_nil] at hx
    omega
  · rw [(List.mem_replicate.mp hx).2]
    exact blkd_blank
theorem gos_ok {hd hc h hb hi hs : Nat} {s k : Int} (a0 : Option Dv) : ∀ (zs : List Int) (n hq hn : Nat) (bl : List Dv) (its : List (Nat × Dv)) (G : Sto) (b5 b6 b7 b8 b9 b10 b11 b12 b13 b14 b15 b16 : Option Dv), Wh hd hc h hb hq hn hi hs s k bl its n G → n + 24 * zs.length ≤ 3000 →
    ∃ δ' G', Mi.mLoop (Mi.gNm 5) qb_law_3 (fun _ => True) (zs.map Dv.int) [a0, some (.ref hd), some (szs s k), some (.ref h), some (.ref hi), b5, b6, b7, b8, b9, b10, b11, b12, b13, b14, b15, b16] G = some (.nx, δ', G')
  | [], n, hq, hn, bl, its, G, b5, b6, b7, b8, b9, b10, b11, b12, b13, b14, b15, b16, W, _ => ⟨_, G, by rw [List.map_nil, Mi.mLoop, if_pos trivial]⟩
  | z :: zs, n, hq, hn, bl, its, G, b5, b6, b7, b8, b9, b10, b11, b12, b13, b14, b15, b16, W, hl => by
    rw [List.length_cons] at hl
    obtain ⟨bl', its', hq', hn', G1, c6, c7, c8, c9, c10, c11, c12, c13, c14, c15, c16, e1, W1⟩ := go_body W (by omega) a0 z b6 b7 b8 b9 b10 b11 b12 b13 b14 b15 b16
    obtain ⟨δ', G2, e2⟩ := gos_ok a0 zs (n + 24) hq' hn' bl' its' G1 (some (.int z)) c6 c7 c8 c9 c10 c11 c12 c13 c14 c15 c16 W1 (by omega)
    refine ⟨δ', G2, ?_⟩
    rw [List.map_cons, Mi.mLoop, if_pos trivial]
    simp only [Mi.gNm, List.set_cons_succ, List.set_cons_zero]
    rw [e1]
    exact e2
theorem law_runs : ∀ ns : List Int, ns.length ≤ 63 → ∃ G', m_law [.scr ns] [] = some (.bl true, G') := by
  intro ns hns
  obtain ⟨hd, hc, G0, e0, d0⟩ := deck_ok ns hns
  obtain ⟨s, k, G1, e1, hS, hK, c1⟩ := drawn_sizes d0
  obtain ⟨G2, G3, e2, e3, W3⟩ := start_ok c1.d s k hS hK
  obtain ⟨δ', G4, e4⟩ := gos_ok (some (.scr ns)) [0, 1, 2, 3, 4, 5, 6, 7, 8, 9] 0 _ _ _ _ G3 none none none none none none none none none none none none W3 (by decide)
  have e5 : qf_law_3 [some (.scr ns), some (.ref hd), some (szs s k), some (.ref G1.length), some (.ref G2.length), none, none, none, none, none, none, none, none, none, none, none, none] G3 = some (.nx, δ', G4) := e4
  have z0 : ∀ G, Mi.bSubs (szs s k) (.int 0) G = some (.int s, G) := fun G => rfl
  have z1 : ∀ G, Mi.bSubs (szs s k) (.int 1) G = some (.int k, G) := fun G => rfl
  exact ⟨G4, by simp only [Mi.bnd, Mi.mVar, Mi.mC, Mi.mkL, Mi.m2, Mi.m1, Mi.uNeg, Mi.bAdd, Mi.bSub, Mi.bDiv, Mi.bMod, Mi.bPow, Mi.sEq, Mi.bEq, Mi.bCmp, Mi.bLt, Mi.bLe, Mi.bGt, Mi.bGe, Mi.isNon, Mi.mIsN, Mi.mChain, Mi.mAnd, Mi.mOr, Mi.mNot, Mi.mTb, Mi.mTand, Mi.mTor, Mi.mTnot, Mi.mIf, Mi.mNil, Mi.mCons, Mi.mTup, Mi.mLst, Mi.mB, Mi.kOf, Mi.mFld, Mi.mCall, Mi.mCallK, Mi.mMeth, Mi.mMethK, Mi.mDef, Mi.fInt, Mi.fMax, Mi.fMin, Mi.isI, Mi.mIsI, Ms.mIsC, Mi.gNm, Mi.gNil, Mi.gCons, Mi.gTup, Mi.mSeq, Mi.mSkip, Mi.mBrk, Mi.mCont, Mi.mAsg, Mi.mPar, Mi.mExpr, Mi.mRet, Mi.mRetN, Mi.mIfS, Mi.tYes, Mi.wipe, Ms.mDct0, Ms.bAddI, List.map_cons, List.map_nil, List.nil_append, List.cons_append, List.length_cons, List.length_nil, List.replicate_succ, List.replicate_zero, List.getElem?_cons_zero, List.getElem?_cons_succ, List.getElem?_nil, List.set_cons_zero, List.set_cons_succ, Option.map_some, Option.map_none, if_true, if_false, reduceIte, decide_true, decide_false, Nat.reduceAdd, Nat.reduceLeDiff, List.mem_cons, List.mem_singleton, true_or, or_true, true_and, and_true, bne_self_eq_false, Bool.not_true, Bool.not_false, reduceCtorEq, Nat.reduceEqDiff, beq_self_eq_true, Nat.reduceLT, Int.reduceLT, Int.reduceLE, Int.reduceToNat, Int.reduceAdd, Int.reduceSub, Int.reduceMul, Int.reduceNeg, String.reduceEq, String.reduceBEq, List.lookup_cons, List.lookup_nil, Mi.big, Mi.putF, List.length_append, List.append_assoc, ite_true, ite_false, Bool.false_eq_true, and_self, not_true_eq_false, not_false_eq_true, Sum.inr.injEq, Sum.inl.injEq, Mi.look, Mi.put, List.any_cons, List.any_nil, Bool.or_true, Bool.or_false, Bool.true_or, Bool.false_or, List.find?_cons, Option.getD_some, Option.getD_none, Bool.bne_false, Bool.false_bne, Bool.true_bne, Bool.bne_true, Int.reduceEq, Int.reducePow, m_law, b_law, e0, e1, z0, z1, Mi.mMake, e2, e3, e5]⟩
end Lw

open PySem PySem.W PyProof.Rows
set_option maxRecDepth 100000 in
set_option maxHeartbeats 0 in
theorem PySem.Challenge.cw_trailkeep_k20_any_words_as_a_summary_holds : PySem.Challenge.rw_trailkeep_k20_any_words_as_a_summary.Holds := by
  w_on
  o_law
  k_head
  case hw => w_witness2
  k_fill
  refine Lw.walk (l := PySem.Challenge.rw_trailkeep_k20_any_words_as_a_summary) rfl rfl (fun w h Y => PySem.W.kIn_of Y) ?F Lw.law_runs
  case F =>
    intro w mg fa h kin hns hmg L
    refine' Lw.all_mk rfl kin hns hmg L ?aC_Disk ?zb_all ?zb_any ?zb_bool ?zb_enumerate ?zb_int ?zb_isinstance ?zb_len ?zb_list ?zb_max ?zb_min ?zb_range ?zb_repr ?zb_sorted ?zb_tuple ?zb_zip ?zc_CONTENT ?zc_DATA ?zc_FIRST_KEY ?zc_LEAST_BLOCKS ?zc_LEAST_SEGMENTS ?zc_MOST_BLOCKS ?zc_MOST_KEYS ?zc_MOST_SEGMENTS ?zc_ROOT_WORDS ?zc_SPARE_SEGMENTS ?zc_SUMMARY ?zc_WORDS ?pg_Disk ?hd_Disk ?po_Disk ?sa_Disk ?na_Disk_blocks ?na_Disk_k ?na_Disk_left ?na_Disk_n ?na_Disk_newest ?na_Disk_queue ?na_Disk_r ?na_Disk_s ?iha_Disk ?ihn_Disk ?iht_Disk ?ihm_Disk ?a0 ?l0 ?c0 ?k0 ?a1 ?l1 ?c1 ?k1 ?a2 ?l2 ?c2 ?k2 ?a3 ?l3 ?c3 ?k3 ?a4 ?l4 ?c4 ?k4 ?a5 ?i5 ?l5 ?c5 ?k5 ?mk_Disk ?kc_Disk ?a6 ?i6 ?l6 ?c6 ?k6 ?a7 ?i7 ?l7 ?c7 ?k7 ?a8 ?i8 ?l8 ?c8 ?k8 ?a9 ?l9 ?c9 ?k9 ?a10 ?l10 ?c10 ?k10 ?a11 ?l11 ?c11 ?k11 ?a12 ?i12 ?l12 ?c12 ?k12 ?a13 ?l13 ?c13 ?k13 ?a14 ?l14 ?c14 ?k14 ?a15 ?l15 ?c15 ?k15 ?a16 ?l16 ?c16 ?k16 ?a17 ?l17 ?c17 ?k17 ?a18 ?l18 ?c18 ?k18 ?a19 ?l19 ?c19 ?k19 ?a20 ?l20 ?c20 ?k20 ?a21 ?l21 ?c21 ?k21 ?a22 ?l22 ?c22 ?k22 ?a23 ?l23 ?c23 ?k23 ?a24 ?l24 ?c24 ?k24 ?a25 ?l25 ?c25 ?k25 ?a26 ?l26 ?c26 ?k26 ?a27 ?l27 ?c27 ?k27 ?a28 ?l28 ?c28 ?k28 ?a29 ?l29 ?c29 ?k29 ?a30 ?l30 ?c30 ?k30 ?a31 ?i31 ?l31 ?c31 ?k31 ?a32 ?l32 ?c32 ?k32 ?a33 ?l33 ?c33 ?k33 ?a34 ?l34 ?c34 ?k34 ?a35 ?l35 ?c35 ?k35 ?a36 ?l36 ?c36 ?k36 ?a37 ?l37 ?c37 ?k37 ?a38 ?l38 ?c38 ?k38 ?a39 ?l39 ?c39 ?k39 ?a40 ?l40 ?c40 ?k40 ?a41 ?l41 ?c41 ?k41
    (case aC_Disk => k_is); (case zb_all => k_is); (case zb_any => k_is); (case zb_bool => k_is); (case zb_enumerate => k_is); (case zb_int => k_is)
    (case zb_isinstance => k_is); (case zb_len => k_is); (case zb_list => k_is); (case zb_max => k_is); (case zb_min => k_is); (case zb_range => k_is)
    (case zb_repr => k_is); (case zb_sorted => k_is); (case zb_tuple => k_is); (case zb_zip => k_is); (case zc_CONTENT => k_is); (case zc_DATA => k_is)
    (case zc_FIRST_KEY => k_is); (case zc_LEAST_BLOCKS => k_is); (case zc_LEAST_SEGMENTS => k_is); (case zc_MOST_BLOCKS => k_is); (case zc_MOST_KEYS => k_is); (case zc_MOST_SEGMENTS => k_is)
    (case zc_ROOT_WORDS => k_is); (case zc_SPARE_SEGMENTS => k_is); (case zc_SUMMARY => k_is); (case zc_WORDS => k_is); (case pg_Disk => k_is); (case hd_Disk => k_is)
    (case po_Disk => k_is); (case sa_Disk => k_is); (case na_Disk_blocks => k_is); (case na_Disk_k => k_is); (case na_Disk_left => k_is); (case na_Disk_n => k_is)
    (case na_Disk_newest => k_is); (case na_Disk_queue => k_is); (case na_Disk_r => k_is); (case na_Disk_s => k_is); (case iha_Disk => k_is); (case ihn_Disk => k_is)
    (case iht_Disk => k_is); (case ihm_Disk => k_is); (case a0 => k_is); (case l0 => k_is); (case c0 => k_is); (case k0 => k_is)
    (case a1 => k_is); (case l1 => k_is); (case c1 => k_is); (case k1 => k_is); (case a2 => k_is); (case l2 => k_is)
    (case c2 => k_is); (case k2 => k_is); (case a3 => k_is); (case l3 => k_is); (case c3 => k_is); (case k3 => k_is)
    (case a4 => k_is); (case l4 => k_is); (case c4 => k_is); (case k4 => k_is); (case a5 => k_is); (case i5 => k_is)
    (case l5 => k_is); (case c5 => k_is); (case k5 => k_is); (case mk_Disk => k_is); (case kc_Disk => k_is); (case a6 => k_is)
    (case i6 => k_is); (case l6 => k_is); (case c6 => k_is); (case k6 => k_is); (case a7 => k_is); (case i7 => k_is)
    (case l7 => k_is); (case c7 => k_is); (case k7 => k_is); (case a8 => k_is); (case i8 => k_is); (case l8 => k_is)
    (case c8 => k_is); (case k8 => k_is); (case a9 => k_is); (case l9 => k_is); (case c9 => k_is); (case k9 => k_is)
    (case a10 => k_is); (case l10 => k_is); (case c10 => k_is); (case k10 => k_is); (case a11 => k_is); (case l11 => k_is)
    (case c11 => k_is); (case k11 => k_is); (case a12 => k_is); (case i12 => k_is); (case l12 => k_is); (case c12 => k_is)
    (case k12 => k_is); (case a13 => k_is); (case l13 => k_is); (case c13 => k_is); (case k13 => k_is); (case a14 => k_is)
    (case l14 => k_is); (case c14 => k_is); (case k14 => k_is); (case a15 => k_is); (case l15 => k_is); (case c15 => k_is)
    (case k15 => k_is); (case a16 => k_is); (case l16 => k_is); (case c16 => k_is); (case k16 => k_is); (case a17 => k_is)
    (case l17 => k_is); (case c17 => k_is); (case k17 => k_is); (case a18 => k_is); (case l18 => k_is); (case c18 => k_is)
    (case k18 => k_is); (case a19 => k_is); (case l19 => k_is); (case c19 => k_is); (case k19 => k_is); (case a20 => k_is)
    (case l20 => k_is); (case c20 => k_is); (case k20 => k_is); (case a21 => k_is); (case l21 => k_is); (case c21 => k_is)
    (case k21 => k_is); (case a22 => k_is); (case l22 => k_is); (case c22 => k_is); (case k22 => k_is); (case a23 => k_is)
    (case l23 => k_is); (case c23 => k_is); (case k23 => k_is); (case a24 => k_is); (case l24 => k_is); (case c24 => k_is)
    (case k24 => k_is); (case a25 => k_is); (case l25 => k_is); (case c25 => k_is); (case k25 => k_is); (case a26 => k_is)
    (case l26 => k_is); (case c26 => k_is); (case k26 => k_is); (case a27 => k_is); (case l27 => k_is); (case c27 => k_is)
    (case k27 => k_is); (case a28 => k_is); (case l28 => k_is); (case c28 => k_is); (case k28 => k_is); (case a29 => k_is)
    (case l29 => k_is); (case c29 => k_is); (case k29 => k_is); (case a30 => k_is); (case l30 => k_is); (case c30 => k_is)
    (case k30 => k_is); (case a31 => k_is); (case i31 => k_is); (case l31 => k_is); (case c31 => k_is); (case k31 => k_is)
    (case a32 => k_is); (case l32 => k_is); (case c32 => k_is); (case k32 => k_is); (case a33 => k_is); (case l33 => k_is)
    (case c33 => k_is); (case k33 => k_is); (case a34 => k_is); (case l34 => k_is); (case c34 => k_is); (case k34 => k_is)
    (case a35 => k_is); (case l35 => k_is); (case c35 => k_is); (case k35 => k_is); (case a36 => k_is); (case l36 => k_is)
    (case c36 => k_is); (case k36 => k_is); (case a37 => k_is); (case l37 => k_is); (case c37 => k_is); (case k37 => k_is)
    (case a38 => k_is); (case l38 => k_is); (case c38 => k_is); (case k38 => k_is); (case a39 => k_is); (case l39 => k_is)
    (case c39 => k_is); (case k39 => k_is); (case a40 => k_is); (case l40 => k_is); (case c40 => k_is); (case k40 => k_is)
    (case a41 => k_is); (case l41 => k_is); (case c41 => k_is); (case k41 => k_is)

