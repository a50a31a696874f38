import PyProof.Rows.All
import PySem.Str
import PySem.PyData
import Wide.All
import OpenK.AllK
import Wide.FinOn
import HandS.ForMost
import HandS.TupMul
import HandS.TupAny
import HandS.Conv
import HandS.Style
import HandS.IsInst
import HandS.Zip
import HandS.Small
import HandS.Lambda
import PyProof.ReprRoads
import PyProof.StrLawsRepr
import PyProof.CallFns
import HandS.Codes
import Wide.Loose
import HandS.EndTab
import KE.GoesZip
import KE.GoesMore
import KE.GoesEnum
import HandS.TupLe
import KE.DataMinMax
import HandS.NoneIn
import HandS.SortInts
import HandS.More
import HandS.Exc
import HandS.ExcOwn
import HandS.ExcSuper
import HandS.ExcInit
import HandS.TryOnly
import PyProof.InstEq
import HandS.DictComp
import HandS.SetFor
import HandS.Strs
import KE.SortCalls
import HandS.WordsDict
import HandS.Flt
import HandS.SortRule
import HandS.TryMany
import HandS.ExcField
import KE.KTupSum
import PyProof.Rows.IntBool
import KE.KExcIs
import PySem.Challenge.RW_trailkeep_k14_fuses
set_option Elab.async false
set_option linter.all false
set_option maxRecDepth 100000
set_option maxHeartbeats 4200000
/-! PyM: a mirror of the Python that the program uses: values, a store of mutable objects by handles, and one total
function for each construct (none: not covered, or an error). No machine in sight. -/
namespace Mi
open PySem

inductive Dv where
  | non | bl (b : Bool) | int (i : Int) | str (x : String) | tup (xs : List Dv) | fls (xs : List Dv) | scr (ns : List Int) | ref (h : Nat) | fn (f c : Nat) (q : Str) | exc (a dd h : Nat) | exn (a : Nat)
abbrev Key := Sum Int String
inductive MO where
  | lst (xs : List Dv) | dct (kvs : List (Key × Dv)) | ins (c : Nat) (fs : List (String × Dv)) | fdc (kvs : List (Key × Dv)) | xd (fs : List (String × Dv))
abbrev Sto := List MO
abbrev Sl := List (Option Dv)
abbrev Rs (α : Type) := Option (α × Sto)
/-- one after the other -/
def bnd {α β : Type} (r : Rs α) (f : α → Sto → Option β) : Option β := match r with
  | none => none
  | some (a, g) => f a g
theorem bnd_some {α β : Type} (a : α) (g : Sto) (f : α → Sto → Option β) : bnd (some (a, g)) f = f a g := rfl
theorem bnd_none {α β : Type} (f : α → Sto → Option β) : bnd (none : Rs α) f = none := rfl
theorem bnd_eq {α β : Type} {r : Rs α} {f : α → Sto → Option β} {b : β} (h : bnd r f = some b) : ∃ a g, r = some (a, g) ∧ f a g = some b := by
  cases r with
  | none => cases h
  | some p => exact ⟨p.1, p.2, rfl, h⟩
abbrev ME := Sl → Sto → Rs Dv
abbrev MT := Sl → Sto → Rs Bool
abbrev MA := Sl → Sto → Rs (List Dv)
inductive Fl where
  | nx | rt (d : Dv) | bk | ct
abbrev MS := Sl → Sto → Option (Fl × Sl × Sto)
abbrev MF := List Dv → Sto → Rs Dv

/-! ### names, constants -/
def mVar (i : Nat) : ME := fun δ G => match δ[i]? with
  | some (some d) => some (d, G)
  | _ => none
def mC (d : Dv) : ME := fun _ G => some (d, G)

/-! ### sequences -/
def big : Nat := 16777216
/-- a new list: frozen, or with a handle -/
def mkL (m : Bool) (xs : List Dv) (G : Sto) : Dv × Sto := if m then (.ref G.length, G ++ [.lst xs]) else (.fls xs, G)
/-- a list's items -/
def lstOf (G : Sto) : Dv → Option (List Dv)
  | .fls xs => some xs
  | .scr ns => some (ns.map .int)
  | .ref h => match G[h]? with
    | some (.lst xs) => some xs
    | _ => none
  | _ => none
def seqOf (G : Sto) : Dv → Option (List Dv)
  | .tup xs => some xs
  | d => lstOf G d
def ixN (n : Nat) (j : Int) : Option Nat := if 0 ≤ j then (if j < n then some j.toNat else none) else if -(n : Int) ≤ j then some (j + n).toNat else none
def atI {α : Type} (xs : List α) (k : Int) : Option α := (ixN xs.length k).bind fun j => xs[j]?
def sIx (n dflt : Nat) : Option Int → Nat
  | none => dflt
  | some j => if j < 0 then (j + (n : Int)).toNat else min j.toNat n
def cut {α : Type} (xs : List α) (lo hi : Option Int) : List α := (xs.drop (sIx xs.length 0 lo)).take (sIx xs.length xs.length hi - sIx xs.length 0 lo)

/-! ### operators by values -/
def okMul (i j : Int) : Bool := (decide (-(2 ^ 64) < i) && decide (i < 2 ^ 64)) || (decide (-(2 ^ 64) < j) && decide (j < 2 ^ 64))
abbrev B2 := Dv → Dv → Sto → Rs Dv
def bAdd (m : Bool) : B2
  | .int i, .int j, G => some (.int (i + j), G)
  | .tup a, .tup b, G => if a.length + b.length ≤ big then some (.tup (a ++ b), G) else none
  | .fls a, .fls b, G => if a.length + b.length ≤ big then some (mkL m (a ++ b) G) else none
  | .ref h, .fls b, G => match G[h]? with
    | some (.lst a) => if a.length + b.length ≤ big then some (mkL m (a ++ b) G) else none
    | _ => none
  | _, _, _ => none
def bSub : B2
  | .int i, .int j, G => some (.int (i - j), G)
  | _, _, _ => none
def bMul (m : Bool) : B2
  | .int i, .int j, G => if okMul i j then some (.int (i * j), G) else none
  | .tup a, .int k, G => if a ≠ [] ∧ 2 ≤ k ∧ k ≤ 1000 ∧ a.length ≤ 1000 then some (.tup (List.replicate k.toNat a).flatten, G) else none
  | .fls a, .int k, G => if -(2 ^ 63) ≤ k ∧ k < 2 ^ 63 ∧ a.length * k.toNat ≤ big then some (mkL m (List.replicate k.toNat a).flatten G) else none
  | _, _, _ => none
def bDiv : B2
  | .int i, .int j, G => if 0 < j ∧ j < 1073741824 then some (.int (i / j), G) else none
  | _, _, _ => none
def bMod : B2
  | .int i, .int j, G => if 0 < j then some (.int (i % j), G) else none
  | _, _, _ => none
def bPow : B2
  | .int i, .int j, G => if 0 ≤ j ∧ j ≤ 1000000 ∧ i.natAbs < 2 ^ 64 then some (.int (i ^ j.toNat), G) else none
  | _, _, _ => none
def m2 (f : B2) (a b : ME) : ME := fun δ G => bnd (a δ G) fun x G1 => bnd (b δ G1) fun y G2 => f x y G2
def m1 (f : Dv → Sto → Rs Dv) (a : ME) : ME := fun δ G => bnd (a δ G) fun x G1 => f x G1
def uNeg : Dv → Sto → Rs Dv
  | .int i, G => some (.int (-i), G)
  | _, _ => none

/-! ### data, for == and repr -/
mutual
/-- pure data, lists by their handles -/
def py (G : Sto) : Dv → Option PyData
  | .non => some .none
  | .bl b => some (.bool b)
  | .int i => some (.int i)
  | .str x => some (.str (Str.ofString x))
  | .tup xs => (pys G xs).map .tuple
  | .fls xs => (pys G xs).map .list
  | .scr ns => some (.list (ns.map .int))
  | .ref _ => none
  | .fn _ _ _ => none
  | .exc _ _ _ => none
  | .exn _ => none
def pys (G : Sto) : List Dv → Option (List PyData)
  | [] => some []
  | x :: xs => match py G x, pys G xs with
    | some c, some cs => some (c :: cs)
    | _, _ => none
end
/-- at the top a list may stand by its handle -/
def pyT (G : Sto) : Dv → Option PyData
  | .ref h => match G[h]? with
    | some (.lst xs) => (pys G xs).map .list
    | _ => none
  | d => py G d
mutual
/-- a bound of the written text, small numbers alone -/
def wt : PyData → Option Nat
  | .none => some 5
  | .bool _ => some 5
  | .int i => if i.natAbs < 10 ^ 60 then some 62 else none
  | .str s => if s.cps.toList.all (fun c => decide (c < 4294967296)) then some (10 * s.cps.size + 2) else none
  | .list xs => (wts xs).map (· + 3)
  | .tuple xs => (wts xs).map (· + 3)
  | .dict _ => none
def wts : List PyData → Option Nat
  | [] => some 0
  | x :: xs => match wt x, wts xs with
    | some a, some b => some (a + b + 2)
    | _, _ => none
end
mutual
def dep : PyData → Nat
  | .list xs => deps xs + 1
  | .tuple xs => deps xs + 1
  | _ => 0
def deps : List PyData → Nat
  | [] => 0
  | x :: xs => max (dep x) (deps xs)
end
def okR (d : PyData) : Prop := ∃ n, wt d = some n ∧ n ≤ 16000000 ∧ dep d ≤ 40
open Classical in
/-- repr(a) == repr(b): known where both are the same data -/
noncomputable def mReprEq (neg : Bool) (a b : ME) : ME := fun δ G => bnd (a δ G) fun x G1 => bnd (b δ G1) fun y G2 =>
  if ∃ d, pyT G1 x = some d ∧ pyT G2 y = some d ∧ okR d then some (.bl (!neg), G2) else none
/-- scalars alone -/
def sEq : Dv → Dv → Option Bool
  | .int i, .int j => some (decide (i = j))
  | .str x, .str y => some (decide (x = y))
  | .non, .non => some true
  | .non, .int _ => some false
  | .int _, .non => some false
  | .non, .str _ => some false
  | .str _, .non => some false
  | .int _, .str _ => some false
  | .str _, .int _ => some false
  | .bl a, .bl b => some (a == b)
  | _, _ => none
/-- the ints of such a list -/
def intsOf : List Dv → Option (List Int)
  | [] => some []
  | .int i :: r => (intsOf r).map (i :: ·)
  | _ => none
/-- lists, tuples of whole numbers -/
def qEq (G : Sto) : Dv → Dv → Option Bool
  | .tup a, .tup b => match intsOf a, intsOf b with
    | some x, some y => some (decide (x = y))
    | _, _ => none
  | x, y => match lstOf G x, lstOf G y with
    | some a, some b => match intsOf a, intsOf b with
      | some x, some y => some (decide (x = y))
      | _, _ => none
    | _, _ => none
def bEq (neg : Bool) : B2 := fun x y G => match sEq x y with
  | some r => some (.bl (r != neg), G)
  | none => match qEq G x y with
    | some r => some (.bl (r != neg), G)
    | none => none
def bCmp (p : Int → Int → Bool) : B2
  | .int i, .int j, G => some (.bl (p i j), G)
  | _, _, _ => none
def bLt : B2 := bCmp fun i j => decide (i < j)
def bLe : B2 := bCmp fun i j => decide (i ≤ j)
def bGt : B2 := bCmp fun i j => decide (j < i)
def bGe : B2 := bCmp fun i j => decide (j ≤ i)
def isNon : Dv → Bool
  | .non => true
  | _ => false
def mIsN (neg : Bool) (a : ME) : ME := m1 (fun x G => some (.bl (isNon x != neg), G)) a
/-- a op b op' c -/
def mChain (f g : B2) (a b c : ME) : ME := fun δ G => bnd (a δ G) fun x G1 => bnd (b δ G1) fun y G2 => bnd (f x y G2) fun z G3 => match z with
  | .bl true => bnd (c δ G3) fun w G4 => g y w G4
  | .bl false => some (.bl false, G3)
  | _ => none
/-- and, or, not of truth values -/
def mAnd (a b : ME) : ME := fun δ G => bnd (a δ G) fun x G1 => match x with
  | .bl true => b δ G1
  | .bl false => some (.bl false, G1)
  | _ => none
def mOr (a b : ME) : ME := fun δ G => bnd (a δ G) fun x G1 => match x with
  | .bl true => some (.bl true, G1)
  | .bl false => b δ G1
  | _ => none
def mNot (a : ME) : ME := m1 (fun x G => match x with
  | .bl b => some (.bl (!b), G)
  | _ => none) a

/-! ### tests -/
/-- truth -/
def tru (G : Sto) : Dv → Option Bool
  | .non => some false
  | .bl b => some b
  | .int i => some (i != 0)
  | .tup xs => some !xs.isEmpty
  | .fls xs => some !xs.isEmpty
  | .ref h => match G[h]? with
    | some (.lst xs) => some !xs.isEmpty
    | some (.dct kvs) => some !kvs.isEmpty
    | _ => none
  | _ => none
def mTru (a : ME) : MT := fun δ G => bnd (a δ G) fun x G1 => (tru G1 x).map fun b => (b, G1)
/-- a truth value as a test -/
def mTb (a : ME) : MT := fun δ G => bnd (a δ G) fun x G1 => match x with
  | .bl b => some (b, G1)
  | _ => none
def mTand (a b : MT) : MT := fun δ G => bnd (a δ G) fun c G1 => if c then b δ G1 else some (false, G1)
def mTor (a b : MT) : MT := fun δ G => bnd (a δ G) fun c G1 => if c then some (true, G1) else b δ G1
def mTnot (a : MT) : MT := fun δ G => bnd (a δ G) fun c G1 => some (!c, G1)
def mIf (t : MT) (a b : ME) : ME := fun δ G => bnd (t δ G) fun c G1 => if c then a δ G1 else b δ G1

/-! ### arguments, displays -/
def mNil : MA := fun _ G => some ([], G)
def mCons (a : ME) (r : MA) : MA := fun δ G => bnd (a δ G) fun x G1 => bnd (r δ G1) fun xs G2 => some (x :: xs, G2)
def mTup (a : MA) : ME := fun δ G => bnd (a δ G) fun xs G1 => if xs.length ≤ big then some (.tup xs, G1) else none
def mLst (m : Bool) (a : MA) : ME := fun δ G => bnd (a δ G) fun xs G1 => if xs.length ≤ big then some (mkL m xs G1) else none
/-- a built-in of values -/
def mB (f : List Dv → Sto → Rs Dv) (a : MA) : ME := fun δ G => bnd (a δ G) f

/-! ### subscripts, slices -/
def kOf : Dv → Option Key
  | .int i => some (.inl i)
  | .str x => some (.inr x)
  | _ => none
def look {κ : Type} [DecidableEq κ] (kvs : List (κ × Dv)) (k : κ) : Option Dv := (kvs.find? fun kv => decide (kv.1 = k)).map (·.2)
def put {κ : Type} [DecidableEq κ] (kvs : List (κ × Dv)) (k : κ) (v : Dv) : List (κ × Dv) :=
  if (kvs.any fun kv => decide (kv.1 = k)) = true then kvs.map fun kv => if kv.1 = k then (kv.1, v) else kv else kvs ++ [(k, v)]
def drp {κ : Type} [DecidableEq κ] (kvs : List (κ × Dv)) (k : κ) : List (κ × Dv) := kvs.filter fun kv => decide (kv.1 ≠ k)
/-- xs[i] of a list or a tuple -/
def bIx : B2 := fun x y G => match seqOf G x, y with
  | some xs, .int i => (atI xs i).map fun d => (d, G)
  | _, _ => none
/-- d[k] of a dict -/
def bGet : B2 := fun x y G => match x with
  | .ref h => match G[h]? with
    | some (.dct kvs) => match kOf y with
      | some k => (look kvs k).map fun d => (d, G)
      | none => none
    | some (.fdc kvs) => match kOf y with
      | some k => (look kvs k).map fun d => (d, G)
      | none => none
    | _ => none
  | _ => none
/-- x[i] of any of these -/
def bSubs : B2 := fun x y G => match bGet x y G with
  | some r => some r
  | none => bIx x y G
def mO (a : Option ME) : Sl → Sto → Rs (Option Int) := fun δ G => match a with
  | none => some (none, G)
  | some e => bnd (e δ G) fun x G1 => match x with
    | .int i => some (some i, G1)
    | _ => none
def mSlice (m : Bool) (a : ME) (lo hi : Option ME) : ME := fun δ G => bnd (a δ G) fun x G1 => bnd (mO lo δ G1) fun l G2 => bnd (mO hi δ G2) fun h G3 => match x with
  | .tup xs => some (.tup (cut xs l h), G3)
  | _ => match lstOf G3 x with
    | some xs => some (mkL m (cut xs l h) G3)
    | none => none
def mRev (m : Bool) (a : ME) : ME := m1 (fun x G => match lstOf G x with
  | some xs => some (mkL m xs.reverse G)
  | none => none) a

/-! ### objects -/
def flook (fs : List (String × Dv)) (f : String) : Option Dv := fs.lookup f
def putF (f : String) (v : Dv) : List (String × Dv) → List (String × Dv)
  | [] => [(f, v)]
  | (g, y) :: r => if g = f then (g, v) :: r else (g, y) :: putF f v r
/-- e.f, fo: the classes that have no attribute of this name -/
def mFld (cs : List Nat) (a : ME) (f : String) : ME := m1 (fun x G => match x with
  | .ref h => match G[h]? with
    | some (.ins c fs) => if c ∈ cs then (fs.lookup f).map fun d => (d, G) else none
    | _ => none
  | _ => none) a

/-! ### calls -/
def mCall (f : MF) (a : MA) : ME := fun δ G => bnd (a δ G) f
/-- f(.., k = v ..): ix puts the values in the parameters' order -/
def mCallK (f : MF) (ix : List Nat) (a kw : MA) : ME := fun δ G => bnd (a δ G) fun xs G1 => bnd (kw δ G1) fun ys G2 => f (ix.map fun i => (xs ++ ys).getD i .non) G2
/-- o.m(..): of the class c -/
def mMeth (c : Nat) (m : String) (f : MF) (o : ME) (a : MA) : ME := fun δ G => bnd (o δ G) fun x G1 => match x with
  | .ref h => match G1[h]? with
    | some (.ins c' fs) => if c' = c ∧ fs.lookup m = none then bnd (a δ G1) fun xs G2 => f (x :: xs) G2 else none
    | _ => none
  | _ => none
def mMethK (c : Nat) (m : String) (f : MF) (ix : List Nat) (o : ME) (a kw : MA) : ME := fun δ G => bnd (o δ G) fun x G1 => match x with
  | .ref h => match G1[h]? with
    | some (.ins c' fs) => if c' = c ∧ fs.lookup m = none then bnd (a δ G1) fun xs G2 => bnd (kw δ G2) fun ys G3 => f (ix.map fun i => (x :: xs ++ ys).getD i .non) G3 else none
    | _ => none
  | _ => none
/-- C(..) -/
def mMake (c : Nat) (f : MF) (a : MA) : ME := fun δ G => bnd (a δ G) fun xs G1 => bnd (f (.ref G1.length :: xs) (G1 ++ [.ins c []])) fun r G2 => match r with
  | .non => some (.ref G1.length, G2)
  | _ => none
/-- a def by its body: n parameters, l locals beside -/
def mDef (n l : Nat) (b : MS) : MF := fun xs G => if xs.length = n then match b (xs.map some ++ List.replicate l none) G with
  | some (.nx, _, G') => some (.non, G')
  | some (.rt d, _, G') => some (d, G')
  | _ => none else none

/-! ### built-ins -/
def fLen : List Dv → Sto → Rs Dv
  | [.tup xs], G => some (.int xs.length, G)
  | [x], G => match lstOf G x with
    | some xs => some (.int xs.length, G)
    | none => none
  | _, _ => none
def fInt : List Dv → Sto → Rs Dv
  | [.int i], G => some (.int i, G)
  | _, _ => none
def fMax : List Dv → Sto → Rs Dv
  | [.int i, .int j], G => some (.int (if j > i then j else i), G)
  | _, _ => none
def fMin : List Dv → Sto → Rs Dv
  | [.int i, .int j], G => some (.int (if j < i then j else i), G)
  | _, _ => none
def fTuple : List Dv → Sto → Rs Dv
  | [.tup xs], G => some (.tup xs, G)
  | [x], G => (lstOf G x).map fun xs => (.tup xs, G)
  | _, _ => none
def fList (m : Bool) : List Dv → Sto → Rs Dv
  | [x], G => (seqOf G x).map fun xs => mkL m xs G
  | _, _ => none
/-- list(range(a, b)) -/
def rng (a b : Int) : List Dv := (List.range (b - a).toNat).map fun i => .int (a + (i : Nat))
def bListR (m : Bool) : B2
  | .int a, .int b, G => if -(2 ^ 62) ≤ a ∧ a < 2 ^ 62 ∧ -(2 ^ 62) ≤ b ∧ b < 2 ^ 62 ∧ (b - a).toNat ≤ 2 ^ 24 then some (mkL m (rng a b) G) else none
  | _, _, _ => none
def uListR (m : Bool) : Dv → Sto → Rs Dv
  | .int b, G => if -(2 ^ 62) ≤ b ∧ b < 2 ^ 62 ∧ b.toNat ≤ 2 ^ 24 then some (mkL m (rng 0 b) G) else none
  | _, _ => none
/-- all, any of a list of truth values -/
def bools : List Dv → Option (List Bool)
  | [] => some []
  | .bl b :: r => (bools r).map (b :: ·)
  | _ => none
def fAll : List Dv → Sto → Rs Dv
  | [x], G => match lstOf G x with
    | some xs => (bools xs).map fun bs => (.bl (bs.all id), G)
    | none => none
  | _, _ => none
def fAny : List Dv → Sto → Rs Dv
  | [x], G => match lstOf G x with
    | some xs => (bools xs).map fun bs => (.bl (bs.any id), G)
    | none => none
  | _, _ => none
/-- isinstance(x, T) for int, bool, tuple, str, list; an own class by its number -/
inductive Ty where
  | int | bool | tuple | str | list | cls (c : Nat)
  deriving DecidableEq
def isI (t : Ty) (G : Sto) : Dv → Option Bool
  | .non => some false
  | .bl _ => some (t == .int || t == .bool)
  | .int _ => some (t == .int)
  | .str _ => some (t == .str)
  | .tup _ => some (t == .tuple)
  | .fls _ => some (t == .list)
  | .scr _ => none
  | .fn _ _ _ => none
  | .exc _ _ _ => none
  | .exn _ => none
  | .ref h => match G[h]? with
    | some (.lst _) => some (t == .list)
    | some (.dct _) => match t with
      | .cls _ => none
      | _ => some false
    | some (.ins c _) => match t with
      | .cls c' => if c' = c then some true else none
      | _ => none
    | _ => none
def mIsI (t : Ty) (a : ME) : ME := m1 (fun x G => (isI t G x).map fun b => (.bl b, G)) a
def mAppend (o a : ME) : ME := fun δ G => bnd (o δ G) fun x G1 => bnd (a δ G1) fun y G2 => match x with
  | .ref h => match G1[h]?, G2[h]? with
    | some (.lst _), some (.lst xs) => if xs.length < big then some (.non, G2.set h (.lst (xs ++ [y]))) else none
    | _, _ => none
  | _ => none
/-- xs.pop() -/
def mPop (o : ME) : ME := m1 (fun x G => match x with
  | .ref h => match G[h]? with
    | some (.lst xs) => match xs.getLast? with
      | some d => some (d, G.set h (.lst xs.dropLast))
      | none => none
    | _ => none
  | _ => none) o
/-- d.get(k, x) -/
def mGet2 (o k x : ME) : ME := fun δ G => bnd (o δ G) fun d G1 => bnd (k δ G1) fun y G2 => bnd (x δ G2) fun z G3 => match d with
  | .ref h => match G1[h]?, G3[h]?, kOf y with
    | some (.dct _), some (.dct kvs), some k => some ((look kvs k).getD z, G3)
    | _, _, _ => none
  | _ => none
def mGet1 (o k : ME) : ME := fun δ G => bnd (o δ G) fun d G1 => bnd (k δ G1) fun y G2 => match d with
  | .ref h => match G1[h]?, G2[h]?, kOf y with
    | some (.dct _), some (.dct kvs), some k => some ((look kvs k).getD .non, G2)
    | _, _, _ => none
  | _ => none
/-- {k: v, ..}: the dict is made first -/
def mPairs : List (ME × ME) → Sl → Sto → Rs (List (Key × Dv))
  | [], _, G => some ([], G)
  | (k, e) :: r, δ, G => bnd (k δ G) fun y G1 => bnd (e δ G1) fun x G2 => bnd (mPairs r δ G2) fun ps G3 => match kOf y with
    | some k => some ((k, x) :: ps, G3)
    | none => none
def mDisp (ps : List (ME × ME)) : ME := fun δ G => bnd (mPairs ps δ (G ++ [.dct []])) fun kvs G1 => match G1[G.length]? with
  | some (.dct []) => if kvs.length ≤ 15 then some (.ref G.length, G1.set G.length (.dct (kvs.foldl (fun acc kv => put acc kv.1 kv.2) []))) else none
  | _ => none

/-! ### targets -/
abbrev MG := Dv → Sl → Sto → Option (Sl × Sto)
def gNm (i : Nat) : MG := fun d δ G => some (δ.set i (some d), G)
abbrev MGs := List Dv → Sl → Sto → Option (Sl × Sto)
def gNil : MGs := fun ds δ G => match ds with
  | [] => some (δ, G)
  | _ => none
def gCons (g : MG) (r : MGs) : MGs := fun ds δ G => match ds with
  | d :: ds' => match g d δ G with
    | some (δ1, G1) => r ds' δ1 G1
    | none => none
  | [] => none
def gTup (n : Nat) (g : MGs) : MG := fun d δ G => match d with
  | .tup xs => if xs.length = n then g xs δ G else none
  | _ => none

/-! ### statements -/
def mSeq (a b : MS) : MS := fun δ G => match a δ G with
  | some (.nx, δ', G') => b δ' G'
  | r => r
def mSkip : MS := fun δ G => some (.nx, δ, G)
def mBrk : MS := fun δ G => some (.bk, δ, G)
def mCont : MS := fun δ G => some (.ct, δ, G)
def mFail : MS := fun _ _ => none
def mAsg (e : ME) (g : MG) : MS := fun δ G => match e δ G with
  | some (d, G1) => match g d δ G1 with
    | some (δ', G') => some (.nx, δ', G')
    | none => none
  | none => none
/-- a, b = x, y -/
def mPar (i j : Nat) (a : MA) : MS := fun δ G => match a δ G with
  | some ([x, y], G1) => some (.nx, (δ.set i (some x)).set j (some y), G1)
  | _ => none
def mExpr (e : ME) : MS := fun δ G => match e δ G with
  | some (_, G1) => some (.nx, δ, G1)
  | none => none
def mRet (e : ME) : MS := fun δ G => match e δ G with
  | some (d, G1) => some (.rt d, δ, G1)
  | none => none
def mRetN : MS := fun δ G => some (.rt .non, δ, G)
def mIfS (t : MT) (a b : MS) : MS := fun δ G => match t δ G with
  | some (true, G1) => a δ G1
  | some (false, G1) => b δ G1
  | none => none
def mAug (i : Nat) (f : B2) (e : ME) : MS := fun δ G => match δ[i]? with
  | some (some x) => match e δ G with
    | some (y, G1) => match f x y G1 with
      | some (z, G2) => some (.nx, δ.set i (some z), G2)
      | none => none
    | none => none
  | _ => none
/-- o.f = e -/
def mSetF (cs : List Nat) (o : ME) (f : String) (e : ME) : MS := fun δ G => match e δ G with
  | some (y, G1) => match o δ G1 with
    | some (.ref h, G2) => match G2[h]? with
      | some (.ins c fs) => if c ∈ cs ∧ fs.length < 1000 then some (.nx, δ, G2.set h (.ins c (putF f y fs))) else none
      | _ => none
    | _ => none
  | none => none
/-- o.f op= e -/
def mAugF (cs : List Nat) (o : ME) (f : String) (op : B2) (e : ME) : MS := fun δ G => match o δ G with
  | some (.ref h, G1) => match G1[h]? with
    | some (.ins c fs) => if c ∈ cs then match fs.lookup f with
        | some x => match e δ G1 with
          | some (y, G2) => match op x y G2 with
            | some (z, G3) => match G3[h]? with
              | some (.ins c' fs') => if c' = c ∧ fs'.length < 1000 then some (.nx, δ, G3.set h (.ins c (putF f z fs'))) else none
              | _ => none
            | none => none
          | none => none
        | none => none
      else none
    | _ => none
  | _ => none
/-- o[i] = e of a list -/
def mSetI (o i e : ME) : MS := fun δ G => match e δ G with
  | some (v, G1) => match o δ G1 with
    | some (.ref h, G2) => match i δ G2 with
      | some (.int k, G3) => match G3[h]? with
        | some (.lst xs) => match ixN xs.length k with
          | some j => some (.nx, δ, G3.set h (.lst (xs.set j v)))
          | none => none
        | _ => none
      | _ => none
    | _ => none
  | none => none
/-- d[k] = e of a dict -/
def mSetK (o i e : ME) : MS := fun δ G => match e δ G with
  | some (v, G1) => match o δ G1 with
    | some (.ref h, G2) => match i δ G2 with
      | some (y, G3) => match G3[h]?, kOf y with
        | some (.dct kvs), some k => if kvs.length < big then some (.nx, δ, G3.set h (.dct (put kvs k v))) else none
        | _, _ => none
      | none => none
    | _ => none
  | none => none

/-! ### loops -/
open Classical in
/-- over the items ds, as long as st holds of the store -/
noncomputable def mLoop (g : MG) (b : MS) (st : Sto → Prop) : List Dv → MS
  | [], δ, G => if st G then some (.nx, δ, G) else none
  | d :: ds, δ, G => if st G then match g d δ G with
      | some (δ1, G1) => match b δ1 G1 with
        | some (.nx, δ2, G2) => mLoop g b st ds δ2 G2
        | some (.ct, δ2, G2) => mLoop g b st ds δ2 G2
        | some (.bk, δ2, G2) => some (.nx, δ2, G2)
        | r => r
      | none => none
    else none
/-- what is walked: the items, and what must stay of the store meanwhile -/
abbrev MI := Sl → Sto → Rs (List Dv × (Sto → Prop))
noncomputable def mFor (it : MI) (g : MG) (b : MS) : MS := fun δ G => bnd (it δ G) fun p G1 => mLoop g b p.2 p.1 δ G1
/-- a list or a tuple -/
def iSeq (a : ME) : MI := fun δ G => bnd (a δ G) fun x G1 => (seqOf G1 x).map fun xs => ((xs, fun G' => seqOf G' x = some xs), G1)
/-- range(n), range(a, b) -/
def iRange1 (a : ME) : MI := fun δ G => bnd (a δ G) fun x G1 => match x with
  | .int b => if -(2 ^ 62) ≤ b ∧ b < 2 ^ 62 then some ((rng 0 b, fun _ => True), G1) else none
  | _ => none
def iRange2 (a b : ME) : MI := fun δ G => bnd (a δ G) fun x G1 => bnd (b δ G1) fun y G2 => match x, y with
  | .int i, .int j => if -(2 ^ 62) ≤ i ∧ i < 2 ^ 62 ∧ -(2 ^ 62) ≤ j ∧ j < 2 ^ 62 then some ((rng i j, fun _ => True), G2) else none
  | _, _ => none
/-- zip(a, b), a list and a list or tuple -/
def iZip (a b : ME) : MI := fun δ G => bnd (a δ G) fun x G1 => bnd (b δ G1) fun y G2 => match seqOf G2 x, seqOf G2 y with
  | some xs, some ys => some ((List.zipWith (fun p q => .tup [p, q]) xs ys, fun G' => seqOf G' x = some xs ∧ seqOf G' y = some ys), G2)
  | _, _ => none
def enumD : Nat → List Dv → List Dv
  | _, [] => []
  | i, x :: xs => .tup [.int (i : Nat), x] :: enumD (i + 1) xs
def iEnum (a : ME) : MI := fun δ G => bnd (a δ G) fun x G1 => match lstOf G1 x with
  | some xs => some ((enumD 0 xs, fun G' => lstOf G' x = some xs), G1)
  | none => none
/-- while, by fuel -/
def mWh (t : MT) (b : MS) : Nat → MS
  | 0, _, _ => none
  | n + 1, δ, G => match t δ G with
    | some (true, G1) => match b δ G1 with
      | some (.nx, δ2, G2) => mWh t b n δ2 G2
      | some (.ct, δ2, G2) => mWh t b n δ2 G2
      | some (.bk, δ2, G2) => some (.nx, δ2, G2)
      | r => r
    | some (false, G1) => some (.nx, δ, G1)
    | none => none
/-- slots forgotten -/
def wipe (δ : Sl) : List Nat → Sl
  | [] => δ
  | v :: vs => (wipe δ vs).set v none
open Classical in
/-- [e for g in it if t], the block's own slots vs -/
noncomputable def mLcLoop (g : MG) (t : MT) (e : ME) (st : Sto → Prop) (δ : Sl) : List Dv → List Dv → Sto → Rs (List Dv)
  | [], acc, G => if st G then some (acc, G) else none
  | d :: ds, acc, G => if st G ∧ acc.length < big then match g d δ G with
      | some (δ1, G1) => match t δ1 G1 with
        | some (true, G2) => match e δ1 G2 with
          | some (y, G3) => mLcLoop g t e st δ ds (acc ++ [y]) G3
          | none => none
        | some (false, G2) => mLcLoop g t e st δ ds acc G2
        | none => none
      | none => none
    else none
noncomputable def mLc (m : Bool) (it : MI) (g : MG) (t : MT) (e : ME) (vs : List Nat) : ME := fun δ G => bnd (it δ G) fun p G1 => bnd (mLcLoop g t e p.2 (wipe δ vs) p.1 [] G1) fun xs G2 => some (mkL m xs G2)
def tYes : MT := fun _ G => some (true, G)
end Mi

/-! PyS1: how the mirror's values and store lie in the layer's heap; growth. -/
namespace Ms
open PySem L2
open Mi (Dv MO Sto Sl Rs bnd ME MT MA MS MF Fl MG MGs MI)
/-- how the arguments of a call are told: a first one that is no star; none that is; names for all keywords, these -/
abbrev Es (X : Cx) (e : Expr) (es : List Expr) : Prop := starEach (e :: es) X.env = (false, eval e X.env) :: starEach es X.env
abbrev Np (X : Cx) (pos : Pos) (es : List Expr) : Prop := (backTo pos (starEach es X.env)).any (fun a => a.1) = false
abbrev Ka (X : Cx) (pos : Pos) (kws : List Keyword) : Prop := (backToKw pos (keywordEach kws X.env)).all (fun a => a.1.isSome) = true
abbrev Ks (X : Cx) (pos : Pos) (kws : List Keyword) (ks : List Str) : Prop := (backToKw pos (keywordEach kws X.env)).filterMap (fun a => a.1) = ks
/-- a call by a global name, its value known -/
theorem called_by {X : Cx} {pins : List (Addr × Obj)} {σ : L2.St} {H : Hp} {s : Shared} {x : Str} {p pos : Pos} {es : List Expr} {kws : List Keyword} {v : Value} {Q E : Value → Shared → Prop} (I : Inv X pins σ H s) (hg : Gl X x) (hm : X.mg x = some v) (hdb : (x == ("__debug__" : Str)) = false)
    (go : wpAny (model X.prog X.w) X.A (callWith pos v [] (backTo pos (starEach es X.env)) (backToKw pos (keywordEach kws X.env))) Q E s) : wpAny (model X.prog X.w) X.A (eval (.Call (.Name x p) es kws pos) X.env) Q E s :=
  wpAny_Call_Name_kw (ld_glob I hg hm go hdb)

/-- what stays for good and holds a list -/
def FzL (K : PySem.W.Frag) (H : Hp) (a : Addr) (xs : List V) : Prop :=
  (∃ o, H a = some (.frz o (.lst xs))) ∨ ∃ (o : Obj) (its : Array Value) (n : Nat), K.lookup a = some o ∧ o.cls = .type "list" ∧ o.dict = none ∧ o.data = .seq its n ∧ its.size ≤ sizeLine ∧ Vals xs its.toList
theorem FzL.sq {K : PySem.W.Frag} {H : Hp} {a : Addr} {xs : List V} (h : FzL K H a xs) : SqL K H a xs := by
  rcases h with ⟨o, h⟩ | h
  · exact .inl (.inr ⟨o, h⟩)
  · exact .inr h
/-- where the handles lie; x: cells that are being filled, by nobody else -/
structure Rh where
  r : List Addr
  x : List Addr
mutual
/-- the value v bears the datum d; ρ: where the handles lie -/
inductive DR (K : PySem.W.Frag) (ρ : Rh) (H : Hp) : Dv → V → Prop
  | non : DR K ρ H .non .non
  | bl (b : Bool) : DR K ρ H (.bl b) (.bl b)
  | int (i : Int) : DR K ρ H (.int i) (.int i)
  | str (x : String) : DR K ρ H (.str x) (.str (Str.ofString x))
  | tup {a : Addr} {xs : List V} {ds : List Dv} : SqT K H a xs → DRs K ρ H ds xs → DR K ρ H (.tup ds) (.ref a)
  | fls {a : Addr} {xs : List V} {ds : List Dv} : H a = some (.lst xs) → a ∉ ρ.r ∧ a ∉ ρ.x → DRs K ρ H ds xs → DR K ρ H (.fls ds) (.ref a)
  | scr {a : Addr} {ns : List Int} : FzL K H a (ns.map V.int) → DR K ρ H (.scr ns) (.ref a)
  | ref {h : Nat} {a : Addr} : ρ.r[h]? = some a → DR K ρ H (.ref h) (.ref a)
  | fn {f c : Addr} {q : Str} : H c = some (LamX.CodeO c q) → DR K ρ H (.fn f c q) (.ref f)
  | exc {a dd : Addr} {h : Nat} : ρ.r[h]? = some dd → DR K ρ H (.exc a dd h) (.ref a)
  | exn {a : Addr} : DR K ρ H (.exn a) (.ref a)
inductive DRs (K : PySem.W.Frag) (ρ : Rh) (H : Hp) : List Dv → List V → Prop
  | nil : DRs K ρ H [] []
  | cons {d : Dv} {ds : List Dv} {v : V} {vs : List V} : DR K ρ H d v → DRs K ρ H ds vs → DRs K ρ H (d :: ds) (v :: vs)
end
/-- nothing is there, or a table -/
def Nf (H : Hp) (a : Addr) : Prop := ∀ o, H a = some o → ∃ q, o = .tbl q
theorem nf_none {H : Hp} {a : Addr} (h : H a = none) : Nf H a := fun o e => by
  rw [h] at e
  cases e
theorem nf_ne {H : Hp} {a b : Addr} {o : HO} (h : Nf H a) (e : H b = some o) (n : ∀ q, o ≠ .tbl q) : a ≠ b := fun z => by
  rw [z] at h
  obtain ⟨q, eq⟩ := h o e
  exact n q eq
theorem nf_upd {H : Hp} {a b : Addr} {o : HO} (h : Nf H a) (n : a ≠ b) : Nf (upd H b o) a := fun u e => by
  rw [upd_ne n] at e
  exact h u e
theorem nf_of {H : Hp} {a b : Addr} {o : HO} (h : Nf (upd H b o) a) (n : a ≠ b) : Nf H a := fun u e => h u (by rw [upd_ne n]; exact e)
/-- growth: handles are added, what is tracked and no handle stays -/
structure Gr (ρ : Rh) (H : Hp) (ρ' : Rh) (H' : Hp) : Prop where
  pre : (∃ t, ρ'.r = ρ.r ++ t) ∧ ρ'.x = ρ.x
  new : ∀ a ∈ ρ'.r, a ∈ ρ.r ∨ Nf H a
  kp : ∀ a o, H a = some o → a ∉ ρ.r → (∀ q, o ≠ .tbl q) → H' a = some o
  tu : ∀ a xs, H a = some (.tup xs) → H' a = some (.tup xs)
  fz : ∀ a o u, H a = some (.frz o u) → H' a = some (.frz o u)
  ex : ∀ a φ, H a = some (.ext φ) → H' a = some (.ext φ)
theorem Gr.refl {ρ : Rh} {H : Hp} : Gr ρ H ρ H := ⟨⟨⟨[], by simp⟩, rfl⟩, fun _ h => .inl h, fun _ _ h _ _ => h, fun _ _ h => h, fun _ _ _ h => h, fun _ _ h => h⟩
theorem Gr.trans {ρ ρ1 ρ2 : Rh} {H H1 H2 : Hp} (a : Gr ρ H ρ1 H1) (b : Gr ρ1 H1 ρ2 H2) : Gr ρ H ρ2 H2 := by
  refine ⟨⟨?_, b.pre.2.trans a.pre.2⟩, fun c hc => ?_, fun c o h hc ht => ?_, fun c xs h => b.tu c xs (a.tu c xs h), fun c o u h => b.fz c o u (a.fz c o u h), fun c φ h => b.ex c φ (a.ex c φ h)⟩
  · obtain ⟨s, e1⟩ := a.pre.1
    obtain ⟨t, e2⟩ := b.pre.1
    exact ⟨s ++ t, by rw [e2, e1]; simp⟩
  · rcases b.new c hc with h | h
    · exact a.new c h
    · by_cases hp : c ∈ ρ.r
      · exact .inl hp
      · exact .inr fun o e => Classical.byContradiction fun ht => ht (h o (a.kp c o e hp fun q z => ht ⟨q, z⟩))
  · refine b.kp c o (a.kp c o h hc ht) (fun hm => ?_) ht
    rcases a.new c hm with z | z
    · exact hc z
    · obtain ⟨q, e⟩ := z o h
      exact ht q e
/-- the same, weaker: cells that are being filled may come, go and change -/
structure Gw (ρ : Rh) (H : Hp) (ρ' : Rh) (H' : Hp) : Prop where
  pre : ∃ t, ρ'.r = ρ.r ++ t
  nl : ∀ a xs, H a = some (.lst xs) → a ∉ ρ.r → a ∉ ρ.x → H' a = some (.lst xs) ∧ a ∉ ρ'.r ∧ a ∉ ρ'.x
  tu : ∀ a xs, H a = some (.tup xs) → H' a = some (.tup xs)
  fz : ∀ a o u, H a = some (.frz o u) → H' a = some (.frz o u)
  ex : ∀ a φ, H a = some (.ext φ) → H' a = some (.ext φ)
theorem Gr.w {ρ ρ' : Rh} {H H' : Hp} (g : Gr ρ H ρ' H') : Gw ρ H ρ' H' := ⟨g.pre.1, fun a xs h n1 n2 => ⟨g.kp _ _ h n1 (fun _ z => nomatch z), (fun z => (g.new _ z).elim n1 fun q => (q _ h).elim fun _ w => nomatch w), by rw [g.pre.2]; exact n2⟩, g.tu, g.fz, g.ex⟩
theorem Gw.refl {ρ : Rh} {H : Hp} : Gw ρ H ρ H := Gr.refl.w
theorem Gw.trans {ρ ρ1 ρ2 : Rh} {H H1 H2 : Hp} (a : Gw ρ H ρ1 H1) (b : Gw ρ1 H1 ρ2 H2) : Gw ρ H ρ2 H2 := by
  refine ⟨?_, fun c xs h n1 n2 => ?_, fun c xs h => b.tu c xs (a.tu c xs h), fun c o u h => b.fz c o u (a.fz c o u h), fun c φ h => b.ex c φ (a.ex c φ h)⟩
  · obtain ⟨s, e1⟩ := a.pre
    obtain ⟨t, e2⟩ := b.pre
    exact ⟨s ++ t, by rw [e2, e1]; simp⟩
  · obtain ⟨h1, m1, m2⟩ := a.nl c xs h n1 n2
    exact b.nl c xs h1 m1 m2
/-- weaker still: a locked dict may be unlocked -/
structure Gv (ρ : Rh) (H : Hp) (ρ' : Rh) (H' : Hp) : Prop where
  pre : ∃ t, ρ'.r = ρ.r ++ t
  nl : ∀ a xs, H a = some (.lst xs) → a ∉ ρ.r → a ∉ ρ.x → H' a = some (.lst xs) ∧ a ∉ ρ'.r ∧ a ∉ ρ'.x
  tu : ∀ a xs, H a = some (.tup xs) → H' a = some (.tup xs)
  fz : ∀ a o u, (∀ ks, u ≠ .dK ks) → H a = some (.frz o u) → H' a = some (.frz o u)
  ex : ∀ a φ, H a = some (.ext φ) → H' a = some (.ext φ)
theorem Gw.v {ρ ρ' : Rh} {H H' : Hp} (g : Gw ρ H ρ' H') : Gv ρ H ρ' H' := ⟨g.pre, g.nl, g.tu, fun a o u _ h => g.fz a o u h, g.ex⟩
theorem SqT.gv {K : PySem.W.Frag} {ρ ρ' : Rh} {H H' : Hp} {a : Addr} {xs : List V} (g : Gv ρ H ρ' H') (h : SqT K H a xs) : SqT K H' a xs := by
  exact h.imp (fun z => z.imp (g.tu _ _) fun ⟨o, q⟩ => ⟨o, g.fz _ _ _ (fun _ z => nomatch z) q⟩) id
theorem FzL.gv {K : PySem.W.Frag} {ρ ρ' : Rh} {H H' : Hp} {a : Addr} {xs : List V} (g : Gv ρ H ρ' H') (h : FzL K H a xs) : FzL K H' a xs := by
  rcases h with ⟨o, h⟩ | h
  · exact .inl ⟨o, g.fz _ _ _ (fun _ z => nomatch z) h⟩
  · exact .inr h
section
variable {K : PySem.W.Frag} {ρ ρ' : Rh} {H H' : Hp}
mutual
theorem DR.gv (g : Gv ρ H ρ' H') : ∀ {d : Dv} {v : V}, DR K ρ H d v → DR K ρ' H' d v
  | _, _, .non => .non
  | _, _, .bl b => .bl b
  | _, _, .int i => .int i
  | _, _, .str x => .str x
  | _, _, .tup h r => .tup (SqT.gv g h) (DRs.gv g r)
  | _, _, .fls h n r => .fls (g.nl _ _ h n.1 n.2).1 (g.nl _ _ h n.1 n.2).2 (DRs.gv g r)
  | _, _, .scr h => .scr (h.gv g)
  | _, _, .ref h => .ref (by
      obtain ⟨t, e⟩ := g.pre
      rw [e, List.getElem?_append_left (List.getElem?_eq_some_iff.mp h).1]
      exact h)
  | _, _, .fn h => .fn (g.ex _ _ h)
  | _, _, .exn => .exn
  | _, _, .exc h => .exc (by
      obtain ⟨t, e⟩ := g.pre
      rw [e, List.getElem?_append_left (List.getElem?_eq_some_iff.mp h).1]
      exact h)
theorem DRs.gv (g : Gv ρ H ρ' H') : ∀ {ds : List Dv} {vs : List V}, DRs K ρ H ds vs → DRs K ρ' H' ds vs
  | _, _, .nil => .nil
  | _, _, .cons a b => .cons (DR.gv g a) (DRs.gv g b)
end
theorem SqT.gw {K : PySem.W.Frag} {ρ ρ' : Rh} {H H' : Hp} {a : Addr} {xs : List V} (g : Gw ρ H ρ' H') (h : SqT K H a xs) : SqT K H' a xs := SqT.gv g.v h
theorem DR.gw (g : Gw ρ H ρ' H') {d : Dv} {v : V} (h : DR K ρ H d v) : DR K ρ' H' d v := h.gv g.v
theorem DRs.gw (g : Gw ρ H ρ' H') {ds : List Dv} {vs : List V} (h : DRs K ρ H ds vs) : DRs K ρ' H' ds vs := h.gv g.v
theorem DR.gr (g : Gr ρ H ρ' H') {d : Dv} {v : V} (h : DR K ρ H d v) : DR K ρ' H' d v := h.gw g.w
theorem DRs.gr (g : Gr ρ H ρ' H') {ds : List Dv} {vs : List V} (h : DRs K ρ H ds vs) : DRs K ρ' H' ds vs := h.gw g.w
theorem SqT.gr {a : Addr} {xs : List V} (g : Gr ρ H ρ' H') (h : SqT K H a xs) : SqT K H' a xs := SqT.gw g.w h
theorem DRs.len : ∀ {ds : List Dv} {vs : List V}, DRs K ρ H ds vs → ds.length = vs.length
  | _, _, .nil => rfl
  | _, _, .cons _ b => by rw [List.length_cons, List.length_cons, DRs.len b]
theorem DRs.app : ∀ {ds es : List Dv} {vs ws : List V}, DRs K ρ H ds vs → DRs K ρ H es ws → DRs K ρ H (ds ++ es) (vs ++ ws)
  | _, _, _, _, .nil, q => q
  | _, _, _, _, .cons a b, q => .cons a (DRs.app b q)
theorem DRs.get : ∀ {ds : List Dv} {vs : List V} {i : Nat} {d : Dv}, DRs K ρ H ds vs → ds[i]? = some d → ∃ v, vs[i]? = some v ∧ DR K ρ H d v
  | _, _, i, _, .nil, e => by rw [List.getElem?_nil] at e; cases e
  | _, _, 0, _, .cons a b, e => by
    simp at e
    subst e
    exact ⟨_, rfl, a⟩
  | _, _, i + 1, _, .cons a b, e => by
    obtain ⟨v, h1, h2⟩ := DRs.get b (i := i) (by simpa using e)
    exact ⟨v, by simpa using h1, h2⟩
theorem DRs.set : ∀ {ds : List Dv} {vs : List V} (i : Nat) {d : Dv} {v : V}, DRs K ρ H ds vs → DR K ρ H d v → DRs K ρ H (ds.set i d) (vs.set i v)
  | _, _, _, _, _, .nil, _ => .nil
  | _, _, 0, _, _, .cons a b, q => .cons q b
  | _, _, i + 1, _, _, .cons a b, q => .cons a (DRs.set i b q)
theorem DRs.take : ∀ {ds : List Dv} {vs : List V} (n : Nat), DRs K ρ H ds vs → DRs K ρ H (ds.take n) (vs.take n)
  | _, _, 0, _ => .nil
  | _, _, _ + 1, .nil => .nil
  | _, _, n + 1, .cons a b => .cons a (DRs.take n b)
theorem DRs.drop : ∀ {ds : List Dv} {vs : List V} (n : Nat), DRs K ρ H ds vs → DRs K ρ H (ds.drop n) (vs.drop n)
  | _, _, 0, r => r
  | _, _, _ + 1, .nil => .nil
  | _, _, n + 1, .cons _ b => DRs.drop n b
theorem DRs.rev : ∀ {ds : List Dv} {vs : List V}, DRs K ρ H ds vs → DRs K ρ H ds.reverse vs.reverse
  | _, _, .nil => .nil
  | _, _, .cons a b => by
    simp only [List.reverse_cons]
    exact DRs.app (DRs.rev b) (.cons a .nil)
theorem DRs.rep {ds : List Dv} {vs : List V} (r : DRs K ρ H ds vs) : ∀ n : Nat, DRs K ρ H (List.replicate n ds).flatten (List.replicate n vs).flatten
  | 0 => .nil
  | n + 1 => by
    simp only [List.replicate_succ, List.flatten_cons]
    exact DRs.app r (DRs.rep r n)
theorem DRs.ints : ∀ {ns : List Int}, DRs K ρ H (ns.map Dv.int) (ns.map V.int)
  | [] => .nil
  | n :: r => .cons (.int n) DRs.ints
theorem DRs.isNil {ds : List Dv} {vs : List V} (r : DRs K ρ H ds vs) : ds = [] ↔ vs = [] := by
  cases r <;> simp
theorem DRs.emp {ds : List Dv} {vs : List V} (r : DRs K ρ H ds vs) : ds.isEmpty = vs.isEmpty := by
  cases r <;> rfl
end

/-! ### what the handles hold -/
inductive AR {α β : Type} (R : α → β → Prop) : List α → List β → Prop
  | nil : AR R [] []
  | cons {a : α} {as : List α} {b : β} {bs : List β} : R a b → AR R as bs → AR R (a :: as) (b :: bs)
theorem AR.imp {α β : Type} {R S : α → β → Prop} (h : ∀ a b, R a b → S a b) : ∀ {as : List α} {bs : List β}, AR R as bs → AR S as bs
  | _, _, .nil => .nil
  | _, _, .cons a b => .cons (h _ _ a) (AR.imp h b)
theorem AR.len {α β : Type} {R : α → β → Prop} : ∀ {as : List α} {bs : List β}, AR R as bs → as.length = bs.length
  | _, _, .nil => rfl
  | _, _, .cons _ b => by rw [List.length_cons, List.length_cons, AR.len b]
theorem AR.app {α β : Type} {R : α → β → Prop} : ∀ {as cs : List α} {bs ds : List β}, AR R as bs → AR R cs ds → AR R (as ++ cs) (bs ++ ds)
  | _, _, _, _, .nil, q => q
  | _, _, _, _, .cons a b, q => .cons a (AR.app b q)
/-- what the text fixes beside K: the classes' places by their numbers, the constants of the top with their data -/
structure Kx where
  ca : Nat → Addr
  cs : List (V × Dv)
  tt : List (Addr × Str) := []
def kK : Mi.Key → L2.Key
  | .inl i => .inl i
  | .inr x => .inr (Str.ofString x)
theorem ofString_inj {a b : String} (h : Str.ofString a = Str.ofString b) : a = b := by
  have h1 : (cpsOfBytes 0 0 a.toByteArray.data.toList).toArray = (cpsOfBytes 0 0 b.toByteArray.data.toList).toArray := congrArg Str.cps h
  have h2 : cpsOfBytes 0 0 a.toByteArray.data.toList = cpsOfBytes 0 0 b.toByteArray.data.toList := by simpa using h1
  rw [cpsOfBytes_string, cpsOfBytes_string] at h2
  have h3 : a.toList = b.toList := by
    have inj : ∀ {x y : List Char}, x.map Char.toNat = y.map Char.toNat → x = y := by
      intro x
      induction x with
      | nil => intro y e; cases y with
        | nil => rfl
        | cons _ _ => simp at e
      | cons c t ih => intro y e; cases y with
        | nil => simp at e
        | cons d u =>
          rw [List.map_cons, List.map_cons, List.cons.injEq] at e
          have e1 : c = d := Char.ext (UInt32.toNat_inj.mp e.1)
          rw [e1, ih e.2]
    exact inj h2
  exact String.toList_inj.mp h3
theorem kK_inj {a b : Mi.Key} (h : kK a = kK b) : a = b := by
  cases a with
  | inl i => cases b with
    | inl j =>
      have : i = j := Sum.inl.inj h
      rw [this]
    | inr y => exact nomatch h
  | inr x => cases b with
    | inl j => exact nomatch h
    | inr y =>
      have : Str.ofString x = Str.ofString y := Sum.inr.inj h
      rw [ofString_inj this]
abbrev KR (K : PySem.W.Frag) (ρ : Rh) (H : Hp) : List (Mi.Key × Dv) → List (L2.Key × V) → Prop := AR fun p q => q.1 = kK p.1 ∧ DR K ρ H p.2 q.2
abbrev FR (K : PySem.W.Frag) (ρ : Rh) (H : Hp) : List (String × Dv) → List (Str × V) → Prop := AR fun p q => q.1 = Str.ofString p.1 ∧ DR K ρ H p.2 q.2
inductive OR (K : PySem.W.Frag) (kx : Kx) (ρ : Rh) (H : Hp) (a : Addr) : MO → Prop
  | lst {xs : List V} {ds : List Dv} : H a = some (.lst xs) → DRs K ρ H ds xs → OR K kx ρ H a (.lst ds)
  | dct {ks : List (L2.Key × V)} {kvs : List (Mi.Key × Dv)} : H a = some (.dK ks) → KR K ρ H kvs ks → OR K kx ρ H a (.dct kvs)
  | ins {dx : Addr} {fs' : List (Str × V)} {c : Nat} {fs : List (String × Dv)} : H a = some (.ins (kx.ca c) dx fs') → FR K ρ H fs fs' → OR K kx ρ H a (.ins c fs)
  | fdc {o : Obj} {ks : List (L2.Key × V)} {kvs : List (Mi.Key × Dv)} : H a = some (.frz o (.dK ks)) → KR K ρ H kvs ks → OR K kx ρ H a (.fdc kvs)
  | xd {fs' : List (Str × V)} {fs : List (String × Dv)} : H a = some (.xd fs') → FR K ρ H fs fs' → OR K kx ρ H a (.xd fs)
theorem OR.gv {K : PySem.W.Frag} {kx : Kx} {ρ ρ' : Rh} {H H' : Hp} {a : Addr} {o : MO} (g : Gv ρ H ρ' H') (e : H' a = H a) (h : OR K kx ρ H a o) : OR K kx ρ' H' a o := by
  cases h with
  | lst h r => exact .lst (e.trans h) (r.gv g)
  | dct h r => exact .dct (e.trans h) (r.imp fun _ _ q => ⟨q.1, q.2.gv g⟩)
  | ins h r => exact .ins (e.trans h) (r.imp fun _ _ q => ⟨q.1, q.2.gv g⟩)
  | fdc h r => exact .fdc (e.trans h) (r.imp fun _ _ q => ⟨q.1, q.2.gv g⟩)
  | xd h r => exact .xd (e.trans h) (r.imp fun _ _ q => ⟨q.1, q.2.gv g⟩)
theorem OR.gw {K : PySem.W.Frag} {kx : Kx} {ρ ρ' : Rh} {H H' : Hp} {a : Addr} {o : MO} (g : Gw ρ H ρ' H') (e : H' a = H a) (h : OR K kx ρ H a o) : OR K kx ρ' H' a o := h.gv g.v e
theorem OR.gr {K : PySem.W.Frag} {kx : Kx} {ρ ρ' : Rh} {H H' : Hp} {a : Addr} {o : MO} (g : Gr ρ H ρ' H') (e : H' a = H a) (h : OR K kx ρ H a o) : OR K kx ρ' H' a o := h.gw g.w e
/-- a handle's object is there, and no tuple; if it isn't locked it may be written -/
theorem OR.kind {K : PySem.W.Frag} {kx : Kx} {ρ : Rh} {H : Hp} {a : Addr} {o : MO} (h : OR K kx ρ H a o) : (∃ u, H a = some u) ∧ (∀ xs, H a ≠ some (.tup xs)) ∧ ((∀ kvs, o ≠ .fdc kvs) → ∀ p u, H a ≠ some (.frz p u)) ∧ (∀ q, H a ≠ some (.tbl q)) ∧ ∀ φ, H a ≠ some (.ext φ) := by
  cases h with
  | lst h r => exact ⟨⟨_, h⟩, (fun xs z => by rw [h] at z; cases z), (fun _ p u z => by rw [h] at z; cases z), (fun q z => by rw [h] at z; cases z), (fun q z => by rw [h] at z; cases z)⟩
  | dct h r => exact ⟨⟨_, h⟩, (fun xs z => by rw [h] at z; cases z), (fun _ p u z => by rw [h] at z; cases z), (fun q z => by rw [h] at z; cases z), (fun q z => by rw [h] at z; cases z)⟩
  | ins h r => exact ⟨⟨_, h⟩, (fun xs z => by rw [h] at z; cases z), (fun _ p u z => by rw [h] at z; cases z), (fun q z => by rw [h] at z; cases z), (fun q z => by rw [h] at z; cases z)⟩
  | fdc h r => exact ⟨⟨_, h⟩, (fun xs z => by rw [h] at z; cases z), (fun n => absurd rfl (n _)), (fun q z => by rw [h] at z; cases z), (fun q z => by rw [h] at z; cases z)⟩
  | xd h r => exact ⟨⟨_, h⟩, (fun xs z => by rw [h] at z; cases z), (fun _ p u z => by rw [h] at z; cases z), (fun q z => by rw [h] at z; cases z), (fun q z => by rw [h] at z; cases z)⟩
/-- the store lies in the heap -/
structure Rl (K : PySem.W.Frag) (kx : Kx) (ρ : Rh) (G : Sto) (H : Hp) : Prop where
  len : ρ.r.length = G.length
  nd : ρ.r.Nodup
  ob : ∀ (h : Nat) (o : MO), G[h]? = some o → ∃ a, ρ.r[h]? = some a ∧ OR K kx ρ H a o
  gl : ∀ p ∈ kx.cs, DR K ρ H p.2 p.1
  xt : ∀ a ∈ ρ.x, (∃ o, H a = some o ∧ ∀ q, o ≠ .tbl q) ∧ a ∉ ρ.r
  tb : ∀ p ∈ kx.tt, LamX.TabS H p.1 p.2
/-- a table stays one -/
theorem tab_keep {H H' : Hp} {P : Addr} {q : Str} (t : LamX.TabS H P q) (h : H' P = H P) (ex : ∀ a φ, H a = some (.ext φ) → H' a = some (.ext φ)) : LamX.TabS H' P q := by
  obtain ⟨ps, h1, h2, h3⟩ := t
  refine ⟨ps, h.trans h1, h2, fun pos cv hc => ?_⟩
  have ⟨c, e1, e2⟩ := h3 pos cv hc
  exact ⟨c, e1, ex _ _ e2⟩
section
variable {K : PySem.W.Frag} {kx : Kx} {ρ ρ' : Rh} {G : Sto} {H H' : Hp}
theorem Rl.at (r : Rl K kx ρ G H) {h : Nat} {a : Addr} {o : MO} (e : ρ.r[h]? = some a) (eo : G[h]? = some o) : OR K kx ρ H a o := by
  obtain ⟨b, hb, q⟩ := r.ob h o eo
  rw [e] at hb
  cases hb
  exact q
theorem Rl.mem (r : Rl K kx ρ G H) {a : Addr} (h : a ∈ ρ.r) : ∃ o, OR K kx ρ H a o := by
  obtain ⟨i, hi, e⟩ := List.getElem_of_mem h
  have hg : i < G.length := by rw [← r.len]; exact hi
  obtain ⟨b, hb, q⟩ := r.ob i G[i] (List.getElem?_eq_getElem hg)
  rw [List.getElem?_eq_getElem hi, e] at hb
  cases hb
  exact ⟨_, q⟩
theorem Rl.tn (r : Rl K kx ρ G H) {p : Addr × Str} (hp : p ∈ kx.tt) : p.1 ∉ ρ.r ∧ p.1 ∉ ρ.x ∧ ∃ q, H p.1 = some (.tbl q) := by
  obtain ⟨ps, h1, _⟩ := r.tb p hp
  refine ⟨fun z => ?_, fun z => ?_, ⟨_, h1⟩⟩
  · obtain ⟨o, q⟩ := r.mem z
    exact q.kind.2.2.2.1 _ h1
  · obtain ⟨⟨o, e, n⟩, _⟩ := r.xt _ z
    rw [h1] at e
    cases e
    exact n _ rfl
theorem Rl.free (r : Rl K kx ρ G H) {a : Addr} (h : H a = none) : a ∉ ρ.r ∧ a ∉ ρ.x := by
  constructor <;> intro z
  · obtain ⟨o, q⟩ := r.mem z
    obtain ⟨⟨u, e⟩, _⟩ := q.kind
    rw [h] at e
    cases e
  · obtain ⟨⟨o, e, _⟩, _⟩ := r.xt a z
    rw [h] at e
    cases e
/-- the cells that are being filled stay apart -/
theorem Rl.xs (r : Rl K kx ρ G H) (g : Gr ρ H ρ' H') : ∀ a ∈ ρ'.x, (∃ o, H' a = some o ∧ ∀ q, o ≠ .tbl q) ∧ a ∉ ρ'.r := fun a ha => by
  rw [g.pre.2] at ha
  obtain ⟨⟨o, e, nt⟩, n⟩ := r.xt a ha
  refine ⟨⟨o, g.kp a o e n nt, nt⟩, fun z => ?_⟩
  rcases g.new a z with q | q
  · exact n q
  · obtain ⟨w, ew⟩ := q o e
    exact nt w ew
/-- the handles' cells are as they were -/
theorem Rl.keepT (r : Rl K kx ρ G H) (g : Gr ρ H ρ H') (h : ∀ a ∈ ρ.r, H' a = H a) (ht : ∀ p ∈ kx.tt, LamX.TabS H' p.1 p.2) : Rl K kx ρ G H' :=
  ⟨r.len, r.nd, (fun i o e => by
    obtain ⟨a, h1, h2⟩ := r.ob i o e
    exact ⟨a, h1, h2.gr g (h a (List.mem_of_getElem? h1))⟩), fun p hp => (r.gl p hp).gr g, r.xs g, ht⟩
theorem Rl.keep (r : Rl K kx ρ G H) (g : Gr ρ H ρ H') (h : ∀ a ∈ ρ.r, H' a = H a) (ht : ∀ a q, H a = some (.tbl q) → H' a = H a) : Rl K kx ρ G H' :=
  r.keepT g h fun p hp => tab_keep (r.tb p hp) (ht _ _ (r.tn hp).2.2.choose_spec) g.ex
/-- a new cell beside -/
theorem Rl.side (r : Rl K kx ρ G H) {p : Addr} (o : HO) (h : H p = none) : Gr ρ H ρ (upd H p o) ∧ Rl K kx ρ G (upd H p o) := by
  have g : Gr ρ H ρ (upd H p o) := ⟨⟨⟨[], by simp⟩, rfl⟩, fun _ z => .inl z, fun a u e _ _ => by rw [upd_ne (ne_of_none e h)]; exact e, fun a u e => by rw [upd_ne (ne_of_none e h)]; exact e, fun a u v e => by rw [upd_ne (ne_of_none e h)]; exact e, fun a φ e => by rw [upd_ne (ne_of_none e h)]; exact e⟩
  refine ⟨g, r.keep g (fun a ha => upd_ne fun z => (r.free h).1 (z ▸ ha)) fun a q e => upd_ne (ne_of_none e h)⟩
/-- one more handle -/
abbrev Rh.snoc (ρ : Rh) (p : Addr) : Rh := ⟨ρ.r ++ [p], ρ.x⟩
/-- a new handle -/
theorem Rl.grow (r : Rl K kx ρ G H) {p : Addr} {o : HO} {m : MO} (h : H p = none) (q : ∀ g : Gr ρ H (ρ.snoc p) (upd H p o), OR K kx (ρ.snoc p) (upd H p o) p m) : Gr ρ H (ρ.snoc p) (upd H p o) ∧ Rl K kx (ρ.snoc p) (G ++ [m]) (upd H p o) := by
  have g : Gr ρ H (ρ.snoc p) (upd H p o) := ⟨⟨⟨[p], rfl⟩, rfl⟩, (fun a z => by
      rcases List.mem_append.mp z with z | z
      · exact .inl z
      · have e : a = p := by simpa using z
        rw [e]
        exact .inr (nf_none h)), (fun a u e _ _ => by rw [upd_ne (ne_of_none e h)]; exact e), (fun a u e => by rw [upd_ne (ne_of_none e h)]; exact e), (fun a u v e => by rw [upd_ne (ne_of_none e h)]; exact e), (fun a φ e => by rw [upd_ne (ne_of_none e h)]; exact e)⟩
  refine ⟨g, by rw [List.length_append, List.length_append, r.len]; rfl, ?_, fun i u e => ?_, fun c hc => (r.gl c hc).gr g, r.xs g, fun c hc => tab_keep (r.tb c hc) (upd_ne (ne_of_none (r.tn hc).2.2.choose_spec h)) g.ex⟩
  · rw [List.nodup_append]
    exact ⟨r.nd, by simp, fun a ha b hb z => by
      have e : b = p := by simpa using hb
      exact (r.free h).1 (by rw [← e, ← z]; exact ha)⟩
  · by_cases hi : i < G.length
    · rw [List.getElem?_append_left hi] at e
      obtain ⟨a, h1, h2⟩ := r.ob i u e
      refine ⟨a, by rw [List.getElem?_append_left (by rw [r.len]; exact hi)]; exact h1, h2.gr g (upd_ne fun z => (r.free h).1 (z ▸ List.mem_of_getElem? h1))⟩
    · rw [List.getElem?_append_right (by omega)] at e
      have e0 : i - G.length = 0 := by
        by_cases z : i - G.length = 0
        · exact z
        · rw [List.getElem?_eq_none (by simp; omega)] at e
          cases e
      have e1 : i = G.length := by omega
      rw [e0] at e
      simp at e
      subst e
      refine ⟨p, ?_, q g⟩
      rw [e1, ← r.len, List.getElem?_append_right (Nat.le_refl _)]
      simp
/-- a handle's object is written -/
theorem Rl.wr (r : Rl K kx ρ G H) {h : Nat} {a : Addr} {o : HO} {m : MO} (e : ρ.r[h]? = some a) (q : ∀ g : Gr ρ H ρ (upd H a o), OR K kx ρ (upd H a o) a m) (nl : ∀ kvs, G[h]? ≠ some (.fdc kvs) := by intro _ z; simp_all) : Gr ρ H ρ (upd H a o) ∧ Rl K kx ρ (G.set h m) (upd H a o) := by
  have ha : a ∈ ρ.r := List.mem_of_getElem? e
  have lt : h < G.length := by rw [← r.len]; exact (List.getElem?_eq_some_iff.mp e).1
  obtain ⟨_, k1, k2', k3, k4⟩ := (r.at e (List.getElem?_eq_getElem lt)).kind
  have k2 := k2' fun kvs z => nl kvs (by rw [List.getElem?_eq_getElem lt, z])
  have g : Gr ρ H ρ (upd H a o) := ⟨⟨⟨[], by simp⟩, rfl⟩, fun _ z => .inl z, (fun b u z n _ => (upd_ne (b := b) (a := a) (fun w => n (by rw [w]; exact ha))).trans z), (fun b u z => (upd_ne (b := b) (a := a) (fun w => k1 u (by rw [← w]; exact z))).trans z), (fun b u v z => (upd_ne (b := b) (a := a) (fun w => k2 u v (by rw [← w]; exact z))).trans z), (fun b φ z => (upd_ne (b := b) (a := a) (fun w => k4 φ (by rw [← w]; exact z))).trans z)⟩
  refine ⟨g, by rw [List.length_set]; exact r.len, r.nd, fun i u ei => ?_, fun c hc => (r.gl c hc).gr g, r.xs g, fun c hc => tab_keep (r.tb c hc) (upd_ne fun z => (r.tn hc).1 (by rw [z]; exact ha)) g.ex⟩
  by_cases hi : i = h
  · subst hi
    have hl : i < G.length := by rw [← r.len]; exact (List.getElem?_eq_some_iff.mp e).1
    rw [List.getElem?_set_self hl] at ei
    cases ei
    exact ⟨a, e, q g⟩
  · rw [List.getElem?_set_ne (Ne.symm hi)] at ei
    obtain ⟨b, h1, h2⟩ := r.ob i u ei
    refine ⟨b, h1, h2.gr g (upd_ne fun z => hi ?_)⟩
    subst z
    obtain ⟨l1, e1⟩ := List.getElem?_eq_some_iff.mp h1
    obtain ⟨l2, e2⟩ := List.getElem?_eq_some_iff.mp e
    exact (List.getElem_inj r.nd).mp (e1.trans e2.symm)
end
section
variable {K : PySem.W.Frag} {kx : Kx} {ρ : Rh} {G : Sto} {H : Hp}
/-- a new list that is being filled -/
theorem Rl.fill (r : Rl K kx ρ G H) {p : Addr} (xs : List V) (h : H p = none) : Gw ρ H ⟨ρ.r, p :: ρ.x⟩ (upd H p (.lst xs)) ∧ Rl K kx ⟨ρ.r, p :: ρ.x⟩ G (upd H p (.lst xs)) := by
  have g : Gw ρ H ⟨ρ.r, p :: ρ.x⟩ (upd H p (.lst xs)) := ⟨⟨[], by simp⟩, (fun a ys e n1 n2 => ⟨(by rw [upd_ne (ne_of_none e h)]; exact e), n1, fun z => (List.mem_cons.mp z).elim (ne_of_none e h) n2⟩), (fun a u e => by rw [upd_ne (ne_of_none e h)]; exact e), (fun a u v e => by rw [upd_ne (ne_of_none e h)]; exact e), fun a φ e => by rw [upd_ne (ne_of_none e h)]; exact e⟩
  refine ⟨g, r.len, r.nd, fun i o e => ?_, fun c hc => (r.gl c hc).gw g, fun a ha => ?_, fun c hc => tab_keep (r.tb c hc) (upd_ne (ne_of_none (r.tn hc).2.2.choose_spec h)) g.ex⟩
  · obtain ⟨a, h1, h2⟩ := r.ob i o e
    exact ⟨a, h1, h2.gw g (upd_ne fun z => (r.free h).1 (z ▸ List.mem_of_getElem? h1))⟩
  · rcases List.mem_cons.mp ha with z | z
    · subst z
      exact ⟨⟨_, upd_same, fun _ z => nomatch z⟩, (r.free h).1⟩
    · obtain ⟨⟨o, e, nt⟩, n⟩ := r.xt a z
      exact ⟨⟨o, by rw [upd_ne (ne_of_none e h)]; exact e, nt⟩, n⟩
/-- it is filled on -/
theorem Rl.more (r : Rl K kx ρ G H) {p : Addr} {xs : List V} (ys : List V) (hp : p ∈ ρ.x) (h : H p = some (.lst xs)) : Gw ρ H ρ (upd H p (.lst ys)) ∧ Rl K kx ρ G (upd H p (.lst ys)) := by
  have g : Gw ρ H ρ (upd H p (.lst ys)) := ⟨⟨[], by simp⟩, (fun a us e n1 n2 => ⟨(upd_ne (b := a) (a := p) (fun z => n2 (by rw [z]; exact hp))).trans e, n1, n2⟩), (fun a u e => (upd_ne (b := a) (a := p) (fun z => by rw [z, h] at e; cases e)).trans e), (fun a u v e => (upd_ne (b := a) (a := p) (fun z => by rw [z, h] at e; cases e)).trans e), fun a φ e => (upd_ne (b := a) (a := p) (fun z => by rw [z, h] at e; cases e)).trans e⟩
  refine ⟨g, r.len, r.nd, fun i o e => ?_, fun c hc => (r.gl c hc).gw g, fun a ha => ?_, fun c hc => tab_keep (r.tb c hc) (upd_ne fun z => (r.tn hc).2.1 (by rw [z]; exact hp)) g.ex⟩
  · obtain ⟨a, h1, h2⟩ := r.ob i o e
    exact ⟨a, h1, h2.gw g (upd_ne fun z => (r.xt p hp).2 (z ▸ List.mem_of_getElem? h1))⟩
  · obtain ⟨⟨o, e, nt⟩, n⟩ := r.xt a ha
    refine ⟨?_, n⟩
    by_cases z : a = p
    · subst z
      exact ⟨_, upd_same, fun _ z => nomatch z⟩
    · exact ⟨o, by rw [upd_ne z]; exact e, nt⟩
/-- it is full, and stays -/
theorem Rl.full {r0 x0 : List Addr} {p : Addr} (r : Rl K kx ⟨r0, p :: x0⟩ G H) : Gw ⟨r0, p :: x0⟩ H ⟨r0, x0⟩ H ∧ Rl K kx ⟨r0, x0⟩ G H := by
  have g : Gw ⟨r0, p :: x0⟩ H ⟨r0, x0⟩ H := ⟨⟨[], by simp⟩, fun a us e n1 n2 => ⟨e, n1, fun z => n2 (List.mem_cons_of_mem _ z)⟩, fun a u e => e, fun a u v e => e, fun a φ e => e⟩
  exact ⟨g, r.len, r.nd, (fun i o e => by
    obtain ⟨a, h1, h2⟩ := r.ob i o e
    exact ⟨a, h1, h2.gw g rfl⟩), (fun c hc => (r.gl c hc).gw g), (fun a ha => r.xt a (List.mem_cons_of_mem _ ha)), r.tb⟩
/-- it is full, and gets a handle -/
theorem Rl.fullM {r0 x0 : List Addr} {p : Addr} {xs : List V} {ds : List Dv} (r : Rl K kx ⟨r0, p :: x0⟩ G H) (np : p ∉ x0) (h : H p = some (.lst xs)) (d : DRs K ⟨r0, p :: x0⟩ H ds xs) : Gw ⟨r0, p :: x0⟩ H ⟨r0 ++ [p], x0⟩ H ∧ Rl K kx ⟨r0 ++ [p], x0⟩ (G ++ [.lst ds]) H := by
  have hpr : p ∉ r0 := (r.xt p (List.mem_cons_self ..)).2
  have g : Gw ⟨r0, p :: x0⟩ H ⟨r0 ++ [p], x0⟩ H := ⟨⟨[p], rfl⟩, (fun a us e n1 n2 => ⟨e, (fun z => by
      rcases List.mem_append.mp z with z | z
      · exact n1 z
      · exact n2 (by have : a = p := by simpa using z
                     rw [this]; exact List.mem_cons_self ..)), fun z => n2 (List.mem_cons_of_mem _ z)⟩), fun a u e => e, fun a u v e => e, fun a φ e => e⟩
  refine ⟨g, by simp [show r0.length = G.length from r.len], ?_, fun i o e => ?_, fun c hc => (r.gl c hc).gw g, fun a ha => ?_, r.tb⟩
  · show (r0 ++ [p]).Nodup
    rw [List.nodup_append]
    exact ⟨r.nd, by simp, fun a ha b hb z => by
      have e : b = p := by simpa using hb
      exact hpr (by rw [← e, ← z]; exact ha)⟩
  · have hl : r0.length = G.length := r.len
    by_cases hi : i < G.length
    · rw [List.getElem?_append_left hi] at e
      obtain ⟨a, h1, h2⟩ := r.ob i o e
      exact ⟨a, by show (r0 ++ [p])[i]? = _; rw [List.getElem?_append_left (by omega)]; exact h1, h2.gw g rfl⟩
    · have e1 : i = G.length := by
        have := (List.getElem?_eq_some_iff.mp e).1
        simp at this
        omega
      subst e1
      rw [List.getElem?_append_right (Nat.le_refl _)] at e
      simp at e
      subst e
      exact ⟨p, by show (r0 ++ [p])[G.length]? = _; rw [← hl, List.getElem?_append_right (Nat.le_refl _)]; simp, .lst h (d.gw g)⟩
  · obtain ⟨e, n⟩ := r.xt a (List.mem_cons_of_mem _ ha)
    refine ⟨e, fun z => ?_⟩
    rcases List.mem_append.mp z with z | z
    · exact n z
    · have : a = p := by simpa using z
      exact np (this ▸ ha)
end
/-- the slots bear their data -/
structure Sr (K : PySem.W.Frag) (ρ : Rh) (H : Hp) (δ : Sl) (σ : St) : Prop where
  len : δ.length = σ.length
  at_ : ∀ (i : Nat) (d : Dv), δ[i]? = some (some d) → ∃ v, σ[i]? = some (some v) ∧ DR K ρ H d v
section
variable {K : PySem.W.Frag} {ρ ρ' : Rh} {H H' : Hp} {δ : Sl} {σ : St}
theorem Sr.gw (s : Sr K ρ H δ σ) (g : Gw ρ H ρ' H') : Sr K ρ' H' δ σ := ⟨s.len, fun i d e => let ⟨v, h1, h2⟩ := s.at_ i d e; ⟨v, h1, h2.gw g⟩⟩
theorem Sr.gr (s : Sr K ρ H δ σ) (g : Gr ρ H ρ' H') : Sr K ρ' H' δ σ := ⟨s.len, fun i d e => let ⟨v, h1, h2⟩ := s.at_ i d e; ⟨v, h1, h2.gr g⟩⟩
theorem Sr.set (s : Sr K ρ H δ σ) {d : Dv} {v : V} (i : Nat) (h : DR K ρ H d v) : Sr K ρ H (δ.set i (some d)) (σ.set i (some v)) := by
  refine ⟨by rw [List.length_set, List.length_set]; exact s.len, fun j e hj => ?_⟩
  by_cases hij : j = i
  · subst hij
    have hl : j < δ.length := by
      have := (List.getElem?_eq_some_iff.mp hj).1
      rw [List.length_set] at this
      exact this
    rw [List.getElem?_set_self hl] at hj
    cases hj
    exact ⟨v, List.getElem?_set_self (by rw [← s.len]; exact hl), h⟩
  · rw [List.getElem?_set_ne (Ne.symm hij)] at hj
    obtain ⟨w, h1, h2⟩ := s.at_ j e hj
    exact ⟨w, by rw [List.getElem?_set_ne (Ne.symm hij)]; exact h1, h2⟩
theorem Sr.wipe (s : Sr K ρ H δ σ) : ∀ vs : List Nat, Sr K ρ H (Mi.wipe δ vs) (L2.wipe σ vs)
  | [] => s
  | i :: vs => by
    have t := Sr.wipe s vs
    show Sr K ρ H ((Mi.wipe δ vs).set i none) ((L2.wipe σ vs).set i none)
    refine ⟨by rw [List.length_set, List.length_set]; exact t.len, fun j e hj => ?_⟩
    by_cases hij : j = i
    · subst hij
      have hl : j < (Mi.wipe δ vs).length := by
        have := (List.getElem?_eq_some_iff.mp hj).1
        rw [List.length_set] at this
        exact this
      rw [List.getElem?_set_self hl] at hj
      cases hj
    · rw [List.getElem?_set_ne (Ne.symm hij)] at hj
      obtain ⟨w, h1, h2⟩ := t.at_ j e hj
      exact ⟨w, by rw [List.getElem?_set_ne (Ne.symm hij)]; exact h1, h2⟩
theorem Sr.start {N : List Str} : ∀ {xs : List Dv} {vs : List V}, DRs K ρ H xs vs → Sr K ρ H (xs.map some ++ List.replicate (N.length - vs.length) none) (start N vs) := fun {xs vs} r => by
  have hl := r.len
  refine ⟨by unfold L2.start; simp [hl], fun i d e => ?_⟩
  have hi : i < xs.length := by
    by_cases hi : i < xs.length
    · exact hi
    · rw [List.getElem?_append_right (by simp; omega), List.getElem?_replicate] at e
      split at e <;> cases e
  rw [List.getElem?_append_left (by simpa using hi), List.getElem?_map] at e
  cases ex : xs[i]? with
  | none => rw [ex] at e; cases e
  | some d' =>
    rw [ex] at e
    cases e
    obtain ⟨v, h1, h2⟩ := r.get ex
    refine ⟨v, ?_, h2⟩
    unfold L2.start
    rw [List.getElem?_append_left (by rw [List.length_map]; omega), List.getElem?_map, h1]
    rfl
end
end Ms

/-! PyS2: readings from the mirror; expressions. -/
namespace Ms
open PySem L2
open Mi (Dv MO Sto Sl Rs bnd ME MT MA MS MF Fl MG MGs MI)

def tM (K : PySem.W.Frag) (kx : Kx) (m : ME) : TE := fun σ H Q => ∃ (ρ : Rh) (G : Sto) (δ : Sl) (d : Dv) (G' : Sto), Rl K kx ρ G H ∧ Sr K ρ H δ σ ∧ m δ G = some (d, G') ∧
  ∀ v ρ' H', Gr ρ H ρ' H' → Rl K kx ρ' G' H' → DR K ρ' H' d v → Q v H'
def tMT (K : PySem.W.Frag) (kx : Kx) (m : MT) : TT := fun σ H Q => ∃ (ρ : Rh) (G : Sto) (δ : Sl) (b : Bool) (G' : Sto), Rl K kx ρ G H ∧ Sr K ρ H δ σ ∧ m δ G = some (b, G') ∧
  ∀ ρ' H', Gr ρ H ρ' H' → Rl K kx ρ' G' H' → Q b H'
def tMA (K : PySem.W.Frag) (kx : Kx) (m : MA) : TA := fun σ H Q => ∃ (ρ : Rh) (G : Sto) (δ : Sl) (ds : List Dv) (G' : Sto), Rl K kx ρ G H ∧ Sr K ρ H δ σ ∧ m δ G = some (ds, G') ∧
  ∀ vs ρ' H', Gr ρ H ρ' H' → Rl K kx ρ' G' H' → DRs K ρ' H' ds vs → Q vs H'
theorem _root_.L2.PE.imp {X : Cx} {e : Expr} {t u : TE} (h : PE X e t) (i : ∀ σ H Q, u σ H Q → t σ H Q) : PE X e u := ⟨fun pins s σ H Q I q => h.run pins s σ H Q I (i σ H Q q)⟩
theorem _root_.L2.PT.imp {X : Cx} {e : Expr} {t u : TT} (h : PT X e t) (i : ∀ σ H Q, u σ H Q → t σ H Q) : PT X e u := ⟨fun pins s σ H Q I q => h.run pins s σ H Q I (i σ H Q q)⟩
theorem _root_.L2.PW.imp {X : Cx} {e : Expr} {t u : TT} (h : PW X e t) (i : ∀ σ H Q, u σ H Q → t σ H Q) : PW X e u := ⟨fun w pins s σ H Q I q => h.run w pins s σ H Q I (i σ H Q q)⟩
theorem _root_.L2.PA.imp {X : Cx} {e : List Expr} {t u : TA} (h : PA X e t) (i : ∀ σ H Q, u σ H Q → t σ H Q) : PA X e u := ⟨fun p pins s σ H Q I q => h.run p pins s σ H Q I (i σ H Q q)⟩
/-- one of two readings, chosen by what holds -/
theorem _root_.L2.PE.or {X : Cx} {e : Expr} {t u : TE} (h : PE X e t) (h' : PE X e u) : PE X e (fun σ H Q => t σ H Q ∨ u σ H Q) := ⟨fun pins s σ H Q I q => q.elim (h.run pins s σ H Q I) (h'.run pins s σ H Q I)⟩
theorem big_line : Mi.big = sizeLine := by
  rw [sizeLine_eq]
  rfl
section
variable {X : Cx} {kx : Kx} {e a b c : Expr} {ma mb mc me : ME} {pos : Pos}

/-! ### names, constants -/
theorem m_var (i : Nat) {x : Str} (hN : X.N[i]? = some x := by rfl) (hv : Vis X.env.scope x := by first | exact Or.inl rfl | exact Or.inr (Or.inl rfl) | exact Or.inr (Or.inr rfl)) (hd : (x == ("__debug__" : Str)) = false := by decide) (hcd : (x == ("__classdict__" : Str)) = false := by decide) :
    PE X (.Name x pos) (tM X.K kx (Mi.mVar i)) := (pe_var hN hv hd hcd).imp fun σ H Q ⟨ρ, G, δ, d, G', rl, sr, e, k⟩ => by
  unfold Mi.mVar at e
  split at e
  · rename_i d' ed
    cases e
    obtain ⟨v, h1, h2⟩ := sr.at_ i d ed
    exact ⟨v, h1, k v ρ H Gr.refl rl h2⟩
  · cases e
theorem m_const {d : Dv} {v : V} (h : PE X e (tC v)) (hd : ∀ ρ H G, Rl X.K kx ρ G H → DR X.K ρ H d v) : PE X e (tM X.K kx (Mi.mC d)) := h.imp fun σ H Q ⟨ρ, G, δ, d', G', rl, sr, e, k⟩ => by
  cases e
  exact k v ρ H Gr.refl rl (hd ρ H G rl)
theorem m_int {i : Int} {j} : PE X (.Constant (.int i) j pos) (tM X.K kx (Mi.mC (.int i))) := m_const pe_int fun _ _ _ _ => .int i
theorem m_bl {b : Bool} {j} : PE X (.Constant (.bool b) j pos) (tM X.K kx (Mi.mC (.bl b))) := m_const pe_bl fun _ _ _ _ => .bl b
theorem m_non {j} : PE X (.Constant .none j pos) (tM X.K kx (Mi.mC .non)) := m_const pe_non fun _ _ _ _ => .non
theorem m_str {x : String} {j} : PE X (.Constant (.str (Str.ofString x)) j pos) (tM X.K kx (Mi.mC (.str x))) := m_const pe_str fun _ _ _ _ => .str x
/-- a constant of the top -/
theorem m_glob {x : Str} {v : V} {d : Dv} {u : Value} (hm : X.mg x = some u) (r : RelV v u) (hc : (v, d) ∈ kx.cs) (hg : Gl X x := by rfl) (hd : (x == ("__debug__" : Str)) = false := by decide) : PE X (.Name x pos) (tM X.K kx (Mi.mC d)) :=
  m_const (pe_glob hg hm r hd) fun _ _ _ rl => rl.gl _ hc
theorem m_globI {x : Str} {i : Int} (hm : ∃ t, X.mg x = some (.int i t)) (hg : Gl X x := by rfl) (hd : (x == ("__debug__" : Str)) = false := by decide) : PE X (.Name x pos) (tM X.K kx (Mi.mC (.int i))) := by
  obtain ⟨t, h⟩ := hm
  exact m_const (pe_glob (v := .int i) hg h ⟨t, rfl⟩ hd) fun _ _ _ _ => .int i

/-! ### two places -/
/-- an operation of the mirror against a rule by values -/
def B2ok (X : Cx) (kx : Kx) (f : Mi.B2) (r : R2) : Prop := ∀ (x y : Dv) (G : Sto) (d : Dv) (G' : Sto) (ρ : Rh) (H : Hp) (v w : V) (Q : VK), f x y G = some (d, G') → Rl X.K kx ρ G H → DR X.K ρ H x v → DR X.K ρ H y w →
  (∀ z ρ' H', Gr ρ H ρ' H' → Rl X.K kx ρ' G' H' → DR X.K ρ' H' d z → Q z H') → r v w H Q
theorem bin2 {f : Mi.B2} {r : R2} (hf : B2ok X kx f r) {σ : St} {H : Hp} {Q : VK} (h : tM X.K kx (Mi.m2 f ma mb) σ H Q) : tOp r (tM X.K kx ma) (tM X.K kx mb) σ H Q := by
  obtain ⟨ρ, G, δ, d, G', rl, sr, e, k⟩ := h
  obtain ⟨x, G1, e1, e⟩ := Mi.bnd_eq e
  obtain ⟨y, G2, e2, e⟩ := Mi.bnd_eq e
  exact ⟨ρ, G, δ, x, G1, rl, sr, e1, fun v ρ1 H1 g1 r1 d1 => ⟨ρ1, G1, δ, y, G2, r1, sr.gr g1, e2, fun w ρ2 H2 g2 r2 d2 =>
    hf x y G2 d G' ρ2 H2 v w Q e r2 (d1.gr g2) d2 fun z ρ' H' g r q => k z ρ' H' ((g1.trans g2).trans g) r q⟩⟩
theorem m_op {op : Operator} {f : Mi.B2} {r : R2} (ho : OpR X (binaryOp op) r) (hf : B2ok X kx f r) (ha : PE X a (tM X.K kx ma)) (hb : PE X b (tM X.K kx mb)) : PE X (.BinOp a op b pos) (tM X.K kx (Mi.m2 f ma mb)) :=
  (pe_op ho ha hb).imp fun _ _ _ h => bin2 hf h
theorem m_cmp {op : CmpOp} {f : Mi.B2} {r : R2} (ho : OpR X (compareOp op) r) (hf : B2ok X kx f r) (ha : PE X a (tM X.K kx ma)) (hb : PE X b (tM X.K kx mb)) (hm : behindInMarks op b = false) : PE X (.Compare a [op] [b] pos) (tM X.K kx (Mi.m2 f ma mb)) :=
  (pe_cmpR ho ha hb hm).imp fun _ _ _ h => bin2 hf h
/-- a truth value as a test -/
theorem tTb {t : TE} {σ : St} {H : Hp} {Q : Bool → Hp → Prop} (ht : ∀ R : VK, tM X.K kx me σ H R → t σ H R) (h : tMT X.K kx (Mi.mTb me) σ H Q) : t σ H fun x H' => ∃ k, x = .bl k ∧ Q k H' := by
  obtain ⟨ρ, G, δ, bb, G', rl, sr, e, k⟩ := h
  obtain ⟨x, G1, e1, e⟩ := Mi.bnd_eq e
  refine ht _ ⟨ρ, G, δ, x, G1, rl, sr, e1, fun v ρ' H' g r q => ?_⟩
  split at e
  · cases e
    cases q
    exact ⟨bb, rfl, k ρ' H' g r⟩
  · cases e
theorem m_cmpT {op : CmpOp} {f : Mi.B2} {r : R2} (ho : OpR X (compareOp op) r) (hf : B2ok X kx f r) (ha : PE X a (tM X.K kx ma)) (hb : PE X b (tM X.K kx mb)) (hm : behindInMarks op b = false) : PT X (.Compare a [op] [b] pos) (tMT X.K kx (Mi.mTb (Mi.m2 f ma mb))) :=
  (pt_cmpR ho ha hb hm).imp fun _ _ _ h => tTb (fun _ h => bin2 hf h) h
/-- a new list, frozen or with a handle -/
theorem mkL_ok {K : PySem.W.Frag} {ρ : Rh} {G : Sto} {H : Hp} {m : Bool} {xs : List Dv} {vs : List V} {Q : VK} (rl : Rl K kx ρ G H) (r : DRs K ρ H xs vs)
    (k : ∀ z ρ' H', Gr ρ H ρ' H' → Rl K kx ρ' (Mi.mkL m xs G).2 H' → DR K ρ' H' (Mi.mkL m xs G).1 z → Q z H') : ∀ p, H p = none → Q (.ref p) (upd H p (.lst vs)) := fun p hp => by
  cases m with
  | true =>
    obtain ⟨g, r2⟩ := rl.grow (o := .lst vs) (m := .lst xs) hp fun g => .lst upd_same (r.gr g)
    exact k (.ref p) _ _ g r2 (.ref (by rw [show Mi.mkL true xs G = (Dv.ref G.length, G ++ [MO.lst xs]) from rfl] at *; rw [← rl.len, List.getElem?_append_right (Nat.le_refl _)]; simp))
  | false =>
    obtain ⟨g, r2⟩ := rl.side (.lst vs) hp
    exact k (.ref p) _ _ g r2 (.fls upd_same (rl.free hp) (r.gr g))
theorem tup_ok {K : PySem.W.Frag} {ρ : Rh} {G : Sto} {H : Hp} {xs : List Dv} {vs : List V} {Q : VK} (rl : Rl K kx ρ G H) (r : DRs K ρ H xs vs)
    (k : ∀ z ρ' H', Gr ρ H ρ' H' → Rl K kx ρ' G H' → DR K ρ' H' (.tup xs) z → Q z H') : ∀ p, H p = none → Q (.ref p) (upd H p (.tup vs)) := fun p hp => by
  obtain ⟨g, r2⟩ := rl.side (.tup vs) hp
  exact k (.ref p) _ _ g r2 (.tup (SqT.of upd_same) (r.gr g))
theorem lst_at {K : PySem.W.Frag} {ρ : Rh} {G : Sto} {H : Hp} {h : Nat} {a : Addr} {xs : List Dv} (rl : Rl K kx ρ G H) (e : G[h]? = some (.lst xs)) (ea : ρ.r[h]? = some a) : ∃ vs, H a = some (.lst vs) ∧ DRs K ρ H xs vs := by
  have o := rl.at ea e
  cases o with
  | lst h r => exact ⟨_, h, r⟩
theorem dct_at {K : PySem.W.Frag} {ρ : Rh} {G : Sto} {H : Hp} {h : Nat} {a : Addr} {kvs : List (Mi.Key × Dv)} (rl : Rl K kx ρ G H) (e : G[h]? = some (.dct kvs)) (ea : ρ.r[h]? = some a) : ∃ ks, H a = some (.dK ks) ∧ KR K ρ H kvs ks := by
  have o := rl.at ea e
  cases o with
  | dct h r => exact ⟨_, h, r⟩
theorem fdc_at {K : PySem.W.Frag} {ρ : Rh} {G : Sto} {H : Hp} {h : Nat} {a : Addr} {kvs : List (Mi.Key × Dv)} (rl : Rl K kx ρ G H) (e : G[h]? = some (.fdc kvs)) (ea : ρ.r[h]? = some a) : ∃ ks o, H a = some (.frz o (.dK ks)) ∧ KR K ρ H kvs ks := by
  have o := rl.at ea e
  cases o with
  | fdc h r => exact ⟨_, _, h, r⟩
theorem ins_at {K : PySem.W.Frag} {ρ : Rh} {G : Sto} {H : Hp} {h : Nat} {a : Addr} {c : Nat} {fs : List (String × Dv)} (rl : Rl K kx ρ G H) (e : G[h]? = some (.ins c fs)) (ea : ρ.r[h]? = some a) : ∃ dx fs', H a = some (.ins (kx.ca c) dx fs') ∧ FR K ρ H fs fs' := by
  have o := rl.at ea e
  cases o with
  | ins h r => exact ⟨_, _, h, r⟩

def rAdds (K : PySem.W.Frag) : R2 := fun x y H Q => rI0 (fun i j => .int (i + j)) x y H Q ∨ (rCatA K x y H Q ∨ rCat x y H Q)
theorem op_adds : OpR X (binaryOp .Add) (rAdds X.K) := OpR.or op_add (OpR.or op_catA op_cat)
theorem b_add (m : Bool) : B2ok X kx (Mi.bAdd m) (rAdds X.K) := by
  intro x y G d G' ρ H v w Q e rl dx dy k
  unfold Mi.bAdd at e
  split at e
  · cases e
    cases dx
    cases dy
    exact .inl ⟨_, _, rfl, rfl, k _ ρ H Gr.refl rl (.int _)⟩
  · split at e
    · rename_i hz
      cases e
      cases dx with
      | tup h1 r1 =>
        cases dy with
        | tup h2 r2 =>
          refine .inr (.inl ⟨_, _, _, _, rfl, rfl, h1, h2, ?_, fun z => ?_, fun z z2 => ?_, fun z z2 => ?_⟩)
          · rw [← r1.len, ← r2.len, ← big_line]
            exact hz
          · have z' := r1.isNil.mpr z
            subst z'
            exact k _ ρ H Gr.refl rl (.tup h2 (by simpa using r2))
          · have z' := r2.isNil.mpr z2
            subst z'
            exact k _ ρ H Gr.refl rl (.tup h1 (by simpa using r1))
          · exact tup_ok rl (r1.app r2) k
    · cases e
  · split at e
    · rename_i hz
      have e' := Option.some.inj e
      cases dx with
      | fls h1 n1 r1 =>
        cases dy with
        | fls h2 n2 r2 =>
          refine .inr (.inr ⟨_, _, _, _, rfl, rfl, h1, h2, ?_, ?_⟩)
          · rw [← r1.len, ← r2.len, ← big_line]
            exact hz
          · refine mkL_ok (m := m) rl (r1.app r2) ?_
            rw [e']
            exact k
    · cases e
  · split at e
    · rename_i a0 eh
      split at e
      · rename_i hz
        have e' := Option.some.inj e
        cases dx with
        | ref ea =>
          obtain ⟨vs, h1, r1⟩ := lst_at rl eh ea
          cases dy with
          | fls h2 n2 r2 =>
            refine .inr (.inr ⟨_, _, _, _, rfl, rfl, h1, h2, ?_, ?_⟩)
            · rw [← r1.len, ← r2.len, ← big_line]
              exact hz
            · refine mkL_ok (m := m) rl (r1.app r2) ?_
              rw [e']
              exact k
      · cases e
    · cases e
  · cases e
theorem b_sub : B2ok X kx Mi.bSub (rI0 fun i j => .int (i - j)) := by
  intro x y G d G' ρ H v w Q e rl dx dy k
  unfold Mi.bSub at e
  split at e
  · cases e
    cases dx
    cases dy
    exact ⟨_, _, rfl, rfl, k _ ρ H Gr.refl rl (.int _)⟩
  · cases e
def rMuls (K : PySem.W.Frag) : R2 := fun x y H Q => rI CMul (fun i j => .int (i * j)) x y H Q ∨ (rRepT K x y H Q ∨ rRep x y H Q)
theorem op_muls : OpR X (binaryOp .Mult) (rMuls X.K) := OpR.or op_mul (OpR.or op_repT op_rep)
theorem b_mul (m : Bool) : B2ok X kx (Mi.bMul m) (rMuls X.K) := by
  intro x y G d G' ρ H v w Q e rl dx dy k
  unfold Mi.bMul at e
  split at e
  · split at e
    · rename_i hz
      cases e
      cases dx
      cases dy
      refine .inl ⟨_, _, rfl, rfl, ?_, k _ ρ H Gr.refl rl (.int _)⟩
      unfold Mi.okMul at hz
      simp only [Bool.or_eq_true, Bool.and_eq_true, decide_eq_true_eq] at hz
      exact hz
    · cases e
  · split at e
    · rename_i hz
      obtain ⟨z1, z2, z3, z4⟩ := hz
      cases e
      cases dx with
      | tup h1 r1 =>
        cases dy
        refine .inr (.inl ⟨_, _, _, rfl, rfl, h1, fun z => z1 (r1.isNil.mpr z), z2, z3, by rw [← r1.len]; exact z4, ?_⟩)
        exact tup_ok rl (r1.rep _) k
    · cases e
  · split at e
    · rename_i hz
      obtain ⟨z1, z2, z3⟩ := hz
      have e' := Option.some.inj e
      cases dx with
      | fls h1 n1 r1 =>
        cases dy
        refine .inr (.inr ⟨_, _, _, rfl, rfl, h1, z1, z2, by rw [← r1.len, ← big_line]; exact z3, ?_⟩)
        refine mkL_ok (m := m) rl (r1.rep _) ?_
        rw [e']
        exact k
    · cases e
  · cases e
theorem b_div : B2ok X kx Mi.bDiv (rI CDiv fun i j => .int (i / j)) := by
  intro x y G d G' ρ H v w Q e rl dx dy k
  unfold Mi.bDiv at e
  split at e
  · split at e
    · rename_i hz
      cases e
      cases dx
      cases dy
      exact ⟨_, _, rfl, rfl, hz, k _ ρ H Gr.refl rl (.int _)⟩
    · cases e
  · cases e
theorem b_mod : B2ok X kx Mi.bMod (rI (fun _ j => 0 < j) fun i j => .int (i % j)) := by
  intro x y G d G' ρ H v w Q e rl dx dy k
  unfold Mi.bMod at e
  split at e
  · split at e
    · rename_i hz
      cases e
      cases dx
      cases dy
      exact ⟨_, _, rfl, rfl, hz, k _ ρ H Gr.refl rl (.int _)⟩
    · cases e
  · cases e
theorem b_pow : B2ok X kx Mi.bPow (rI CPow fun i j => .int (i ^ j.toNat)) := by
  intro x y G d G' ρ H v w Q e rl dx dy k
  unfold Mi.bPow at e
  split at e
  · split at e
    · rename_i hz
      cases e
      cases dx
      cases dy
      exact ⟨_, _, rfl, rfl, hz, k _ ρ H Gr.refl rl (.int _)⟩
    · cases e
  · cases e
theorem b_cmp {p : Int → Int → Bool} : B2ok X kx (Mi.bCmp p) (rI0 fun i j => .bl (p i j)) := by
  intro x y G d G' ρ H v w Q e rl dx dy k
  unfold Mi.bCmp at e
  split at e
  · cases e
    cases dx
    cases dy
    exact ⟨_, _, rfl, rfl, k _ ρ H Gr.refl rl (.bl _)⟩
  · cases e
theorem m_neg (ha : PE X a (tM X.K kx ma)) : PE X (.UnaryOp .USub a pos) (tM X.K kx (Mi.m1 Mi.uNeg ma)) := (pe_un un_neg ha).imp fun σ H Q ⟨ρ, G, δ, d, G', rl, sr, e, k⟩ => by
  obtain ⟨x, G1, e1, e⟩ := Mi.bnd_eq e
  refine ⟨ρ, G, δ, x, G1, rl, sr, e1, fun v ρ1 H1 g1 r1 d1 => ?_⟩
  unfold Mi.uNeg at e
  split at e
  · cases e
    cases d1
    exact ⟨_, rfl, k _ _ _ g1 r1 (.int _)⟩
  · cases e
/-! ### equality -/
theorem ints_of {K : PySem.W.Frag} {ρ : Rh} {H : Hp} : ∀ {ds : List Dv} {vs : List V} {ns : List Int}, Mi.intsOf ds = some ns → DRs K ρ H ds vs → vs = ns.map V.int
  | [], _, _, e, .nil => by
    cases e
    rfl
  | .int i :: r, _, ns, e, .cons a b => by
    unfold Mi.intsOf at e
    cases er : Mi.intsOf r with
    | none => rw [er] at e; cases e
    | some ms =>
      rw [er] at e
      cases e
      cases a
      rw [List.map_cons, ints_of er b]
  | .non :: _, _, _, e, _ => nomatch e
  | .bl _ :: _, _, _, e, _ => nomatch e
  | .str _ :: _, _, _, e, _ => nomatch e
  | .tup _ :: _, _, _, e, _ => nomatch e
  | .fls _ :: _, _, _, e, _ => nomatch e
  | .scr _ :: _, _, _, e, _ => nomatch e
  | .ref _ :: _, _, _, e, _ => nomatch e
theorem dpInts {K : PySem.W.Frag} {H : Hp} : ∀ ns : List Int, DpAll K H (ns.map V.int) (ns.map PyData.int)
  | [] => .nil
  | n :: r => .cons (.int n) (dpInts r)
theorem eqvAll_ints : ∀ ns ms : List Int, PyData.eqvAll (ns.map PyData.int) (ms.map PyData.int) = decide (ns = ms)
  | [], ms => by cases ms <;> simp [PyData.eqvAll]
  | n :: r, [] => by rw [List.map_nil, List.map_cons, PyData.eqvAll, decide_eq_false (List.cons_ne_nil n r)]
  | n :: r, m :: s => by
    rw [List.map_cons, List.map_cons, PyData.eqvAll, eqvAll_ints r s, PyData.eqv]
    by_cases h1 : n = m <;> by_cases h2 : r = s <;> simp [h1, h2]
theorem canLay_ints : ∀ ns : List Int, PyData.canLayAll0 (ns.map PyData.int) = true
  | [] => by rw [List.map_nil, PyData.canLayAll0]
  | n :: r => by simp [PyData.canLayAll0, PyData.canLay0, canLay_ints r]
theorem depth_ints : ∀ ns : List Int, PyData.depthAll (ns.map PyData.int) ≤ 1
  | [] => by rw [List.map_nil, PyData.depthAll]; exact Nat.zero_le 1
  | n :: r => by
    have := depth_ints r
    simp [PyData.depthAll, PyData.depth]
    omega
theorem shaped_list (ns : List Int) : SeqAt.shaped (.list (ns.map PyData.int)) = true := by
  have h := depth_ints ns
  refine Bool.and_eq_true_iff.mpr ⟨by simp [PyData.canLay0, canLay_ints], decide_eq_true ?_⟩
  have e : PyData.depth (.list (ns.map PyData.int)) ≤ PyData.depthAll (ns.map PyData.int) + 1 := by simp [PyData.depth]
  omega
theorem shaped_tuple (ns : List Int) : SeqAt.shaped (.tuple (ns.map PyData.int)) = true := by
  have h := depth_ints ns
  refine Bool.and_eq_true_iff.mpr ⟨by simp [PyData.canLay0, canLay_ints], decide_eq_true ?_⟩
  have e : PyData.depth (.tuple (ns.map PyData.int)) ≤ PyData.depthAll (ns.map PyData.int) + 1 := by simp [PyData.depth]
  omega
/-- a list's place and items -/
theorem lstOf_at {K : PySem.W.Frag} {ρ : Rh} {G : Sto} {H : Hp} {d : Dv} {v : V} {xs : List Dv} (rl : Rl K kx ρ G H) (e : Mi.lstOf G d = some xs) (r : DR K ρ H d v) : ∃ a vs, v = .ref a ∧ SqL K H a vs ∧ DRs K ρ H xs vs := by
  unfold Mi.lstOf at e
  split at e
  · cases e
    cases r with
    | fls h n r => exact ⟨_, _, rfl, SqL.of h, r⟩
  · cases e
    cases r with
    | scr h => exact ⟨_, _, rfl, h.sq, DRs.ints⟩
  · cases r with
    | ref ea =>
      split at e
      · rename_i eh
        cases e
        obtain ⟨vs, h1, r1⟩ := lst_at rl eh ea
        exact ⟨_, vs, rfl, SqL.of h1, r1⟩
      · cases e
  · cases e
def rEqs (K : PySem.W.Frag) : R2 := fun x y H Q => rEq x y H Q ∨ rEqD K x y H Q
def rNes (K : PySem.W.Frag) : R2 := fun x y H Q => rNe x y H Q ∨ rNeD K x y H Q
theorem op_eqs (hu : X.A.units + 64 < cLine) : OpR X (compareOp .Eq) (rEqs X.K) := OpR.or op_eq (op_eqD hu)
theorem op_nes (hu : X.A.units + 64 < cLine) : OpR X (compareOp .NotEq) (rNes X.K) := OpR.or op_ne (op_neD hu)
theorem sEq_ok {K : PySem.W.Frag} {ρ : Rh} {H : Hp} {x y : Dv} {v w : V} {r : Bool} (e : Mi.sEq x y = some r) (dx : DR K ρ H x v) (dy : DR K ρ H y w) : scal v w = true ∧ decide (v = w) = r := by
  unfold Mi.sEq at e
  split at e <;> first
    | (cases e; cases dx; cases dy; refine ⟨rfl, ?_⟩; simp; done)
    | (cases e; cases dx; cases dy; refine ⟨rfl, ?_⟩; rename_i a b; cases a <;> cases b <;> simp; done)
    | (cases e; cases dx; cases dy; refine ⟨rfl, ?_⟩; rename_i a b; by_cases h : a = b
       · simp [h]
       · have h2 : ¬ Str.ofString a = Str.ofString b := fun z => h (ofString_inj z)
         simp [h, h2])
    | cases e
theorem qEq_ok {K : PySem.W.Frag} {ρ : Rh} {G : Sto} {H : Hp} {x y : Dv} {v w : V} {r : Bool} (rl : Rl K kx ρ G H) (e : Mi.qEq G x y = some r) (dx : DR K ρ H x v) (dy : DR K ρ H y w) :
    ∃ d e, Dp K H v d ∧ Dp K H w e ∧ SeqAt.shaped d = true ∧ SeqAt.shaped e = true ∧ PyData.eqv d e = r := by
  unfold Mi.qEq at e
  split at e
  · split at e
    · rename_i p q ep eq
      cases e
      cases dx with
      | tup h1 r1 =>
        cases dy with
        | tup h2 r2 =>
          have v1 := ints_of ep r1
          have v2 := ints_of eq r2
          subst v1 v2
          exact ⟨_, _, .tup h1 (dpInts p), .tup h2 (dpInts q), shaped_tuple p, shaped_tuple q, by rw [PyData.eqv]; exact eqvAll_ints p q⟩
    · cases e
  · split at e
    · rename_i as bs ea eb
      split at e
      · rename_i p q ep eq
        cases e
        obtain ⟨a1, vs, rfl, h1, r1⟩ := lstOf_at rl ea dx
        obtain ⟨a2, ws, rfl, h2, r2⟩ := lstOf_at rl eb dy
        have v1 := ints_of ep r1
        have v2 := ints_of eq r2
        subst v1 v2
        exact ⟨_, _, .lst h1 (dpInts p), .lst h2 (dpInts q), shaped_list p, shaped_list q, by rw [PyData.eqv]; exact eqvAll_ints p q⟩
      · cases e
    · cases e
theorem b_eq : B2ok X kx (Mi.bEq false) (rEqs X.K) := by
  intro x y G d G' ρ H v w Q e rl dx dy k
  unfold Mi.bEq at e
  split at e
  · rename_i r er
    cases e
    obtain ⟨h1, h2⟩ := sEq_ok er dx dy
    refine .inl ⟨h1, ?_⟩
    rw [h2]
    have := k (.bl (r != false)) ρ H Gr.refl rl (.bl _)
    simpa using this
  · split at e
    · rename_i r er
      cases e
      obtain ⟨d1, e1, h1, h2, h3, h4, h5⟩ := qEq_ok rl er dx dy
      refine .inr ⟨d1, e1, h1, h2, h3, h4, ?_⟩
      rw [h5]
      have := k (.bl (r != false)) ρ H Gr.refl rl (.bl _)
      simpa using this
    · cases e
theorem b_ne : B2ok X kx (Mi.bEq true) (rNes X.K) := by
  intro x y G d G' ρ H v w Q e rl dx dy k
  unfold Mi.bEq at e
  split at e
  · rename_i r er
    cases e
    obtain ⟨h1, h2⟩ := sEq_ok er dx dy
    refine .inl ⟨h1, ?_⟩
    rw [h2]
    have := k (.bl (r != true)) ρ H Gr.refl rl (.bl _)
    simpa using this
  · split at e
    · rename_i r er
      cases e
      obtain ⟨d1, e1, h1, h2, h3, h4, h5⟩ := qEq_ok rl er dx dy
      refine .inr ⟨d1, e1, h1, h2, h3, h4, ?_⟩
      rw [h5]
      have := k (.bl (r != true)) ρ H Gr.refl rl (.bl _)
      simpa using this
    · cases e
end
end Ms

/-! PyS3: chains, tests, displays, built-ins, subscripts, slices, fields, calls. -/
namespace Ms
open PySem L2
open Mi (Dv MO Sto Sl Rs bnd ME MT MA MS MF Fl MG MGs MI)
section
variable {X : Cx} {kx : Kx} {e a b c o : Expr} {ma mb mc me mo : ME} {mt mt' : MT} {pos : Pos} {rest : List Expr}

/-! ### chains, and, or, not -/
theorem chain2 {f g : Mi.B2} {r r' : R2} (hf : B2ok X kx f r) (hg : B2ok X kx g r') {σ : St} {H : Hp} {Q : VK} (h : tM X.K kx (Mi.mChain f g ma mb mc) σ H Q) : tChain r r' (tM X.K kx ma) (tM X.K kx mb) (tM X.K kx mc) σ H Q := by
  obtain ⟨ρ, G, δ, d, G', rl, sr, e, k⟩ := h
  obtain ⟨x, G1, e1, e⟩ := Mi.bnd_eq e
  obtain ⟨y, G2, e2, e⟩ := Mi.bnd_eq e
  obtain ⟨z, G3, e3, e⟩ := Mi.bnd_eq e
  refine ⟨ρ, G, δ, x, G1, rl, sr, e1, fun v ρ1 H1 g1 r1 d1 => ⟨ρ1, G1, δ, y, G2, r1, sr.gr g1, e2, fun w ρ2 H2 g2 r2 d2 => ?_⟩⟩
  refine hf x y G2 z G3 ρ2 H2 v w _ e3 r2 (d1.gr g2) d2 fun u ρ3 H3 g3 r3 d3 => ?_
  split at e
  · obtain ⟨w', G4, e4, e⟩ := Mi.bnd_eq e
    cases d3
    refine ⟨true, rfl, ?_⟩
    rw [if_pos rfl]
    exact ⟨ρ3, G3, δ, w', G4, r3, sr.gr ((g1.trans g2).trans g3), e4, fun q ρ4 H4 g4 r4 d4 => hg y w' G4 d G' ρ4 H4 w q Q e r4 (d2.gr (g3.trans g4)) d4 fun z ρ' H' g r q => k z ρ' H' (((((g1.trans g2).trans g3).trans g4)).trans g) r q⟩
  · cases e
    cases d3
    refine ⟨false, rfl, ?_⟩
    rw [if_neg (fun z => Bool.false_ne_true z)]
    exact k _ ρ3 H3 ((g1.trans g2).trans g3) r3 (.bl false)
  · cases e
theorem m_chain {op op' : CmpOp} {f g : Mi.B2} {r r' : R2} (ho : OpR X (compareOp op) r) (ho' : OpR X (compareOp op') r') (hf : B2ok X kx f r) (hg : B2ok X kx g r') (ha : PE X a (tM X.K kx ma)) (hb : PE X b (tM X.K kx mb)) (hc : PE X c (tM X.K kx mc))
    (hm : lastMarks [op, op'] [b, c] = false := by with_unfolding_all rfl) : PE X (.Compare a [op, op'] [b, c] pos) (tM X.K kx (Mi.mChain f g ma mb mc)) := (pe_chain ho ho' ha hb hc hm).imp fun _ _ _ h => chain2 hf hg h
theorem m_chainT {op op' : CmpOp} {f g : Mi.B2} {r r' : R2} (ho : OpR X (compareOp op) r) (ho' : OpR X (compareOp op') r') (hf : B2ok X kx f r) (hg : B2ok X kx g r') (ha : PE X a (tM X.K kx ma)) (hb : PE X b (tM X.K kx mb)) (hc : PE X c (tM X.K kx mc))
    (hm : lastMarks [op, op'] [b, c] = false := by with_unfolding_all rfl) : PT X (.Compare a [op, op'] [b, c] pos) (tMT X.K kx (Mi.mTb (Mi.mChain f g ma mb mc))) := (pt_chain ho ho' ha hb hc hm).imp fun _ _ _ h => tTb (fun _ h => chain2 hf hg h) h
theorem m_one {op} (h : PE X a (tM X.K kx ma)) : PE X (.BoolOp op [a] pos) (tM X.K kx ma) := pe_one h
theorem m_and (ha : PE X a (tM X.K kx ma)) (hb : PE X (.BoolOp .And (b :: rest) pos) (tM X.K kx mb)) : PE X (.BoolOp .And (a :: b :: rest) pos) (tM X.K kx (Mi.mAnd ma mb)) := (pe_and ha hb).imp fun σ H Q ⟨ρ, G, δ, d, G', rl, sr, e, k⟩ => by
  obtain ⟨x, G1, e1, e⟩ := Mi.bnd_eq e
  refine ⟨ρ, G, δ, x, G1, rl, sr, e1, fun v ρ1 H1 g1 r1 d1 => ?_⟩
  split at e
  · cases d1
    refine ⟨true, rfl, ?_⟩
    rw [if_pos rfl]
    exact ⟨ρ1, G1, δ, d, G', r1, sr.gr g1, e, fun z ρ' H' g r q => k z ρ' H' (g1.trans g) r q⟩
  · cases e
    cases d1
    refine ⟨false, rfl, ?_⟩
    rw [if_neg (fun z => Bool.false_ne_true z)]
    exact k _ ρ1 H1 g1 r1 (.bl false)
  · cases e
theorem m_or (ha : PE X a (tM X.K kx ma)) (hb : PE X (.BoolOp .Or (b :: rest) pos) (tM X.K kx mb)) : PE X (.BoolOp .Or (a :: b :: rest) pos) (tM X.K kx (Mi.mOr ma mb)) := (pe_or ha hb).imp fun σ H Q ⟨ρ, G, δ, d, G', rl, sr, e, k⟩ => by
  obtain ⟨x, G1, e1, e⟩ := Mi.bnd_eq e
  refine ⟨ρ, G, δ, x, G1, rl, sr, e1, fun v ρ1 H1 g1 r1 d1 => ?_⟩
  split at e
  · cases e
    cases d1
    refine ⟨true, rfl, ?_⟩
    rw [if_pos rfl]
    exact k _ ρ1 H1 g1 r1 (.bl true)
  · cases d1
    refine ⟨false, rfl, ?_⟩
    rw [if_neg (fun z => Bool.false_ne_true z)]
    exact ⟨ρ1, G1, δ, d, G', r1, sr.gr g1, e, fun z ρ' H' g r q => k z ρ' H' (g1.trans g) r q⟩
  · cases e
theorem m_not (ha : PE X a (tM X.K kx ma)) : PE X (.UnaryOp .Not a pos) (tM X.K kx (Mi.mNot ma)) := (pe_not ha).imp fun σ H Q ⟨ρ, G, δ, d, G', rl, sr, e, k⟩ => by
  obtain ⟨x, G1, e1, e⟩ := Mi.bnd_eq e
  refine ⟨ρ, G, δ, x, G1, rl, sr, e1, fun v ρ1 H1 g1 r1 d1 => ?_⟩
  dsimp only at e
  split at e
  · cases e
    cases d1
    exact ⟨_, rfl, k _ ρ1 H1 g1 r1 (.bl _)⟩
  · cases e
theorem m_isN {neg : Bool} {op : CmpOp} (ho : op = if neg then .IsNot else .Is) (ha : PE X a (tM X.K kx ma)) {j p2} : PE X (.Compare a [op] [.Constant .none j p2] pos) (tM X.K kx (Mi.mIsN neg ma)) := by
  have fin : ∀ {σ H Q}, tM X.K kx (Mi.mIsN neg ma) σ H Q → tM X.K kx ma σ H fun x H1 => Q (.bl (decide (x = .non) != neg)) H1 := fun {σ H Q} ⟨ρ, G, δ, d, G', rl, sr, e, k⟩ => by
    obtain ⟨x, G1, e1, e⟩ := Mi.bnd_eq e
    refine ⟨ρ, G, δ, x, G1, rl, sr, e1, fun v ρ1 H1 g1 r1 d1 => ?_⟩
    cases e
    have z : Mi.isNon x = decide (v = .non) := by
      cases d1 <;> simp [Mi.isNon]
    rw [← z]
    exact k _ ρ1 H1 g1 r1 (.bl _)
  cases neg with
  | true =>
    cases ho
    refine (pe_cmpR op_notN ha pe_non (nomark _)).imp fun σ H Q h => ?_
    obtain ⟨ρ, G, δ, d, G', rl, sr, e, k⟩ := fin h
    exact ⟨ρ, G, δ, d, G', rl, sr, e, fun v ρ' H' g r q => ⟨rfl, by have := k v ρ' H' g r q; simpa using this⟩⟩
  | false =>
    cases ho
    refine (pe_cmpR op_isN ha pe_non (nomark _)).imp fun σ H Q h => ?_
    obtain ⟨ρ, G, δ, d, G', rl, sr, e, k⟩ := fin h
    exact ⟨ρ, G, δ, d, G', rl, sr, e, fun v ρ' H' g r q => ⟨rfl, by have := k v ρ' H' g r q; simpa using this⟩⟩

/-! ### tests -/
theorem m_val (ha : PE X a (tM X.K kx ma)) (he : ∀ whole, isTrue a X.env whole = (do let v ← whole; standAt a.pos; holding [v] (truthy v)) := by intro _; rfl) : PT X a (tMT X.K kx (Mi.mTb ma)) := (pt_val ha he).imp fun _ _ _ h => tTb (fun _ h => h) h
theorem m_isNT {neg : Bool} {op : CmpOp} (ho : op = if neg then .IsNot else .Is) (ha : PE X a (tM X.K kx ma)) {j p2} : PT X (.Compare a [op] [.Constant .none j p2] pos) (tMT X.K kx (Mi.mTb (Mi.mIsN neg ma))) := by
  have fin : ∀ {σ H Q}, tM X.K kx (Mi.mIsN neg ma) σ H Q → tM X.K kx ma σ H fun x H1 => Q (.bl (decide (x = .non) != neg)) H1 := fun {σ H Q} ⟨ρ, G, δ, d, G', rl, sr, e, k⟩ => by
    obtain ⟨x, G1, e1, e⟩ := Mi.bnd_eq e
    refine ⟨ρ, G, δ, x, G1, rl, sr, e1, fun v ρ1 H1 g1 r1 d1 => ?_⟩
    cases e
    have z : Mi.isNon x = decide (v = .non) := by
      cases d1 <;> simp [Mi.isNon]
    rw [← z]
    exact k _ ρ1 H1 g1 r1 (.bl _)
  cases neg with
  | true =>
    cases ho
    refine (pt_cmpR op_notN ha pe_non (nomark _)).imp fun σ H Q h => tTb (fun R h => ?_) h
    obtain ⟨ρ, G, δ, d, G', rl, sr, e, k⟩ := fin h
    exact ⟨ρ, G, δ, d, G', rl, sr, e, fun v ρ' H' g r q => ⟨rfl, by have := k v ρ' H' g r q; simpa using this⟩⟩
  | false =>
    cases ho
    refine (pt_cmpR op_isN ha pe_non (nomark _)).imp fun σ H Q h => tTb (fun R h => ?_) h
    obtain ⟨ρ, G, δ, d, G', rl, sr, e, k⟩ := fin h
    exact ⟨ρ, G, δ, d, G', rl, sr, e, fun v ρ' H' g r q => ⟨rfl, by have := k v ρ' H' g r q; simpa using this⟩⟩
theorem m_truth (ha : PE X a (tM X.K kx ma)) (he : ∀ whole, isTrue a X.env whole = (do let v ← whole; standAt a.pos; holding [v] (truthy v)) := by intro _; rfl) : PT X a (tMT X.K kx (Mi.mTru ma)) := (pt_truth ha he).imp fun σ H Q ⟨ρ, G, δ, d, G', rl, sr, e, k⟩ => by
  obtain ⟨x, G1, e1, e⟩ := Mi.bnd_eq e
  refine ⟨ρ, G, δ, x, G1, rl, sr, e1, fun v ρ1 H1 g1 r1 d1 => ?_⟩
  cases et : Mi.tru G1 x with
  | none => rw [et] at e; cases e
  | some bb =>
    rw [et] at e
    cases e
    refine ⟨d, ?_, k ρ1 H1 g1 r1⟩
    unfold Mi.tru at et
    split at et
    · cases et; cases d1; rfl
    · cases et; cases d1; rfl
    · cases et; cases d1; rfl
    · cases et
      cases d1 with
      | tup h r => exact .inr (.inl ⟨_, h, by rw [r.emp]⟩)
    · cases et
      cases d1 with
      | fls h n r => exact .inl ⟨_, SqL.of h, by rw [r.emp]⟩
    · cases d1 with
      | ref ea =>
        split at et
        · rename_i eh
          cases et
          obtain ⟨vs, h, r⟩ := lst_at r1 eh ea
          exact .inl ⟨_, SqL.of h, by rw [r.emp]⟩
        · rename_i eh
          cases et
          obtain ⟨vs, h, r⟩ := dct_at r1 eh ea
          refine .inr (.inr ⟨_, h, ?_⟩)
          cases r <;> rfl
        · cases et
    · cases et
theorem m_tand1 (ha : PT X a (tMT X.K kx mt)) : PW X (.BoolOp .And [a] pos) (tMT X.K kx mt) := pw_and1 ha
theorem m_tor1 (ha : PT X a (tMT X.K kx mt)) : PW X (.BoolOp .Or [a] pos) (tMT X.K kx mt) := pw_or1 ha
theorem m_tand (ha : PT X a (tMT X.K kx mt)) (hb : PW X (.BoolOp .And (b :: rest) pos) (tMT X.K kx mt')) : PW X (.BoolOp .And (a :: b :: rest) pos) (tMT X.K kx (Mi.mTand mt mt')) := (pw_and ha hb).imp fun σ H Q ⟨ρ, G, δ, d, G', rl, sr, e, k⟩ => by
  obtain ⟨x, G1, e1, e⟩ := Mi.bnd_eq e
  refine ⟨ρ, G, δ, x, G1, rl, sr, e1, fun ρ1 H1 g1 r1 => ?_⟩
  cases x with
  | true =>
    rw [if_pos rfl]
    exact ⟨ρ1, G1, δ, d, G', r1, sr.gr g1, by simpa using e, fun ρ' H' g r => k ρ' H' (g1.trans g) r⟩
  | false =>
    rw [if_neg (fun z => Bool.false_ne_true z)]
    have e' : (some (false, G1) : Rs Bool) = some (d, G') := by simpa using e
    cases e'
    exact k ρ1 H1 g1 r1
theorem m_tor (ha : PT X a (tMT X.K kx mt)) (hb : PW X (.BoolOp .Or (b :: rest) pos) (tMT X.K kx mt')) : PW X (.BoolOp .Or (a :: b :: rest) pos) (tMT X.K kx (Mi.mTor mt mt')) := (pw_or ha hb).imp fun σ H Q ⟨ρ, G, δ, d, G', rl, sr, e, k⟩ => by
  obtain ⟨x, G1, e1, e⟩ := Mi.bnd_eq e
  refine ⟨ρ, G, δ, x, G1, rl, sr, e1, fun ρ1 H1 g1 r1 => ?_⟩
  cases x with
  | true =>
    rw [if_pos rfl]
    have e' : (some (true, G1) : Rs Bool) = some (d, G') := by simpa using e
    cases e'
    exact k ρ1 H1 g1 r1
  | false =>
    rw [if_neg (fun z => Bool.false_ne_true z)]
    exact ⟨ρ1, G1, δ, d, G', r1, sr.gr g1, by simpa using e, fun ρ' H' g r => k ρ' H' (g1.trans g) r⟩
theorem m_tnot (ha : PT X a (tMT X.K kx mt)) : PT X (.UnaryOp .Not a pos) (tMT X.K kx (Mi.mTnot mt)) := (pt_not ha).imp fun σ H Q ⟨ρ, G, δ, d, G', rl, sr, e, k⟩ => by
  obtain ⟨x, G1, e1, e⟩ := Mi.bnd_eq e
  cases e
  exact ⟨ρ, G, δ, x, _, rl, sr, e1, fun ρ1 H1 g1 r1 => k ρ1 H1 g1 r1⟩
theorem m_if (hc : PT X c (tMT X.K kx mt)) (ha : PE X a (tM X.K kx ma)) (hb : PE X b (tM X.K kx mb)) : PE X (.IfExp c a b pos) (tM X.K kx (Mi.mIf mt ma mb)) := (pe_ifExp hc ha hb).imp fun σ H Q ⟨ρ, G, δ, d, G', rl, sr, e, k⟩ => by
  obtain ⟨x, G1, e1, e⟩ := Mi.bnd_eq e
  refine ⟨ρ, G, δ, x, G1, rl, sr, e1, fun ρ1 H1 g1 r1 => ?_⟩
  cases x with
  | true =>
    rw [if_pos rfl]
    exact ⟨ρ1, G1, δ, d, G', r1, sr.gr g1, by simpa using e, fun v ρ' H' g r q => k v ρ' H' (g1.trans g) r q⟩
  | false =>
    rw [if_neg (fun z => Bool.false_ne_true z)]
    exact ⟨ρ1, G1, δ, d, G', r1, sr.gr g1, by simpa using e, fun v ρ' H' g r q => k v ρ' H' (g1.trans g) r q⟩

/-! ### arguments, displays -/
variable {es : List Expr} {mas : MA}
theorem m_nil : PA X [] (tMA X.K kx Mi.mNil) := pa_nil.imp fun σ H Q ⟨ρ, G, δ, d, G', rl, sr, e, k⟩ => by
  cases e
  exact k [] ρ H Gr.refl rl .nil
theorem m_cons (ha : PE X e (tM X.K kx ma)) (hr : PA X es (tMA X.K kx mas)) (hs : starEach (e :: es) X.env = (false, eval e X.env) :: starEach es X.env := by rfl) : PA X (e :: es) (tMA X.K kx (Mi.mCons ma mas)) := (pa_cons ha hr hs).imp fun σ H Q ⟨ρ, G, δ, d, G', rl, sr, e, k⟩ => by
  obtain ⟨x, G1, e1, e⟩ := Mi.bnd_eq e
  obtain ⟨xs, G2, e2, e⟩ := Mi.bnd_eq e
  cases e
  exact ⟨ρ, G, δ, x, G1, rl, sr, e1, fun v ρ1 H1 g1 r1 d1 => ⟨ρ1, G1, δ, xs, _, r1, sr.gr g1, e2, fun vs ρ2 H2 g2 r2 d2 => k (v :: vs) ρ2 H2 (g1.trans g2) r2 (.cons (d1.gr g2) d2)⟩⟩
theorem m_tup {x1} (h : PA X es (tMA X.K kx mas)) : PE X (.Tuple es x1 pos) (tM X.K kx (Mi.mTup mas)) := (pe_tup h).imp fun σ H Q ⟨ρ, G, δ, d, G', rl, sr, e, k⟩ => by
  obtain ⟨xs, G1, e1, e⟩ := Mi.bnd_eq e
  refine ⟨ρ, G, δ, xs, G1, rl, sr, e1, fun vs ρ1 H1 g1 r1 d1 => ?_⟩
  split at e
  · rename_i hz
    cases e
    exact ⟨by rw [← d1.len, ← big_line]; exact hz, tup_ok r1 d1 fun z ρ' H' g r q => k z ρ' H' (g1.trans g) r q⟩
  · cases e
theorem m_lst (m : Bool) (h : PA X es (tMA X.K kx mas)) : PE X (.List es pos) (tM X.K kx (Mi.mLst m mas)) := (pe_lst h).imp fun σ H Q ⟨ρ, G, δ, d, G', rl, sr, e, k⟩ => by
  obtain ⟨xs, G1, e1, e⟩ := Mi.bnd_eq e
  refine ⟨ρ, G, δ, xs, G1, rl, sr, e1, fun vs ρ1 H1 g1 r1 d1 => ?_⟩
  split at e
  · rename_i hz
    have e' := Option.some.inj e
    refine ⟨by rw [← d1.len, ← big_line]; exact hz, mkL_ok (m := m) r1 d1 ?_⟩
    rw [e']
    exact fun z ρ' H' g r q => k z ρ' H' (g1.trans g) r q
  · cases e

/-! ### built-ins, by values -/
/-- a built-in of the mirror against a rule by values -/
def Bok (X : Cx) (kx : Kx) (f : List Dv → Sto → Rs Dv) (r : List V → Hp → VK → Prop) : Prop := ∀ (xs : List Dv) (G : Sto) (d : Dv) (G' : Sto) (ρ : Rh) (H : Hp) (vs : List V) (Q : VK), f xs G = some (d, G') → Rl X.K kx ρ G H → DRs X.K ρ H xs vs →
  (∀ z ρ' H', Gr ρ H ρ' H' → Rl X.K kx ρ' G' H' → DR X.K ρ' H' d z → Q z H') → r vs H Q
theorem cb {f : List Dv → Sto → Rs Dv} {r : List V → Hp → VK → Prop} (hf : Bok X kx f r) {σ : St} {H : Hp} {Q : VK} (h : tM X.K kx (Mi.mB f mas) σ H Q) : tCB r (tMA X.K kx mas) σ H Q := by
  obtain ⟨ρ, G, δ, d, G', rl, sr, e, k⟩ := h
  obtain ⟨xs, G1, e1, e⟩ := Mi.bnd_eq e
  exact ⟨ρ, G, δ, xs, G1, rl, sr, e1, fun vs ρ1 H1 g1 r1 d1 => hf xs G1 d G' ρ1 H1 vs Q e r1 d1 fun z ρ' H' g r q => k z ρ' H' (g1.trans g) r q⟩
theorem m_callB {x : Str} {p : Pos} {id : String} {f : List Dv → Sto → Rs Dv} {r : List V → Hp → VK → Prop} (hc : CallR X (.builtin id) r) (hf : Bok X kx f r) (hm : X.mg x = none) (hv : bootBuiltins x = some (.builtin id)) (ha : PA X (e :: es) (tMA X.K kx mas)) (hg : Gl X x := by rfl) (hn : x ≠ "__name__" := by decide) (hdb : (x == ("__debug__" : Str)) = false := by decide)
    (he : starEach (e :: es) X.env = (false, eval e X.env) :: starEach es X.env := by rfl) (hpl : (backTo pos (starEach es X.env)).any (·.1) = false := by rfl) : PE X (.Call (.Name x p) (e :: es) [] pos) (tM X.K kx (Mi.mB f mas)) :=
  (pe_callB hc hg hm hv ha hn hdb he hpl).imp fun _ _ _ h => cb hf h
theorem m_callT {x : Str} {p : Pos} {T : String} {f : List Dv → Sto → Rs Dv} {r : List V → Hp → VK → Prop} (hc : CallR X (.type T) r) (hf : Bok X kx f r) (hm : X.mg x = none) (hv : bootBuiltins x = some (.type T)) (ha : PA X (e :: es) (tMA X.K kx mas)) (hg : Gl X x := by rfl) (hn : x ≠ "__name__" := by decide) (hdb : (x == ("__debug__" : Str)) = false := by decide)
    (he : starEach (e :: es) X.env = (false, eval e X.env) :: starEach es X.env := by rfl) (hpl : (backTo pos (starEach es X.env)).any (·.1) = false := by rfl) : PE X (.Call (.Name x p) (e :: es) [] pos) (tM X.K kx (Mi.mB f mas)) :=
  (pe_callTy hc hg hm hv ha hn hdb he hpl).imp fun _ _ _ h => cb hf h
theorem f_len : Bok X kx Mi.fLen (fun xs H Q => ∃ p ys, xs = [.ref p] ∧ (SqL X.K H p ys ∨ SqT X.K H p ys) ∧ Q (.int ys.length) H) := by
  intro xs G d G' ρ H vs Q e rl ds k
  unfold Mi.fLen at e
  split at e
  · cases e
    cases ds with
    | cons a b =>
      cases b
      cases a with
      | tup h r =>
        refine ⟨_, _, rfl, .inr h, ?_⟩
        rw [← r.len]
        exact k _ ρ H Gr.refl rl (.int _)
  · split at e
    · rename_i ys el
      cases e
      cases ds with
      | cons a b =>
        cases b
        obtain ⟨p, ws, rfl, h, r⟩ := lstOf_at rl el a
        refine ⟨_, _, rfl, .inl h, ?_⟩
        rw [← r.len]
        exact k _ ρ H Gr.refl rl (.int _)
    · cases e
  · cases e
theorem f_int : Bok X kx Mi.fInt (fun xs H Q => (∃ i, xs = [.int i] ∧ Q (.int i) H) ∨ ∃ k, xs = [.bl k] ∧ Q (.int (if k then 1 else 0)) H) := by
  intro xs G d G' ρ H vs Q e rl ds k
  unfold Mi.fInt at e
  split at e
  · cases e
    cases ds with
    | cons a b =>
      cases b
      cases a
      exact .inl ⟨_, rfl, k _ ρ H Gr.refl rl (.int _)⟩
  · cases e
theorem f_max : Bok X kx Mi.fMax (fun xs H Q => ∃ i j, xs = [.int i, .int j] ∧ Q (.int (if j > i then j else i)) H) := by
  intro xs G d G' ρ H vs Q e rl ds k
  unfold Mi.fMax at e
  split at e
  · cases e
    cases ds with
    | cons a b =>
      cases b with
      | cons c t =>
        cases t
        cases a
        cases c
        exact ⟨_, _, rfl, k _ ρ H Gr.refl rl (.int _)⟩
  · cases e
theorem f_min : Bok X kx Mi.fMin (fun xs H Q => ∃ i j, xs = [.int i, .int j] ∧ Q (.int (if j < i then j else i)) H) := by
  intro xs G d G' ρ H vs Q e rl ds k
  unfold Mi.fMin at e
  split at e
  · cases e
    cases ds with
    | cons a b =>
      cases b with
      | cons c t =>
        cases t
        cases a
        cases c
        exact ⟨_, _, rfl, k _ ρ H Gr.refl rl (.int _)⟩
  · cases e
theorem f_tuple : Bok X kx Mi.fTuple (fun xs H Q => ∃ p ys, xs = [.ref p] ∧ ((SqL X.K H p ys ∧ ∀ l, H l = none → Q (.ref l) (upd H l (.tup ys))) ∨ (SqT X.K H p ys ∧ Q (.ref p) H))) := by
  intro xs G d G' ρ H vs Q e rl ds k
  unfold Mi.fTuple at e
  split at e
  · cases e
    cases ds with
    | cons a b =>
      cases b
      cases a with
      | tup h r => exact ⟨_, _, rfl, .inr ⟨h, k _ ρ H Gr.refl rl (.tup h r)⟩⟩
  · rename_i x _
    cases el : Mi.lstOf G x with
    | none => rw [el] at e; cases e
    | some ys =>
      rw [el] at e
      cases e
      cases ds with
      | cons a b =>
        cases b
        obtain ⟨p, ws, rfl, h, r⟩ := lstOf_at rl el a
        exact ⟨_, _, rfl, .inl ⟨h, tup_ok rl r k⟩⟩
  · cases e
theorem seqOf_at {K : PySem.W.Frag} {ρ : Rh} {G : Sto} {H : Hp} {d : Dv} {v : V} {xs : List Dv} (rl : Rl K kx ρ G H) (e : Mi.seqOf G d = some xs) (r : DR K ρ H d v) : ∃ a vs, v = .ref a ∧ (SqL K H a vs ∨ SqT K H a vs) ∧ DRs K ρ H xs vs := by
  unfold Mi.seqOf at e
  split at e
  · cases e
    cases r with
    | tup h r => exact ⟨_, _, rfl, .inr h, r⟩
  · obtain ⟨a, vs, h1, h2, h3⟩ := lstOf_at rl e r
    exact ⟨a, vs, h1, .inl h2, h3⟩
theorem f_list (m : Bool) : Bok X kx (Mi.fList m) (fun xs H Q => ∃ p ys, xs = [.ref p] ∧ (SqL X.K H p ys ∨ SqT X.K H p ys) ∧ ∀ l, H l = none → Q (.ref l) (upd H l (.lst ys))) := by
  intro xs G d G' ρ H vs Q e rl ds k
  unfold Mi.fList at e
  split at e
  · rename_i x
    cases el : Mi.seqOf G x with
    | none => rw [el] at e; cases e
    | some ys =>
      rw [el] at e
      have e' := Option.some.inj e
      cases ds with
      | cons a b =>
        cases b
        obtain ⟨p, ws, rfl, h, r⟩ := seqOf_at rl el a
        refine ⟨_, _, rfl, h, mkL_ok (m := m) rl r ?_⟩
        dsimp only at e'
        rw [e']
        exact k
  · cases e
/-! ### isinstance -/
/-- the class that a written type means -/
def tyS : Mi.Ty → String
  | .int => "int" | .bool => "bool" | .tuple => "tuple" | .str => "str" | .list => "list" | .cls _ => ""
theorem m_isI {t : Mi.Ty} {y : Str} {p p2 : Pos} (ht : ∀ c, t ≠ .cls c) (hm : X.mg "isinstance" = none) (hmT : X.mg y = none) (hb : bootBuiltins y = some (.type (tyS t))) (ha : PE X a (tM X.K kx ma))
    (hg : Gl X "isinstance" := by rfl) (hgT : Gl X y := by rfl) (hny : y ≠ "__name__" := by decide) (hdy : (y == ("__debug__" : Str)) = false := by decide)
    (he : starEach [a, .Name y p2] X.env = (false, eval a X.env) :: starEach [.Name y p2] X.env := by rfl) (hpl : (backTo pos (starEach [.Name y p2] X.env)).any (·.1) = false := by rfl) (hs : starEach [.Name y p2] X.env = (false, eval (.Name y p2) X.env) :: starEach [] X.env := by rfl) :
    PE X (.Call (.Name "isinstance" p) [a, .Name y p2] [] pos) (tM X.K kx (Mi.mIsI t ma)) := by
  refine (pe_callB call_isi hg hm (by decide +kernel) (pa_cons ha (pa_cons (pe_bltn (v := .ty (tyS t)) hgT hmT hb rfl hny hdy) pa_nil hs) he) (by decide) (by decide) he hpl).imp fun σ H Q ⟨ρ, G, δ, d, G', rl, sr, e, k⟩ => ?_
  obtain ⟨x, G1, e1, e⟩ := Mi.bnd_eq e
  refine ⟨ρ, G, δ, x, G1, rl, sr, e1, fun v ρ1 H1 g1 r1 d1 => ?_⟩
  dsimp only at e
  cases ei : Mi.isI t G1 x with
  | none => rw [ei] at e; cases e
  | some bb =>
    rw [ei] at e
    cases e
    have fin := k (.bl bb) ρ1 H1 g1 r1 (.bl bb)
    have go : ∀ {s : String}, TyX X.K H1 v (.type s) → kitB s (tyS t) = some bb → rIsi X.K [v, .ty (tyS t)] H1 Q := fun ty hk => ⟨v, .ty (tyS t), _, .type (tyS t), bb, rfl, .ty _, ty, kit_ty hk, fin⟩
    show rIsi X.K [v, .ty (tyS t)] H1 Q
    unfold Mi.isI at ei
    split at ei
    · cases ei
      cases d1
      exact go (.base .non) (by cases t <;> first | decide +kernel | exact absurd rfl (ht _))
    · cases ei
      cases d1
      exact go (.base (.bl _)) (by cases t <;> first | decide +kernel | exact absurd rfl (ht _))
    · cases ei
      cases d1
      exact go (.base (.int _)) (by cases t <;> first | decide +kernel | exact absurd rfl (ht _))
    · cases ei
      cases d1
      exact go (.base (.str _)) (by cases t <;> first | decide +kernel | exact absurd rfl (ht _))
    · cases ei
      cases d1 with
      | tup h r =>
        have hk : kitB "tuple" (tyS t) = some (t == .tuple) := by cases t <;> first | decide +kernel | exact absurd rfl (ht _)
        rcases h with (h | ⟨o, h⟩) | ⟨o, its, n, h1, h2, _⟩
        · exact go (.base (.tup h)) hk
        · exact go (.fTuple h) hk
        · exact go (.kTuple h1 h2) hk
    · cases ei
      cases d1 with
      | fls h n r => exact go (.base (.lst h)) (by cases t <;> first | decide +kernel | exact absurd rfl (ht _))
    · cases ei
    · cases ei
    · cases ei
    · cases ei
    · cases d1 with
      | ref ea =>
        split at ei
        · rename_i eh
          cases ei
          obtain ⟨vs, h, r⟩ := lst_at r1 eh ea
          exact go (.base (.lst h)) (by cases t <;> first | decide +kernel | exact absurd rfl (ht _))
        · rename_i eh
          split at ei
          · cases ei
          · cases ei
            obtain ⟨vs, h, r⟩ := dct_at r1 eh ea
            exact go (.base (.dK h)) (by cases t <;> first | decide +kernel | exact absurd rfl (ht _))
        · split at ei
          · exact absurd rfl (ht _)
          · cases ei
        · cases ei
end
end Ms

/-! PyS3b: all, any, methods of lists and dicts, subscripts, slices, fields, dict displays. -/
namespace Ms
open PySem L2
open Mi (Dv MO Sto Sl Rs bnd ME MT MA MS MF Fl MG MGs MI)
theorem bools_of {K : PySem.W.Frag} {ρ : Rh} {H : Hp} : ∀ {ds : List Dv} {vs : List V} {bs : List Bool}, Mi.bools ds = some bs → DRs K ρ H ds vs → vs = bs.map V.bl
  | [], _, _, e, .nil => by
    cases e
    rfl
  | .bl i :: r, _, ns, e, .cons a b => by
    unfold Mi.bools at e
    cases er : Mi.bools r with
    | none => rw [er] at e; cases e
    | some ms =>
      rw [er] at e
      cases e
      cases a
      rw [List.map_cons, bools_of er b]
  | .non :: _, _, _, e, _ => nomatch e
  | .int _ :: _, _, _, e, _ => nomatch e
  | .str _ :: _, _, _, e, _ => nomatch e
  | .tup _ :: _, _, _, e, _ => nomatch e
  | .fls _ :: _, _, _, e, _ => nomatch e
  | .scr _ :: _, _, _, e, _ => nomatch e
  | .ref _ :: _, _, _, e, _ => nomatch e
section
variable {X : Cx} {kx : Kx} {e a b c o : Expr} {ma mb mc me mo : ME} {mt mt' : MT} {pos : Pos} {rest es : List Expr} {mas : MA}
theorem f_all : Bok X kx Mi.fAll (rAll X.K) := by
  intro xs G d G' ρ H vs Q e rl ds k
  unfold Mi.fAll at e
  split at e
  · split at e
    · rename_i ys el
      cases eb : Mi.bools ys with
      | none => rw [eb] at e; cases e
      | some bs =>
        rw [eb] at e
        cases e
        cases ds with
        | cons a b =>
          cases b
          obtain ⟨p, ws, rfl, h, r⟩ := lstOf_at rl el a
          have ew := bools_of eb r
          subst ew
          exact ⟨p, bs, rfl, h, k _ ρ H Gr.refl rl (.bl _)⟩
    · cases e
  · cases e
theorem f_any : Bok X kx Mi.fAny (rAny X.K) := by
  intro xs G d G' ρ H vs Q e rl ds k
  unfold Mi.fAny at e
  split at e
  · split at e
    · rename_i ys el
      cases eb : Mi.bools ys with
      | none => rw [eb] at e; cases e
      | some bs =>
        rw [eb] at e
        cases e
        cases ds with
        | cons a b =>
          cases b
          obtain ⟨p, ws, rfl, h, r⟩ := lstOf_at rl el a
          have ew := bools_of eb r
          subst ew
          exact ⟨p, bs, rfl, h, k _ ρ H Gr.refl rl (.bl _)⟩
    · cases e
  · cases e
/-! ### list methods -/
theorem m_append {apos : Pos} (ho : PE X o (tM X.K kx mo)) (ha : PE X a (tM X.K kx ma)) (hbase : attributeBase o "append" X.env (eval o X.env) = eval o X.env := by rfl)
    (hfew : ((backTo pos (starEach [a] X.env)).all (fun x => !x.1) && (backToKw pos (keywordEach [] X.env)).all (fun x => x.1.isSome) && decide (([a] : List Expr).length + ([] : List Keyword).length + (if ([] : List Keyword).isEmpty then 0 else 1) < 30)) = true := by rfl)
    (hline : (apos.endLine == pos.line) = true := by rfl) (hs : starEach [a] X.env = (false, eval a X.env) :: starEach [] X.env := by rfl) (hplain : (backTo pos (starEach [] X.env)).any (·.1) = false := by rfl) :
    PE X (.Call (.Attribute o "append" apos) [a] [] pos) (tM X.K kx (Mi.mAppend mo ma)) :=
  (pe_bm PySem.F.plainAttrs_list PySem.F.slot_list_append PySem.F.type_list_append mt_append ho (pa_cons ha pa_nil hs) hbase hfew hline hs hplain).imp fun σ H Q ⟨ρ, G, δ, d, G', rl, sr, e, k⟩ => by
  obtain ⟨x, G1, e1, e⟩ := Mi.bnd_eq e
  obtain ⟨y, G2, e2, e⟩ := Mi.bnd_eq e
  refine ⟨ρ, G, δ, x, G1, rl, sr, e1, fun v ρ1 H1 g1 r1 d1 => ?_⟩
  cases x with
  | ref h =>
    dsimp only at e
    split at e
    · rename_i z xs eh1 eh2
      split at e
      · rename_i hz
        cases e
        cases d1 with
        | @ref _ ad ea =>
          obtain ⟨vs1, h1, _⟩ := lst_at r1 eh1 ea
          refine ⟨.inl ⟨rfl, _, SqL.of h1⟩, ρ1, G1, δ, y, G2, r1, sr.gr g1, e2, fun w ρ2 H2 g2 r2 d2 => ?_⟩
          have ea2 : ρ2.r[h]? = some ad := by
            have q := (DR.ref (K := X.K) (H := H1) ea).gr g2
            cases q with
            | ref q => exact q
          obtain ⟨vs, h2, rv⟩ := lst_at r2 eh2 ea2
          refine ⟨ad, vs, w, rfl, rfl, h2, by rw [← rv.len, ← big_line]; exact hz, ?_⟩
          obtain ⟨g3, r3⟩ := r2.wr (o := .lst (vs ++ [w])) (m := .lst (xs ++ [y])) ea2 fun g => .lst upd_same ((rv.app (.cons d2 .nil)).gr g)
          exact k .non _ _ ((g1.trans g2).trans g3) r3 .non
      · cases e
    · cases e
  | _ => cases e
theorem m_pop {apos : Pos} (ho : PE X o (tM X.K kx mo)) (hbase : attributeBase o "pop" X.env (eval o X.env) = eval o X.env := by rfl) (hline : (apos.endLine == pos.line) = true := by rfl) :
    PE X (.Call (.Attribute o "pop" apos) [] [] pos) (tM X.K kx (Mi.mPop mo)) :=
  (pe_bm0 PySem.F.plainAttrs_list PySem.F.slot_list_pop PySem.F.type_list_pop mt_pop ho hbase hline).imp fun σ H Q ⟨ρ, G, δ, d, G', rl, sr, e, k⟩ => by
  obtain ⟨x, G1, e1, e⟩ := Mi.bnd_eq e
  refine ⟨ρ, G, δ, x, G1, rl, sr, e1, fun v ρ1 H1 g1 r1 d1 => ?_⟩
  cases x with
  | ref h =>
    dsimp only at e
    split at e
    · rename_i xs eh
      split at e
      · rename_i y ey
        cases e
        cases d1 with
        | @ref _ ad ea =>
          obtain ⟨vs, h1, rv⟩ := lst_at r1 eh ea
          have ey' : xs[xs.length - 1]? = some d := by rw [← List.getLast?_eq_getElem?]; exact ey
          obtain ⟨w, hw, dw⟩ := rv.get ey'
          refine ⟨.inl ⟨rfl, _, SqL.of h1⟩, ad, vs, w, rfl, rfl, h1, by rw [← rv.len]; exact hw, ?_⟩
          have rd : DRs X.K ρ1 H1 xs.dropLast vs.dropLast := by
            rw [List.dropLast_eq_take, List.dropLast_eq_take, rv.len]
            exact rv.take _
          obtain ⟨g3, r3⟩ := r1.wr (o := .lst vs.dropLast) (m := .lst xs.dropLast) ea fun g => .lst upd_same (rd.gr g)
          exact k w _ _ (g1.trans g3) r3 (dw.gr g3)
      · cases e
    · cases e
  | _ => cases e
/-! ### dicts -/
theorem kOf_v {K : PySem.W.Frag} {ρ : Rh} {H : Hp} {d : Dv} {v : V} {k : Mi.Key} (e : Mi.kOf d = some k) (r : DR K ρ H d v) : v = kV (kK k) := by
  unfold Mi.kOf at e
  split at e
  · cases e
    cases r
    rfl
  · cases e
    cases r
    rfl
  · cases e
theorem look_ok {K : PySem.W.Frag} {ρ : Rh} {H : Hp} {k : Mi.Key} : ∀ {kvs : List (Mi.Key × Dv)} {ks : List (L2.Key × V)}, KR K ρ H kvs ks →
    (∀ d, Mi.look kvs k = some d → ∃ v, valV ks (kK k) = some v ∧ DR K ρ H d v) ∧ (Mi.look kvs k = none → valV ks (kK k) = none)
  | _, _, .nil => ⟨(fun d e => nomatch e), fun _ => rfl⟩
  | (j, x) :: r, (j', v) :: r', .cons ⟨h1, h2⟩ t => by
    obtain ⟨i1, i2⟩ := look_ok (k := k) t
    have h1' : j' = kK j := h1
    subst h1'
    by_cases hj : j = k
    · subst hj
      have e1 : Mi.look ((j, x) :: r) j = some x := by simp [Mi.look, List.find?_cons]
      have e2 : valV ((kK j, v) :: r') (kK j) = some v := valV_pos rfl
      refine ⟨fun d e => ?_, fun e => ?_⟩
      · rw [e1] at e
        cases e
        exact ⟨v, e2, h2⟩
      · rw [e1] at e
        cases e
    · have hj' : ¬ kK j = kK k := fun z => hj (kK_inj z)
      have e1 : Mi.look ((j, x) :: r) k = Mi.look r k := by simp [Mi.look, List.find?_cons, hj]
      have e2 : valV ((kK j, v) :: r') (kK k) = valV r' (kK k) := valV_neg hj'
      rw [e1, e2]
      exact ⟨i1, i2⟩
theorem any_ok {K : PySem.W.Frag} {ρ : Rh} {H : Hp} {k : Mi.Key} : ∀ {kvs : List (Mi.Key × Dv)} {ks : List (L2.Key × V)}, KR K ρ H kvs ks →
    (kvs.any fun kv => decide (kv.1 = k)) = (ks.any fun kv => decide (kv.1 = kK k))
  | _, _, .nil => rfl
  | (j, x) :: r, (j', v) :: r', .cons ⟨h1, h2⟩ t => by
    have h1' : j' = kK j := h1
    subst h1'
    rw [List.any_cons, List.any_cons, any_ok t]
    have z : decide (j = k) = decide (kK j = kK k) := by
      by_cases hj : j = k
      · subst hj
        simp
      · have hj' : ¬ kK j = kK k := fun z => hj (kK_inj z)
        simp [hj, hj']
    show (decide (j = k) || _) = (decide (kK j = kK k) || _)
    rw [z]
theorem put_ok {K : PySem.W.Frag} {ρ : Rh} {H : Hp} {k : Mi.Key} {d : Dv} {v : V} {kvs : List (Mi.Key × Dv)} {ks : List (L2.Key × V)} (r : KR K ρ H kvs ks) (q : DR K ρ H d v) : KR K ρ H (Mi.put kvs k d) (putK ks (kK k) v) := by
  have e1 : putK ks (kK k) v = if (ks.any fun kv => decide (kv.1 = kK k)) = true then ks.map fun kv => if kv.1 = kK k then (kv.1, v) else kv else ks ++ [(kK k, v)] := rfl
  rw [e1]
  unfold Mi.put
  rw [any_ok r]
  split
  · have m : ∀ {kvs : List (Mi.Key × Dv)} {ks : List (L2.Key × V)}, KR K ρ H kvs ks → KR K ρ H (kvs.map fun kv => if kv.1 = k then (kv.1, d) else kv) (ks.map fun kv => if kv.1 = kK k then (kv.1, v) else kv) := by
      intro kvs ks r
      induction r with
      | nil => exact .nil
      | @cons a as b bs h t ih =>
        obtain ⟨h1, h2⟩ := h
        refine .cons ?_ ih
        dsimp only
        by_cases hj : a.1 = k
        · rw [if_pos hj, if_pos (by rw [h1, hj])]
          exact ⟨h1, q⟩
        · rw [if_neg hj, if_neg (fun z => hj (kK_inj (h1 ▸ z)))]
          exact ⟨h1, h2⟩
    exact m r
  · exact AR.app r (.cons ⟨rfl, q⟩ .nil)
theorem kr_isD {K : PySem.W.Frag} {ρ : Rh} {G : Sto} {H : Hp} {h : Nat} {a : Addr} {kvs : List (Mi.Key × Dv)} (rl : Rl K kx ρ G H) (e : G[h]? = some (.dct kvs)) (ea : ρ.r[h]? = some a) : IsD H a := by
  obtain ⟨ks, h1, _⟩ := dct_at rl e ea
  exact .inl ⟨ks, .inl h1⟩
theorem ref_gr {K : PySem.W.Frag} {ρ ρ' : Rh} {H H' : Hp} {h : Nat} {a : Addr} (g : Gr ρ H ρ' H') (e : ρ.r[h]? = some a) : ρ'.r[h]? = some a := by
  obtain ⟨t, z⟩ := g.pre.1
  rw [z, List.getElem?_append_left (List.getElem?_eq_some_iff.mp e).1]
  exact e
theorem m_get2 {k x : Expr} {mk mx : ME} {apos : Pos} (hu : X.A.units + 1 < cLine) (ho : PE X o (tM X.K kx mo)) (hk : PE X k (tM X.K kx mk)) (hx : PE X x (tM X.K kx mx)) (m : M2 X o "get" apos k x pos := by exact ⟨rfl, rfl, rfl, rfl⟩) :
    PE X (.Call (.Attribute o "get" apos) [k, x] [] pos) (tM X.K kx (Mi.mGet2 mo mk mx)) := (pe_dget2 hu ho hk hx m).imp fun σ H Q ⟨ρ, G, δ, d, G', rl, sr, e, q⟩ => by
  obtain ⟨xo, G1, e1, e⟩ := Mi.bnd_eq e
  obtain ⟨y, G2, e2, e⟩ := Mi.bnd_eq e
  obtain ⟨z, G3, e3, e⟩ := Mi.bnd_eq e
  refine ⟨ρ, G, δ, xo, G1, rl, sr, e1, fun v ρ1 H1 g1 r1 d1 => ?_⟩
  cases xo with
  | ref h =>
    dsimp only at e
    split at e
    · rename_i kv1 kvs ky eh1 eh3 ek
      cases e
      cases d1 with
      | @ref _ ad ea =>
        refine ⟨ad, rfl, kr_isD r1 eh1 ea, ρ1, G1, δ, y, G2, r1, sr.gr g1, e2, fun w ρ2 H2 g2 r2 d2 => ⟨ρ2, G2, δ, z, _, r2, sr.gr (g1.trans g2), e3, fun u ρ3 H3 g3 r3 d3 => ?_⟩⟩
        have ew := kOf_v ek d2
        subst ew
        obtain ⟨ks, h3, kr⟩ := dct_at r3 eh3 (ref_gr (K := X.K) (g2.trans g3) ea)
        obtain ⟨i1, i2⟩ := look_ok (k := ky) kr
        refine ⟨_, DGet.k h3, ?_⟩
        cases el : Mi.look kvs ky with
        | none =>
          rw [i2 el]
          rw [el] at q
          exact q u ρ3 H3 ((g1.trans g2).trans g3) r3 d3
        | some dd =>
          obtain ⟨vv, hv, rv⟩ := i1 dd el
          rw [hv]
          rw [el] at q
          exact q vv ρ3 H3 ((g1.trans g2).trans g3) r3 rv
    · cases e
  | _ => cases e
theorem m_get1 {k : Expr} {mk : ME} {apos : Pos} (hu : X.A.units + 1 < cLine) (ho : PE X o (tM X.K kx mo)) (hk : PE X k (tM X.K kx mk)) (m : M1 X o "get" apos k pos := by exact ⟨rfl, rfl, rfl, rfl⟩) :
    PE X (.Call (.Attribute o "get" apos) [k] [] pos) (tM X.K kx (Mi.mGet1 mo mk)) := (pe_dget1 hu ho hk m).imp fun σ H Q ⟨ρ, G, δ, d, G', rl, sr, e, q⟩ => by
  obtain ⟨xo, G1, e1, e⟩ := Mi.bnd_eq e
  obtain ⟨y, G2, e2, e⟩ := Mi.bnd_eq e
  refine ⟨ρ, G, δ, xo, G1, rl, sr, e1, fun v ρ1 H1 g1 r1 d1 => ?_⟩
  cases xo with
  | ref h =>
    dsimp only at e
    split at e
    · rename_i kv1 kvs ky eh1 eh3 ek
      cases e
      cases d1 with
      | @ref _ ad ea =>
        refine ⟨ad, rfl, kr_isD r1 eh1 ea, ρ1, G1, δ, y, _, r1, sr.gr g1, e2, fun w ρ2 H2 g2 r2 d2 => ?_⟩
        have ew := kOf_v ek d2
        subst ew
        obtain ⟨ks, h3, kr⟩ := dct_at r2 eh3 (ref_gr (K := X.K) g2 ea)
        obtain ⟨i1, i2⟩ := look_ok (k := ky) kr
        refine ⟨_, DGet.k h3, ?_⟩
        cases el : Mi.look kvs ky with
        | none =>
          rw [i2 el]
          rw [el] at q
          exact q .non ρ2 H2 (g1.trans g2) r2 .non
        | some dd =>
          obtain ⟨vv, hv, rv⟩ := i1 dd el
          rw [hv]
          rw [el] at q
          exact q vv ρ2 H2 (g1.trans g2) r2 rv
    · cases e
  | _ => cases e
/-! ### subscripts -/
theorem ixN_eq : Mi.ixN = L2.ixN := rfl
theorem atI_ok {K : PySem.W.Frag} {ρ : Rh} {H : Hp} {xs : List Dv} {vs : List V} {i : Int} {d : Dv} (r : DRs K ρ H xs vs) (e : Mi.atI xs i = some d) : ∃ v, L2.atI vs i = some v ∧ DR K ρ H d v := by
  unfold Mi.atI at e
  unfold L2.atI
  rw [ixN_eq, r.len] at e
  cases ei : L2.ixN vs.length i with
  | none => rw [ei] at e; cases e
  | some j =>
    rw [ei] at e
    exact r.get e
theorem m_sub (hu : X.A.units + 1 < cLine) (ha : PE X a (tM X.K kx ma)) (hb : PE X b (tM X.K kx mb)) (hs : PlainIx b := by exact fun _ _ => rfl) : PE X (.Subscript a b pos) (tM X.K kx (Mi.m2 Mi.bSubs ma mb)) :=
  (PE.or (pe_ix (IxR.or ix_list ix_tup) ha hb hs) (pe_dget hu ha hb hs)).imp fun σ H Q ⟨ρ, G, δ, d, G', rl, sr, e, k⟩ => by
  obtain ⟨x, G1, e1, e⟩ := Mi.bnd_eq e
  obtain ⟨y, G2, e2, e⟩ := Mi.bnd_eq e
  unfold Mi.bSubs at e
  split at e
  · rename_i rr eg
    cases e
    refine .inr ⟨ρ, G, δ, x, G1, rl, sr, e1, fun v ρ1 H1 g1 r1 d1 => ⟨ρ1, G1, δ, y, G2, r1, sr.gr g1, e2, fun w ρ2 H2 g2 r2 d2 => ?_⟩⟩
    have d1' := d1.gr g2
    unfold Mi.bGet at eg
    split at eg
    · split at eg
      · rename_i kvs eh
        split at eg
        · rename_i ky ek
          cases d1' with
          | ref ea =>
            have ew := kOf_v ek d2
            subst ew
            obtain ⟨ks, h3, kr⟩ := dct_at r2 eh ea
            cases el : Mi.look kvs ky with
            | none => rw [el] at eg; cases eg
            | some dd =>
              rw [el] at eg
              cases eg
              obtain ⟨vv, hv, rv⟩ := (look_ok (k := ky) kr).1 _ el
              have dg := DGet.k (k := kK ky) h3
              rw [hv] at dg
              exact ⟨_, vv, rfl, dg, k vv ρ2 H2 (g1.trans g2) r2 rv⟩
        · cases eg
      · rename_i kvs eh
        split at eg
        · rename_i ky ek
          cases d1' with
          | ref ea =>
            have ew := kOf_v ek d2
            subst ew
            obtain ⟨ks, o, h3, kr⟩ := fdc_at r2 eh ea
            cases el : Mi.look kvs ky with
            | none => rw [el] at eg; cases eg
            | some dd =>
              rw [el] at eg
              cases eg
              obtain ⟨vv, hv, rv⟩ := (look_ok (k := ky) kr).1 _ el
              exact ⟨_, vv, rfl, .inl ⟨ks, kK ky, .inr ⟨o, h3⟩, rfl, hv.symm⟩, k vv ρ2 H2 (g1.trans g2) r2 rv⟩
        · cases eg
      · cases eg
    · cases eg
  · refine .inl ⟨ρ, G, δ, x, G1, rl, sr, e1, fun v ρ1 H1 g1 r1 d1 => ⟨ρ1, G1, δ, y, G2, r1, sr.gr g1, e2, fun w ρ2 H2 g2 r2 d2 => ?_⟩⟩
    have d1' := d1.gr g2
    unfold Mi.bIx at e
    cases es : Mi.seqOf G2 x with
    | none => rw [es] at e; cases e
    | some xs =>
      rw [es] at e
      cases y with
      | int i =>
        dsimp only at e
        cases ei : Mi.atI xs i with
        | none => rw [ei] at e; cases e
        | some dd =>
          rw [ei] at e
          cases e
          obtain ⟨p, ws, rfl, h, r⟩ := seqOf_at r2 es d1'
          obtain ⟨vv, h2, rv⟩ := atI_ok r ei
          cases d2
          rcases h with h | h
          · exact .inl ⟨_, _, _, vv, rfl, rfl, h, h2, k vv ρ2 H2 (g1.trans g2) r2 rv⟩
          · exact .inr ⟨_, _, _, vv, rfl, rfl, h, h2, k vv ρ2 H2 (g1.trans g2) r2 rv⟩
      | _ => cases e
/-! ### slices -/
def tMO (K : PySem.W.Frag) (kx : Kx) (m : Option ME) : TO := fun σ H Q => ∃ (ρ : Rh) (G : Sto) (δ : Sl) (d : Option Int) (G' : Sto), Rl K kx ρ G H ∧ Sr K ρ H δ σ ∧ Mi.mO m δ G = some (d, G') ∧
  ∀ ρ' H', Gr ρ H ρ' H' → Rl K kx ρ' G' H' → Q d H'
theorem _root_.L2.PO.imp {X : Cx} {e : Option Expr} {t u : TO} (h : PO X e t) (i : ∀ σ H Q, u σ H Q → t σ H Q) : PO X e u := ⟨fun pins s σ H Q I q => h.run pins s σ H Q I (i σ H Q q)⟩
theorem mo_none : PO X none (tMO X.K kx none) := po_none.imp fun σ H Q ⟨ρ, G, δ, d, G', rl, sr, e, k⟩ => by
  cases e
  exact k ρ H Gr.refl rl
theorem mo_some (ha : PE X a (tM X.K kx ma)) : PO X (some a) (tMO X.K kx (some ma)) := (po_some ha).imp fun σ H Q ⟨ρ, G, δ, d, G', rl, sr, e, k⟩ => by
  obtain ⟨x, G1, e1, e⟩ := Mi.bnd_eq e
  refine ⟨ρ, G, δ, x, G1, rl, sr, e1, fun v ρ1 H1 g1 r1 d1 => ?_⟩
  split at e
  · cases e
    cases d1
    exact ⟨_, rfl, k ρ1 H1 g1 r1⟩
  · cases e
theorem sIx_eq (n d : Nat) (o : Option Int) : Mi.sIx n d o = HT.sIx n d o := by cases o <;> rfl
theorem cut_ok {K : PySem.W.Frag} {ρ : Rh} {H : Hp} {xs : List Dv} {vs : List V} {lo hi : Option Int} (r : DRs K ρ H xs vs) : DRs K ρ H (Mi.cut xs lo hi) (cutV vs lo hi) := by
  unfold Mi.cut cutV
  rw [sIx_eq, sIx_eq, r.len]
  exact (r.drop _).take _
theorem cut_whole {xs : List Dv} {lo hi : Option Int} (h1 : Mi.sIx xs.length 0 lo = 0) (h2 : Mi.sIx xs.length xs.length hi = xs.length) : Mi.cut xs lo hi = xs := by
  unfold Mi.cut
  rw [h1, h2]
  simp
theorem m_slice (m : Bool) {lo hi : Option Expr} {ml mh : Option ME} {p2 : Pos} (ha : PE X a (tM X.K kx ma)) (hl : PO X lo (tMO X.K kx ml)) (hh : PO X hi (tMO X.K kx mh)) :
    PE X (.Subscript a (.Slice lo hi none p2) pos) (tM X.K kx (Mi.mSlice m ma ml mh)) := (pe_slice (SlR.or sl_list sl_tupA) ha hl hh).imp fun σ H Q ⟨ρ, G, δ, d, G', rl, sr, e, k⟩ => by
  obtain ⟨x, G1, e1, e⟩ := Mi.bnd_eq e
  obtain ⟨l, G2, e2, e⟩ := Mi.bnd_eq e
  obtain ⟨u, G3, e3, e⟩ := Mi.bnd_eq e
  refine ⟨ρ, G, δ, x, G1, rl, sr, e1, fun v ρ1 H1 g1 r1 d1 => ⟨ρ1, G1, δ, l, G2, r1, sr.gr g1, e2, fun ρ2 H2 g2 r2 => ⟨ρ2, G2, δ, u, G3, r2, sr.gr (g1.trans g2), e3, fun ρ3 H3 g3 r3 => ?_⟩⟩⟩
  have d3 := d1.gr (g2.trans g3)
  have k' : ∀ v ρ' H', Gr ρ3 H3 ρ' H' → Rl X.K kx ρ' G' H' → DR X.K ρ' H' d v → Q v H' := fun v ρ' H' g r q => k v ρ' H' (((g1.trans g2).trans g3).trans g) r q
  split at e
  · cases e
    cases d3 with
    | tup h r =>
      refine .inr ⟨_, _, rfl, h, fun ⟨z1, z2⟩ => ?_, fun _ => tup_ok r3 (cut_ok r) k'⟩
      refine k' _ ρ3 H3 Gr.refl r3 ?_
      rw [cut_whole (by rw [sIx_eq, r.len]; exact z1) (by rw [sIx_eq, r.len]; exact z2)]
      exact .tup h r
  · split at e
    · rename_i xs el
      have e' := Option.some.inj e
      obtain ⟨p, ws, rfl, h, r⟩ := lstOf_at r3 el d3
      refine .inl ⟨_, _, rfl, h, mkL_ok (m := m) r3 (cut_ok r) ?_⟩
      rw [e']
      exact k'
    · cases e
theorem m_rev (m : Bool) {j : Nat} {p1 p2 p3 : Pos} (ha : PE X a (tM X.K kx ma)) : PE X (.Subscript a (.Slice none none (some (.UnaryOp .USub (.Constant (.int 1) j p1) p2)) p3) pos) (tM X.K kx (Mi.mRev m ma)) := (pe_revL ha).imp fun σ H Q ⟨ρ, G, δ, d, G', rl, sr, e, k⟩ => by
  obtain ⟨x, G1, e1, e⟩ := Mi.bnd_eq e
  refine ⟨ρ, G, δ, x, G1, rl, sr, e1, fun v ρ1 H1 g1 r1 d1 => ?_⟩
  dsimp only at e
  split at e
  · rename_i xs el
    have e' := Option.some.inj e
    obtain ⟨p, ws, rfl, h, r⟩ := lstOf_at r1 el d1
    refine ⟨_, _, rfl, h, mkL_ok (m := m) r1 r.rev ?_⟩
    rw [e']
    exact fun z ρ' H' g r q => k z ρ' H' (g1.trans g) r q
  · cases e
/-! ### fields -/
theorem flook_ok {K : PySem.W.Frag} {ρ : Rh} {H : Hp} {f : String} : ∀ {fs : List (String × Dv)} {fs' : List (Str × V)}, FR K ρ H fs fs' →
    (∀ d, fs.lookup f = some d → ∃ v, fs'.lookup (Str.ofString f) = some v ∧ DR K ρ H d v) ∧ (fs.lookup f = none → fs'.lookup (Str.ofString f) = none)
  | _, _, .nil => ⟨(fun d e => nomatch e), fun _ => rfl⟩
  | (j, x) :: r, (j', v) :: r', .cons ⟨h1, h2⟩ t => by
    obtain ⟨i1, i2⟩ := flook_ok (f := f) t
    have h1' : j' = Str.ofString j := h1
    subst h1'
    by_cases hj : f = j
    · subst hj
      have e1 : List.lookup f ((f, x) :: r) = some x := by simp [List.lookup]
      have e2 : List.lookup (Str.ofString f) ((Str.ofString f, v) :: r') = some v := by simp [List.lookup]
      refine ⟨fun d e => ?_, fun e => ?_⟩
      · rw [e1] at e
        cases e
        exact ⟨v, e2, h2⟩
      · rw [e1] at e
        cases e
    · have hj' : ¬ Str.ofString f = Str.ofString j := fun z => hj (ofString_inj z)
      have b1 : (f == j) = false := beq_eq_false_iff_ne.mpr hj
      have b2 : (Str.ofString f == Str.ofString j) = false := beq_eq_false_iff_ne.mpr hj'
      have e1 : List.lookup f ((j, x) :: r) = List.lookup f r := by simp only [List.lookup, b1]
      have e2 : List.lookup (Str.ofString f) ((Str.ofString j, v) :: r') = List.lookup (Str.ofString f) r' := by simp only [List.lookup, b2]
      rw [e1, e2]
      exact ⟨i1, i2⟩
theorem fput_ok {K : PySem.W.Frag} {ρ : Rh} {H : Hp} {f : String} {d : Dv} {v : V} (q : DR K ρ H d v) : ∀ {fs : List (String × Dv)} {fs' : List (Str × V)}, FR K ρ H fs fs' → FR K ρ H (Mi.putF f d fs) (L2.putF (Str.ofString f) v fs')
  | _, _, .nil => .cons ⟨rfl, q⟩ .nil
  | (j, x) :: r, (j', w) :: r', .cons ⟨h1, h2⟩ t => by
    have h1' : j' = Str.ofString j := h1
    subst h1'
    show FR K ρ H (if j = f then (j, d) :: r else (j, x) :: Mi.putF f d r) (if Str.ofString j = Str.ofString f then (Str.ofString j, v) :: r' else (Str.ofString j, w) :: L2.putF (Str.ofString f) v r')
    by_cases hj : j = f
    · rw [if_pos hj, if_pos (by rw [hj])]
      exact .cons ⟨rfl, q⟩ t
    · rw [if_neg hj, if_neg (fun z => hj (ofString_inj z))]
      exact .cons ⟨rfl, h2⟩ (fput_ok q t)
/-- the classes cs have no attribute f of their own -/
def Fok (K : PySem.W.Frag) (kx : Kx) (cs : List Nat) (f : String) : Prop := ∀ c ∈ cs, Cls K (kx.ca c) ∧ NoAttr K (kx.ca c) (Str.ofString f)
theorem m_fld {cs : List Nat} {f : String} (hf : Fok X.K kx cs f) (ha : PE X a (tM X.K kx ma)) (hb : attributeBase a (Str.ofString f) X.env (eval a X.env) = eval a X.env := by rfl) : PE X (.Attribute a (Str.ofString f) pos) (tM X.K kx (Mi.mFld cs ma f)) := (pe_fld ha hb).imp fun σ H Q ⟨ρ, G, δ, d, G', rl, sr, e, k⟩ => by
  obtain ⟨x, G1, e1, e⟩ := Mi.bnd_eq e
  refine ⟨ρ, G, δ, x, G1, rl, sr, e1, fun v ρ1 H1 g1 r1 d1 => ?_⟩
  dsimp only at e
  split at e
  · split at e
    · rename_i c fs eh
      split at e
      · rename_i hc
        cases d1 with
        | ref ea =>
          obtain ⟨dx, fs', h1, fr⟩ := ins_at r1 eh ea
          cases el : fs.lookup f with
          | none => rw [el] at e; cases e
          | some dd =>
            rw [el] at e
            cases e
            obtain ⟨w, hw, rw'⟩ := (flook_ok (f := f) fr).1 _ el
            exact ⟨_, _, _, _, w, rfl, h1, (hf c hc).1, (hf c hc).2, hw, k w ρ1 H1 g1 r1 rw'⟩
      · cases e
    · cases e
  · cases e
/-! ### list(range(..)) -/
theorem rng_ok {K : PySem.W.Frag} {ρ : Rh} {H : Hp} {a b : Int} : DRs K ρ H (Mi.rng a b) (rgV a b) := by
  unfold Mi.rng rgV
  generalize List.range (b - a).toNat = l
  induction l with
  | nil => exact .nil
  | cons i r ih => exact .cons (.int _) ih
theorem m_listR2 (m : Bool) {p p2 pos2 : Pos} (hc : X.calm = true) (hm : X.mg "list" = none) (hm2 : X.mg "range" = none) (ha : PE X a (tM X.K kx ma)) (hb : PE X b (tM X.K kx mb)) (hg : Gl X "list" := by rfl) (hg2 : Gl X "range" := by rfl)
    (na : starEach [a, b] X.env = (false, eval a X.env) :: starEach [b] X.env := by rfl) (nb : starEach [b] X.env = (false, eval b X.env) :: starEach [] X.env := by rfl) (hp : (backTo pos2 (starEach [b] X.env)).any (·.1) = false := by rfl) (nr : starEach [Expr.Call (.Name "range" p2) [a, b] [] pos2] X.env = (false, eval (Expr.Call (.Name "range" p2) [a, b] [] pos2) X.env) :: starEach [] X.env := by rfl) :
    PE X (.Call (.Name "list" p) [.Call (.Name "range" p2) [a, b] [] pos2] [] pos) (tM X.K kx (Mi.m2 (Mi.bListR m) ma mb)) :=
  (pe_listRg hc hg hm (prg_2 hg2 hm2 ha hb na nb hp) nr).imp fun σ H Q ⟨ρ, G, δ, d, G', rl, sr, e, k⟩ => by
  obtain ⟨x, G1, e1, e⟩ := Mi.bnd_eq e
  obtain ⟨y, G2, e2, e⟩ := Mi.bnd_eq e
  refine ⟨ρ, G, δ, x, G1, rl, sr, e1, fun v ρ1 H1 g1 r1 d1 => ⟨ρ1, G1, δ, y, G2, r1, sr.gr g1, e2, fun w ρ2 H2 g2 r2 d2 => ?_⟩⟩
  unfold Mi.bListR at e
  split at e
  · split at e
    · rename_i hz
      obtain ⟨z1, z2, z3, z4, z5⟩ := hz
      have e' := Option.some.inj e
      cases d1
      cases d2
      refine ⟨_, _, rfl, rfl, ⟨z1, z2, z3, z4, z5⟩, mkL_ok (m := m) r2 rng_ok ?_⟩
      rw [e']
      exact fun z ρ' H' g r q => k z ρ' H' ((g1.trans g2).trans g) r q
    · cases e
  · cases e
end
end Ms

/-! PyS3c: calls of defs, of methods, of classes; dict displays; repr of equal data. -/
namespace Ms
open PySem L2
open Mi (Dv MO Sto Sl Rs bnd ME MT MA MS MF Fl MG MGs MI)
/-- the def at f does what the mirror's function mf does, where no repr is under way -/
structure FnM (P : Program) (w : World) (K : PySem.W.Frag) (kx : Kx) (mg : Str → Option Value) (base : Heap) (k : Nat) (f : Addr) (fd : FuncData) (ps : List Str) (mf : MF) : Prop where
  ar : ∀ ds G r, mf ds G = some r → ds.length = ps.length
  run : ∀ (A : Around) (outer : List Env) (s : Shared) (H : Hp) (args : Args) (us : List Value) (vs : List V) (Q : VK) (ρ : Rh) (G : Sto) (ds : List Dv) (d : Dv) (G' : Sto), A.guards = some [] → Room k A → Env0 P w K mg base A outer s H →
    BindsTo s fd args (ps.zip us) → Vals vs us → Rl K kx ρ G H → DRs K ρ H ds vs → mf ds G = some (d, G') → (∀ v ρ' H', Gr ρ H ρ' H' → Rl K kx ρ' G' H' → DR K ρ' H' d v → Q v H') →
    codeAny (model P w) A (.call (.ref f) args) (CR CX0 outer P w H s Q E0) s
theorem FnM.mono {P : Program} {w : World} {K : PySem.W.Frag} {kx : Kx} {mg : Str → Option Value} {base : Heap} {j k : Nat} {f : Addr} {fd : FuncData} {ps : List Str} {mf : MF} (F : FnM P w K kx mg base j f fd ps mf) (h : j ≤ k) : FnM P w K kx mg base k f fd ps mf :=
  ⟨F.ar, fun A outer s H args us vs Q ρ G ds d G' hG hr => F.run A outer s H args us vs Q ρ G ds d G' hG (hr.mono h)⟩
section
variable {X : Cx} {kx : Kx} {e a b c o : Expr} {ma mb mc me mo : ME} {pos p apos : Pos} {rest es : List Expr} {mas mks : MA} {k : Nat} {f : Addr} {fd : FuncData} {ps : List Str} {mf : MF} {x : Str}
/-- behind a callee -/
theorem after_run {pins : List (Addr × Obj)} {σ : St} {H : Hp} {s s' : Shared} {Q : VK} {r : Result} (I : Inv X pins σ H s) (h : CR CX0 X.stack X.prog X.w H s Q E0 r s') : ∃ u, r = .ok (.ret u) ∧ EP X pins σ Q u s' := by
  match r, h with
  | .ok (.ret u), back => exact ⟨u, rfl, I.after back⟩
theorem run_m {pins : List (Addr × Obj)} {σ : St} {H : Hp} {s : Shared} {Q : VK} {us : List Value} {vs : List V} {kw : List (Str × Value)} {ws : List Value} {ρ : Rh} {G : Sto} {ds : List Dv} {d : Dv} {G' : Sto} (F : FnM X.prog X.w X.K kx X.mg X.base k f fd ps mf) (hG : X.A.guards = some []) (hr : Room k X.A)
    (I : Inv X pins σ H s) (hb : BindsTo s fd ⟨us, kw⟩ (ps.zip ws)) (r : Vals vs ws) (rl : Rl X.K kx ρ G H) (dr : DRs X.K ρ H ds vs) (e : mf ds G = some (d, G')) (q : ∀ v ρ' H', Gr ρ H ρ' H' → Rl X.K kx ρ' G' H' → DR X.K ρ' H' d v → Q v H') :
    wpAny (model X.prog X.w) X.A (call (.ref f) us kw) (EP X pins σ Q) X.xe s := by
  refine wpAny_call (codeAny_mono (F.run X.A X.stack s H ⟨us, kw⟩ ws vs Q ρ G ds d G' hG hr I.env0 hb r rl dr e q) fun res s' h => ?_)
  obtain ⟨u, e1, e2⟩ := after_run I h
  subst e1
  exact e2
theorem lenOf {ps : List Str} {ds : List Dv} {vs : List V} {us : List Value} {K : PySem.W.Frag} {ρ : Rh} {H : Hp} (h : ds.length = ps.length) (r : DRs K ρ H ds vs) (q : Vals vs us) : (us ++ []).length = ps.length := by
  rw [List.append_nil, ← q.length, ← r.len]
  exact h
/-- f(e, ..) -/
theorem m_call (F : FnM X.prog X.w X.K kx X.mg X.base k f fd ps mf) (hG : X.A.guards = some []) (hr : Room k X.A) (hm : X.mg x = some (.ref f)) (hk : PySem.W.keepIn X.K (.ref f) = true) (hb : Binds X.K fd ps []) (ha : PA X (e :: es) (tMA X.K kx mas)) (hg : Gl X x := by rfl)
    (hdb : (x == ("__debug__" : Str)) = false := by decide) (he : Es X e es := by rfl) (hpl : Np X pos es := by rfl) : PE X (.Call (.Name x p) (e :: es) [] pos) (tM X.K kx (Mi.mCall mf mas)) := ⟨fun pins s σ H Q I h => by
  obtain ⟨ρ, G, δ, d, G', rl, sr, e0, q⟩ := h
  obtain ⟨ds, G1, e1, e2⟩ := Mi.bnd_eq e0
  refine called_by I hg hm hdb ?_
  refine PySem.W.callWith_K (h₀ := X.base) I.ok.mod.kin hk (thn (ha.run pos pins s σ H (fun vs H1 => ∃ ρ1, Gr ρ H ρ1 H1 ∧ Rl X.K kx ρ1 G1 H1 ∧ DRs X.K ρ1 H1 ds vs) I ⟨ρ, G, δ, ds, G1, rl, sr, e1, fun vs ρ1 H1 g r d => ⟨ρ1, g, r, d⟩⟩) fun us s1 ⟨vs, H1, I1, r, ρ1, g1, r1, d1⟩ => ⟨I1.kIn, ?_⟩) he hpl
  have hl := lenOf (F.ar _ _ _ e2) d1 r
  have hb' := hb s1 us I1.kIn hl
  rw [List.append_nil] at hb'
  exact run_m F hG hr I1 hb' r r1 d1 e2 fun v ρ' H' g r q' => q v ρ' H' (g1.trans g) r q'⟩
theorem m_call0 (F : FnM X.prog X.w X.K kx X.mg X.base k f fd ps mf) (hG : X.A.guards = some []) (hr : Room k X.A) (hm : X.mg x = some (.ref f)) (hk : PySem.W.keepIn X.K (.ref f) = true) (hb : Binds X.K fd ps []) (hg : Gl X x := by rfl) (hdb : (x == ("__debug__" : Str)) = false := by decide) :
    PE X (.Call (.Name x p) [] [] pos) (tM X.K kx (Mi.mCall mf Mi.mNil)) := ⟨fun pins s σ H Q I h => by
  obtain ⟨ρ, G, δ, d, G', rl, sr, e0, q⟩ := h
  refine called_by I hg hm hdb ?_
  have e2 : mf [] G = some (d, G') := e0
  have hb' := hb s [] I.kIn (lenOf (K := X.K) (ρ := ρ) (H := H) (vs := []) (F.ar _ _ _ e2) .nil .nil)
  exact PySem.W.callWith_K0 I.kIn hk (run_m (us := []) (ws := []) F hG hr I hb' .nil rl .nil e2 q)⟩
/-- o.m(e, ..), o.m() -/
theorem m_meth {cn : Nat} {m : String} {pl : Sem Bool} (ho : PE X o (tM X.K kx mo)) (hc : Cls X.K (kx.ca cn)) (hm : Meth X.K (kx.ca cn) (Str.ofString m) f) (F : FnM X.prog X.w X.K kx X.mg X.base k f fd ps mf) (hG : X.A.guards = some []) (hr : Room k X.A) (hb : Binds X.K fd ps []) (ha : PA X (e :: es) (tMA X.K kx mas))
    (hst : Es X e es := by rfl) (hpl : Np X pos es := by rfl)
    (ht : eval (.Call (.Attribute o (Str.ofString m) apos) (e :: es) [] pos) X.env = (do let ov ← eval o X.env; standAt apos.atName; let (f, first) ← holding [ov] (getMethod ov (Str.ofString m) pl); callWith pos f first (backTo pos (starEach (e :: es) X.env)) (backToKw pos (keywordEach [] X.env))) := by rfl) :
    PE X (.Call (.Attribute o (Str.ofString m) apos) (e :: es) [] pos) (tM X.K kx (Mi.mMeth cn m mf mo mas)) := ⟨fun pins s σ H Q I h => by
  obtain ⟨ρ, G, δ, d, G', rl, sr, e0, q⟩ := h
  obtain ⟨y, G1, e1, e2⟩ := Mi.bnd_eq e0
  refine PySem.W.methodCall_KW (pl := pl) (thn (ho.run pins s σ H (fun v H1 => ∃ ρ1, Gr ρ H ρ1 H1 ∧ Rl X.K kx ρ1 G1 H1 ∧ DR X.K ρ1 H1 y v) I ⟨ρ, G, δ, y, G1, rl, sr, e1, fun v ρ1 H1 g r d => ⟨ρ1, g, r, d⟩⟩) fun u s1 ⟨v, H1, I1, rx, ρ1, g1, r1, d1⟩ => ?_) ht
  cases y with
  | ref h =>
    dsimp only at e2
    split at e2
    · rename_i c' fs eh
      split at e2
      · rename_i hz
        obtain ⟨hz1, hz2⟩ := hz
        subst hz1
        obtain ⟨ds, G2, e3, e4⟩ := Mi.bnd_eq e2
        cases d1 with
        | @ref _ ad ea =>
          obtain ⟨dx, fs', h1, fr⟩ := ins_at r1 eh ea
          obtain rfl : u = Value.ref ad := rx
          refine getmeth_ok I1 h1 hc hm ((flook_ok fr).2 hz2) ?_
          refine PySem.W.callWith_K (first := [.ref ad]) (h₀ := X.base) I.ok.mod.kin hm.kp (thn (ha.run pos pins s1 σ H1 (fun vs H2 => ∃ ρ2, Gr ρ1 H1 ρ2 H2 ∧ Rl X.K kx ρ2 G2 H2 ∧ DRs X.K ρ2 H2 ds vs) I1 ⟨ρ1, G1, δ, ds, G2, r1, sr.gr g1, e3, fun vs ρ2 H2 g r d => ⟨ρ2, g, r, d⟩⟩) fun us s2 ⟨vs, H2, I2, r, ρ2, g2, r2, d2⟩ => ⟨I2.kIn, ?_⟩) hst hpl
          have dd : DRs X.K ρ2 H2 (.ref h :: ds) (.ref ad :: vs) := .cons ((DR.ref ea).gr g2) d2
          have rr : Vals (V.ref ad :: vs) (Value.ref ad :: us) := .cons rfl r
          have hb' := hb s2 (Value.ref ad :: us) I2.kIn (lenOf (F.ar _ _ _ e4) dd rr)
          rw [List.append_nil] at hb'
          exact run_m F hG hr I2 hb' rr r2 dd e4 fun v ρ' H' g r q' => q v ρ' H' ((g1.trans g2).trans g) r q'
      · cases e2
    · cases e2
  | _ => cases e2⟩
theorem m_meth0 {cn : Nat} {m : String} {pl : Sem Bool} (ho : PE X o (tM X.K kx mo)) (hc : Cls X.K (kx.ca cn)) (hm : Meth X.K (kx.ca cn) (Str.ofString m) f) (F : FnM X.prog X.w X.K kx X.mg X.base k f fd ps mf) (hG : X.A.guards = some []) (hr : Room k X.A) (hb : Binds X.K fd ps [])
    (ht : eval (.Call (.Attribute o (Str.ofString m) apos) [] [] pos) X.env = (do let ov ← eval o X.env; standAt apos.atName; let (f, first) ← holding [ov] (getMethod ov (Str.ofString m) pl); callWith pos f first (backTo pos (starEach [] X.env)) (backToKw pos (keywordEach [] X.env))) := by rfl) :
    PE X (.Call (.Attribute o (Str.ofString m) apos) [] [] pos) (tM X.K kx (Mi.mMeth cn m mf mo Mi.mNil)) := ⟨fun pins s σ H Q I h => by
  obtain ⟨ρ, G, δ, d, G', rl, sr, e0, q⟩ := h
  obtain ⟨y, G1, e1, e2⟩ := Mi.bnd_eq e0
  refine PySem.W.methodCall_KW (pl := pl) (thn (ho.run pins s σ H (fun v H1 => ∃ ρ1, Gr ρ H ρ1 H1 ∧ Rl X.K kx ρ1 G1 H1 ∧ DR X.K ρ1 H1 y v) I ⟨ρ, G, δ, y, G1, rl, sr, e1, fun v ρ1 H1 g r d => ⟨ρ1, g, r, d⟩⟩) fun u s1 ⟨v, H1, I1, rx, ρ1, g1, r1, d1⟩ => ?_) ht
  cases y with
  | ref h =>
    dsimp only at e2
    split at e2
    · rename_i c' fs eh
      split at e2
      · rename_i hz
        obtain ⟨hz1, hz2⟩ := hz
        subst hz1
        have e4 : mf [.ref h] G1 = some (d, G') := e2
        cases d1 with
        | @ref _ ad ea =>
          obtain ⟨dx, fs', h1, fr⟩ := ins_at r1 eh ea
          obtain rfl : u = Value.ref ad := rx
          refine getmeth_ok I1 h1 hc hm ((flook_ok fr).2 hz2) ?_
          have dd : DRs X.K ρ1 H1 [.ref h] [.ref ad] := .cons (.ref ea) .nil
          have rr : Vals [V.ref ad] [Value.ref ad] := .cons rfl .nil
          have hb' := hb s1 [Value.ref ad] I1.kIn (lenOf (F.ar _ _ _ e4) dd rr)
          exact PySem.W.callWith_K0 (first := [.ref ad]) I1.kIn hm.kp (run_m (us := [.ref ad]) F hG hr I1 hb' rr r1 dd e4 fun v ρ' H' g r q' => q v ρ' H' (g1.trans g) r q')
      · cases e2
    · cases e2
  | _ => cases e2⟩
theorem guards_make {A : Around} {C : Addr} {us : List Value} {kw : List (Str × Value)} (h : A.guards = some []) : (A.under (.builtin "type.__call__" ⟨.ref C :: us, kw⟩)).guards = some [] := by
  have e : (Code.builtin "type.__call__" ⟨.ref C :: us, kw⟩).guards = [] := by
    have g : (Code.builtin "type.__call__" ⟨.ref C :: us, kw⟩).isGuard = false := by
      show guardIds.contains "type.__call__" = false
      decide +kernel
    unfold Code.guards
    rw [g] <;> rfl
  show pushGuards (Code.builtin "type.__call__" ⟨.ref C :: us, kw⟩).guards A.guards = some []
  rw [e]
  exact h
/-- C(e, ..) -/
theorem m_make {cn : Nat} (M : Mk X.K (kx.ca cn) f) (F : FnM X.prog X.w X.K kx X.mg X.base k f fd ps mf) (hG : X.A.guards = some []) (hr : Room (k + 1) X.A) (hm : X.mg x = some (.ref (kx.ca cn))) (hb : Binds X.K fd ps []) (ha : PA X (e :: es) (tMA X.K kx mas)) (hg : Gl X x := by rfl)
    (hdb : (x == ("__debug__" : Str)) = false := by decide) (he : Es X e es := by rfl) (hpl : Np X pos es := by rfl) : PE X (.Call (.Name x p) (e :: es) [] pos) (tM X.K kx (Mi.mMake cn mf mas)) := ⟨fun pins s σ H Q I h => by
  obtain ⟨ρ, G, δ, d, G', rl, sr, e0, q⟩ := h
  obtain ⟨ds, G1, e1, e2⟩ := Mi.bnd_eq e0
  obtain ⟨rv, G2, e3, e4⟩ := Mi.bnd_eq e2
  refine called_by I hg hm hdb ?_
  refine PySem.W.callWith_K (h₀ := X.base) I.ok.mod.kin M.kp (thn (ha.run pos pins s σ H (fun vs H1 => ∃ ρ1, Gr ρ H ρ1 H1 ∧ Rl X.K kx ρ1 G1 H1 ∧ DRs X.K ρ1 H1 ds vs) I ⟨ρ, G, δ, ds, G1, rl, sr, e1, fun vs ρ1 H1 g r d => ⟨ρ1, g, r, d⟩⟩) fun us s1 ⟨vs, H1, I1, r, ρ1, g1, r1, d1⟩ => ⟨I1.kIn, ?_⟩) he hpl
  have f1 : H1 s1.heap.objs.size = none := I1.hok.fresh (Nat.le_refl _)
  have f2 : H1 (s1.heap.objs.size + 1) = none := I1.hok.fresh (Nat.le_succ _)
  have ne : s1.heap.objs.size + 1 ≠ s1.heap.objs.size := Nat.succ_ne_self _
  obtain ⟨ga, ra⟩ := r1.side (.own (s1.heap.objs.size + 1)) f1
  obtain ⟨gb, rb⟩ := ra.grow (p := s1.heap.objs.size + 1) (o := .ins (kx.ca cn) s1.heap.objs.size []) (m := .ins cn []) (by rw [upd_ne ne]; exact f2) fun g => .ins upd_same .nil
  have I2 := Inv.made (C := kx.ca cn) I1
  have dd : DRs X.K (ρ1.snoc (s1.heap.objs.size + 1)) _ (.ref G1.length :: ds) (V.ref (s1.heap.objs.size + 1) :: vs) := .cons (.ref (by rw [← r1.len, List.getElem?_append_right (Nat.le_refl _)]; simp)) (d1.gr (ga.trans gb))
  have rr : Vals (V.ref (s1.heap.objs.size + 1) :: vs) (Value.ref (s1.heap.objs.size + 1) :: us) := .cons rfl r
  have hb' := hb _ (Value.ref (s1.heap.objs.size + 1) :: us) I2.kIn (lenOf (F.ar _ _ _ e3) dd rr)
  rw [List.append_nil] at hb'
  refine wpAny_call (make_map (f := f) I1.kIn M.makes M.init (beq_iff_eq.mp M.fn) (codeAny_mono (F.run _ X.stack _ _ ⟨Value.ref (s1.heap.objs.size + 1) :: us, []⟩ (Value.ref (s1.heap.objs.size + 1) :: us) _ (fun v H2 => v = .non ∧ Q (.ref (s1.heap.objs.size + 1)) H2) _ _ _ _ _ (guards_make hG) (hr.make (kx.ca cn) us []) (I2.env0.make (kx.ca cn) us []) hb' rr rb dd e3 fun v ρ' H' g r qd => ?_) fun res s' hq => ?_))
  · split at e4
    · cases e4
      cases qd
      refine ⟨rfl, q _ ρ' H' (((g1.trans ga).trans gb).trans g) r ?_⟩
      exact .ref (ref_gr (K := X.K) g (show (ρ1.snoc (s1.heap.objs.size + 1)).r[G1.length]? = some (s1.heap.objs.size + 1) by rw [← r1.len, List.getElem?_append_right (Nat.le_refl _)]; simp))
    · cases e4
  · obtain ⟨u, h1, h2⟩ := after_run I2 hq
    subst h1
    obtain ⟨v, H', I3, rv', ev, q3⟩ := h2
    subst ev
    exact ⟨rv', ⟨V.ref (s1.heap.objs.size + 1), H', I3, rfl, q3⟩⟩⟩
/-! ### keywords -/
theorem _root_.L2.PK.imp {X : Cx} {kws : List Keyword} {t u : TA} (h : PK X kws t) (i : ∀ σ H Q, u σ H Q → t σ H Q) : PK X kws u := ⟨fun p pins s σ H Q I q => h.run p pins s σ H Q I (i σ H Q q)⟩
theorem mk_nil : PK X [] (tMA X.K kx Mi.mNil) := pk_nil.imp fun σ H Q ⟨ρ, G, δ, d, G', rl, sr, e, k⟩ => by
  cases e
  exact k [] ρ H Gr.refl rl .nil
theorem mk_cons {nm : Option Str} {kpos : Pos} {kws : List Keyword} (ha : PE X e (tM X.K kx ma)) (hr : PK X kws (tMA X.K kx mas)) : PK X (⟨nm, e, kpos⟩ :: kws) (tMA X.K kx (Mi.mCons ma mas)) := (pk_cons ha hr).imp fun σ H Q ⟨ρ, G, δ, d, G', rl, sr, e, k⟩ => by
  obtain ⟨x, G1, e1, e⟩ := Mi.bnd_eq e
  obtain ⟨xs, G2, e2, e⟩ := Mi.bnd_eq e
  cases e
  exact ⟨ρ, G, δ, x, G1, rl, sr, e1, fun v ρ1 H1 g1 r1 d1 => ⟨ρ1, G1, δ, xs, _, r1, sr.gr g1, e2, fun vs ρ2 H2 g2 r2 d2 => k (v :: vs) ρ2 H2 (g1.trans g2) r2 (.cons (d1.gr g2) d2)⟩⟩
/-- the values in the parameters' order -/
def pickV (ix : List Nat) (vs : List V) : List V := ix.map fun i => vs.getD i .non
def pickU (ix : List Nat) (us : List Value) : List Value := ix.map fun i => us.getD i .none
theorem pick_dr {K : PySem.W.Frag} {ρ : Rh} {H : Hp} {ds : List Dv} {vs : List V} (r : DRs K ρ H ds vs) : ∀ ix : List Nat, DRs K ρ H (ix.map fun i => ds.getD i .non) (pickV ix vs)
  | [] => .nil
  | i :: t => by
    refine .cons ?_ (pick_dr r t)
    cases e : ds[i]? with
    | none =>
      have e2 : vs[i]? = none := by
        rw [List.getElem?_eq_none_iff] at e ⊢
        rw [← r.len]
        exact e
      simp only [List.getD_eq_getElem?_getD, e, e2]
      exact .non
    | some d =>
      obtain ⟨v, h1, h2⟩ := r.get e
      simp only [List.getD_eq_getElem?_getD, e, h1]
      exact h2
theorem pick_vals {vs : List V} {us : List Value} (r : Vals vs us) : ∀ ix : List Nat, Vals (pickV ix vs) (pickU ix us)
  | [] => .nil
  | i :: t => by
    refine .cons ?_ (pick_vals r t)
    cases e : vs[i]? with
    | none =>
      have e2 : us[i]? = none := r.none_of e
      simp only [List.getD_eq_getElem?_getD, e, e2]
      exact rfl
    | some d =>
      obtain ⟨v, h1, h2⟩ := r.get e
      simp only [List.getD_eq_getElem?_getD, e, h1]
      exact h2
/-- how the call's n values by position and the keywords ks bind -/
def KBm (fd : FuncData) (ps ks : List Str) (n : Nat) (ix : List Nat) : Prop := ∀ (s : Shared) (us ws : List Value), us.length = n → ws.length = ks.length → BindsTo s fd ⟨us, ks.zip ws⟩ (ps.zip (pickU ix (us ++ ws)))
/-- the lengths of what arguments give -/
def Len (m : MA) (n : Nat) : Prop := ∀ δ G ds G', m δ G = some (ds, G') → ds.length = n
theorem len_nil : Len Mi.mNil 0 := fun δ G ds G' e => by cases e; rfl
theorem len_cons {n : Nat} (h : Len mas n) : Len (Mi.mCons ma mas) (n + 1) := fun δ G ds G' e => by
  obtain ⟨x, G1, e1, e⟩ := Mi.bnd_eq e
  obtain ⟨xs, G2, e2, e⟩ := Mi.bnd_eq e
  cases e
  rw [List.length_cons, h _ _ _ _ e2]
variable {kws : List Keyword} {ks : List Str} {n : Nat} {ix : List Nat}
/-- f(k = v, ..) -/
theorem m_callK0 (F : FnM X.prog X.w X.K kx X.mg X.base k f fd ps mf) (hG : X.A.guards = some []) (hr : Room k X.A) (hm : X.mg x = some (.ref f)) (hk : PySem.W.keepIn X.K (.ref f) = true) (hb : KBm fd ps ks 0 ix) (hl : Len mks ks.length) (hkw : PK X kws (tMA X.K kx mks)) (hg : Gl X x := by rfl)
    (hall : Ka X pos kws := by rfl) (hks : Ks X pos kws ks := by rfl) (hdb : (x == ("__debug__" : Str)) = false := by decide)
    (hpl : ((backTo pos (starEach [] X.env)).any (·.1) || (backToKw pos (keywordEach kws X.env)).any (·.1.isNone)) = false := by rfl) : PE X (.Call (.Name x p) [] kws pos) (tM X.K kx (Mi.mCallK mf ix Mi.mNil mks)) := ⟨fun pins s σ H Q I h => by
  obtain ⟨ρ, G, δ, d, G', rl, sr, e0, q⟩ := h
  obtain ⟨d0, G0, e00, e0⟩ := Mi.bnd_eq e0
  cases e00
  obtain ⟨ds, G1, e1, e2⟩ := Mi.bnd_eq e0
  refine called_by I hg hm hdb ?_
  refine PySem.W.callWith_KW0 (h₀ := X.base) I.ok.mod.kin hk hall (thn (hkw.run pos pins s σ H (fun vs H1 => ∃ ρ1, Gr ρ H ρ1 H1 ∧ Rl X.K kx ρ1 G1 H1 ∧ DRs X.K ρ1 H1 ds vs) I ⟨ρ, _, δ, ds, G1, rl, sr, e1, fun vs ρ1 H1 g r d => ⟨ρ1, g, r, d⟩⟩) fun us s1 ⟨vs, H1, I1, r, ρ1, g1, r1, d1⟩ => ⟨I1.kIn, ?_⟩) hpl
  rw [hks]
  have hlen : us.length = ks.length := by rw [← r.length, ← d1.len]; exact hl _ _ _ _ e1
  have hb' := hb s1 [] us rfl hlen
  exact run_m (us := []) F hG hr I1 hb' (pick_vals r ix) r1 (pick_dr d1 ix) e2 fun v ρ' H' g r q' => q v ρ' H' (g1.trans g) r q'⟩
/-- f(e, .., k = v, ..) -/
theorem m_callK (F : FnM X.prog X.w X.K kx X.mg X.base k f fd ps mf) (hG : X.A.guards = some []) (hr : Room k X.A) (hm : X.mg x = some (.ref f)) (hk : PySem.W.keepIn X.K (.ref f) = true) (hb : KBm fd ps ks n ix) (hl1 : Len mas n) (hl : Len mks ks.length) (ha : PA X (e :: es) (tMA X.K kx mas)) (hkw : PK X kws (tMA X.K kx mks)) (hg : Gl X x := by rfl)
    (hall : Ka X pos kws := by rfl) (hks : Ks X pos kws ks := by rfl) (hdb : (x == ("__debug__" : Str)) = false := by decide) (he : Es X e es := by rfl)
    (hpl : ((backTo pos (starEach (e :: es) X.env)).any (·.1) || (backToKw pos (keywordEach kws X.env)).any (·.1.isNone)) = false := by rfl) : PE X (.Call (.Name x p) (e :: es) kws pos) (tM X.K kx (Mi.mCallK mf ix mas mks)) := ⟨fun pins s σ H Q I h => by
  obtain ⟨ρ, G, δ, d, G', rl, sr, e0, q⟩ := h
  obtain ⟨ds, G1, e1, e2⟩ := Mi.bnd_eq e0
  obtain ⟨es', G2, e3, e4⟩ := Mi.bnd_eq e2
  refine called_by I hg hm hdb ?_
  refine PySem.W.callWith_KW (h₀ := X.base) I.ok.mod.kin hk hall (thn (ha.run pos pins s σ H (fun vs H1 => ∃ ρ1, Gr ρ H ρ1 H1 ∧ Rl X.K kx ρ1 G1 H1 ∧ DRs X.K ρ1 H1 ds vs) I ⟨ρ, G, δ, ds, G1, rl, sr, e1, fun vs ρ1 H1 g r d => ⟨ρ1, g, r, d⟩⟩) fun us s1 ⟨vs, H1, I1, r, ρ1, g1, r1, d1⟩ => ?_) hpl he
  refine thn (hkw.run pos pins s1 σ H1 (fun vs H2 => ∃ ρ2, Gr ρ1 H1 ρ2 H2 ∧ Rl X.K kx ρ2 G2 H2 ∧ DRs X.K ρ2 H2 es' vs) I1 ⟨ρ1, G1, δ, es', G2, r1, sr.gr g1, e3, fun vs ρ1 H1 g r d => ⟨ρ1, g, r, d⟩⟩) fun ws s2 ⟨zs, H2, I2, rz, ρ2, g2, r2, d2⟩ => ⟨I2.kIn, ?_⟩
  rw [hks]
  have hlen : ws.length = ks.length := by rw [← rz.length, ← d2.len]; exact hl _ _ _ _ e3
  have hlen1 : us.length = n := by rw [← r.length, ← d1.len]; exact hl1 _ _ _ _ e1
  have hb' := hb s2 us ws hlen1 hlen
  exact run_m (us := us) F hG hr I2 hb' (pick_vals (r.append rz) ix) r2 (pick_dr ((d1.gr g2).app d2) ix) e4 fun v ρ' H' g r q' => q v ρ' H' ((g1.trans g2).trans g) r q'⟩
/-- o.m(k = v, ..) -/
theorem m_methK0 {cn : Nat} {m : String} {pl : Sem Bool} (ho : PE X o (tM X.K kx mo)) (hc : Cls X.K (kx.ca cn)) (hm : Meth X.K (kx.ca cn) (Str.ofString m) f) (F : FnM X.prog X.w X.K kx X.mg X.base k f fd ps mf) (hG : X.A.guards = some []) (hr : Room k X.A) (hb : KBm fd ps ks 1 ix) (hl : Len mks ks.length) (hkw : PK X kws (tMA X.K kx mks))
    (hall : Ka X pos kws := by rfl) (hks : Ks X pos kws ks := by rfl)
    (hpl : ((backTo pos (starEach [] X.env)).any (·.1) || (backToKw pos (keywordEach kws X.env)).any (·.1.isNone)) = false := by rfl)
    (ht : eval (.Call (.Attribute o (Str.ofString m) apos) [] kws pos) X.env = (do let ov ← eval o X.env; standAt apos.atName; let (f, first) ← holding [ov] (getMethod ov (Str.ofString m) pl); callWith pos f first (backTo pos (starEach [] X.env)) (backToKw pos (keywordEach kws X.env))) := by rfl) :
    PE X (.Call (.Attribute o (Str.ofString m) apos) [] kws pos) (tM X.K kx (Mi.mMethK cn m mf ix mo Mi.mNil mks)) := ⟨fun pins s σ H Q I h => by
  obtain ⟨ρ, G, δ, d, G', rl, sr, e0, q⟩ := h
  obtain ⟨y, G1, e1, e2⟩ := Mi.bnd_eq e0
  refine PySem.W.methodCall_KW (pl := pl) (thn (ho.run pins s σ H (fun v H1 => ∃ ρ1, Gr ρ H ρ1 H1 ∧ Rl X.K kx ρ1 G1 H1 ∧ DR X.K ρ1 H1 y v) I ⟨ρ, G, δ, y, G1, rl, sr, e1, fun v ρ1 H1 g r d => ⟨ρ1, g, r, d⟩⟩) fun u s1 ⟨v, H1, I1, rx, ρ1, g1, r1, d1⟩ => ?_) ht
  cases y with
  | ref h =>
    dsimp only at e2
    split at e2
    · rename_i c' fs eh
      split at e2
      · rename_i hz
        obtain ⟨hz1, hz2⟩ := hz
        subst hz1
        obtain ⟨d0, G0, e00, e2⟩ := Mi.bnd_eq e2
        cases e00
        obtain ⟨ds, G2, e3, e4⟩ := Mi.bnd_eq e2
        cases d1 with
        | @ref _ ad ea =>
          obtain ⟨dx, fs', h1, fr⟩ := ins_at r1 eh ea
          obtain rfl : u = Value.ref ad := rx
          refine getmeth_ok I1 h1 hc hm ((flook_ok fr).2 hz2) ?_
          refine PySem.W.callWith_KW0 (first := [.ref ad]) (h₀ := X.base) I.ok.mod.kin hm.kp hall (thn (hkw.run pos pins s1 σ H1 (fun vs H2 => ∃ ρ2, Gr ρ1 H1 ρ2 H2 ∧ Rl X.K kx ρ2 G2 H2 ∧ DRs X.K ρ2 H2 ds vs) I1 ⟨ρ1, _, δ, ds, G2, r1, sr.gr g1, e3, fun vs ρ2 H2 g r d => ⟨ρ2, g, r, d⟩⟩) fun us s2 ⟨vs, H2, I2, r, ρ2, g2, r2, d2⟩ => ⟨I2.kIn, ?_⟩) hpl
          rw [hks]
          have hlen : us.length = ks.length := by rw [← r.length, ← d2.len]; exact hl _ _ _ _ e3
          have dd : DRs X.K ρ2 H2 (.ref h :: ds) (.ref ad :: vs) := .cons ((DR.ref ea).gr g2) d2
          have rr : Vals (V.ref ad :: vs) (Value.ref ad :: us) := .cons rfl r
          have hb' := hb s2 [Value.ref ad] us rfl hlen
          exact run_m (us := [.ref ad]) F hG hr I2 hb' (pick_vals rr ix) r2 (pick_dr dd ix) e4 fun v ρ' H' g r q' => q v ρ' H' ((g1.trans g2).trans g) r q'
      · cases e2
    · cases e2
  | _ => cases e2⟩
end
end Ms

/-! PyS3d: repr of equal data; dict displays. -/
namespace Ms
open PySem L2
open Mi (Dv MO Sto Sl Rs bnd ME MT MA MS MF Fl MG MGs MI)
/-! ### the written text's size -/
theorem len_listText (ts : List Str) : (listText ts).length ≤ piled ts + 2 := by
  cases ts with
  | nil => exact Nat.le_refl 2
  | cons t r =>
    have e1 : listText (t :: r) = textFrom 1 (("[" : Str) ++ ("" : Str) ++ t) r ++ ("]" : Str) := rfl
    rw [e1, strLen_append, textFrom_length_pos r 1 _ (by omega), strLen_append, strLen_append, piled_cons]
    have a1 : (("[" : String) : Str).length = 1 := rfl
    have a2 : (("" : String) : Str).length = 0 := rfl
    have a3 : (("]" : String) : Str).length = 1 := rfl
    omega
theorem len_tupleText (ts : List Str) : (tupleText ts).length ≤ piled ts + 3 := by
  have e1 : tupleText ts = ("(" : Str) ++ Str.join ", " ts ++ (if ts.length == 1 then ",)" else ")" : String) := rfl
  rw [e1, strLen_append, strLen_append]
  have a1 : (("(" : String) : Str).length = 1 := rfl
  have a2 : ((if ts.length == 1 then ",)" else ")" : String) : Str).length ≤ 2 := by
    split
    · exact Nat.le_refl 2
    · exact (by decide : 1 ≤ 2)
  by_cases h : ts = []
  · subst h
    have a3 : (Str.join ", " ([] : List Str)).length = 0 := rfl
    rw [a3, piled_nil]
    omega
  · have piled_up := join_length_add ts h
    omega
theorem len_int {i : Int} (h : i.natAbs < 10 ^ 60) : ((toString i : String) : Str).length ≤ 62 := by
  by_cases h0 : 0 ≤ i
  · exact Nat.le_trans (PyProof.Rows.toString_length_le h0 (k := 60) (by decide) (by omega)) (by decide)
  · have e := PyProof.Rows.len_text_negI (n := i) (by omega)
    have q := PyProof.Rows.toString_length_le (v := 0 - i) (by omega) (k := 60) (by decide) (by omega)
    have q2 : ((Str.ofString (toString i)).length : Int) ≤ 62 := by omega
    have q3 : (Str.ofString (toString i)).length ≤ 62 := by omega
    exact q3
mutual
theorem wt_ok : ∀ (d : PyData) (n : Nat), Mi.wt d = some n → d.shown.length ≤ n ∧ d.showable = true ∧ d.hasDict = false ∧ d.depth ≤ Mi.dep d
  | .none, n, e => by
    cases e
    exact ⟨by show (4 : Nat) ≤ 5; decide, by simp [PyData.showable], by simp [PyData.hasDict], by simp [PyData.depth]⟩
  | .bool b, n, e => by
    cases e
    refine ⟨?_, by simp [PyData.showable], by simp [PyData.hasDict], by simp [PyData.depth]⟩
    cases b
    · show (5 : Nat) ≤ 5; decide
    · show (4 : Nat) ≤ 5; decide
  | .int i, n, e => by
    unfold Mi.wt at e
    split at e
    · rename_i h
      cases e
      refine ⟨?_, ?_, by simp [PyData.hasDict], by simp [PyData.depth]⟩
      · have := len_int h
        simpa [PyData.shown] using this
      · simp only [PyData.showable, decide_eq_true_eq]
        by_cases h0 : i.natAbs = 0
        · rw [h0]; decide
        · have : i.natAbs.log2 < 200 := (Nat.log2_lt h0).mpr (by omega)
          omega
    · cases e
  | .str s, n, e => by
    unfold Mi.wt at e
    split at e
    · rename_i h
      cases e
      refine ⟨?_, by simp [PyData.showable], by simp [PyData.hasDict], by simp [PyData.depth]⟩
      have := PySem.StrLaws.reprText_len s (fun c hc => by
        have z := List.all_eq_true.mp h c hc
        have z' : c < 4294967296 := of_decide_eq_true z
        exact z')
      simpa [PyData.shown, Str.length] using this
    · cases e
  | .list xs, n, e => by
    unfold Mi.wt at e
    cases ew : Mi.wts xs with
    | none => rw [ew] at e; cases e
    | some k =>
      rw [ew] at e
      cases e
      obtain ⟨h1, h2, h3, h4⟩ := wts_ok xs k ew
      have := len_listText (PyData.shownAll xs)
      refine ⟨by simp only [PyData.shown]; omega, by simp [PyData.showable, h2], by simp [PyData.hasDict, h3], by simp only [PyData.depth, Mi.dep]; omega⟩
  | .tuple xs, n, e => by
    unfold Mi.wt at e
    cases ew : Mi.wts xs with
    | none => rw [ew] at e; cases e
    | some k =>
      rw [ew] at e
      cases e
      obtain ⟨h1, h2, h3, h4⟩ := wts_ok xs k ew
      have := len_tupleText (PyData.shownAll xs)
      refine ⟨by simp only [PyData.shown]; omega, by simp [PyData.showable, h2], by simp [PyData.hasDict, h3], by simp only [PyData.depth, Mi.dep]; omega⟩
  | .dict _, n, e => nomatch e
theorem wts_ok : ∀ (ds : List PyData) (n : Nat), Mi.wts ds = some n → piled (PyData.shownAll ds) ≤ n ∧ PyData.showableAll ds = true ∧ PyData.hasDictAll ds = false ∧ PyData.depthAll ds ≤ Mi.deps ds
  | [], n, e => by
    cases e
    exact ⟨by simp [PyData.shownAll, piled_nil], by simp [PyData.showableAll], by simp [PyData.hasDictAll], by simp [PyData.depthAll]⟩
  | d :: r, n, e => by
    unfold Mi.wts at e
    split at e
    · rename_i a b ea eb
      cases e
      obtain ⟨h1, h2, h3, h4⟩ := wt_ok d a ea
      obtain ⟨i1, i2, i3, i4⟩ := wts_ok r b eb
      refine ⟨by simp only [PyData.shownAll]; rw [piled_cons]; omega, by simp [PyData.showableAll, h2, i2], by simp [PyData.hasDictAll, h3, i3], by simp only [PyData.depthAll, Mi.deps]; omega⟩
    · cases e
end
/-! ### the data -/
section
variable {K : PySem.W.Frag} {kx : Kx} {ρ : Rh} {G : Sto} {H : Hp}
mutual
theorem py_dp : ∀ (x : Dv) (v : V) (d : PyData), Mi.py G x = some d → DR K ρ H x v → Dp K H v d
  | .non, _, _, e, .non => by cases e; exact .non
  | .bl b, _, _, e, .bl _ => by cases e; exact .bl b
  | .int i, _, _, e, .int _ => by cases e; exact .int i
  | .str s, _, _, e, .str _ => by cases e; exact .str _
  | .tup xs, _, d, e, .tup h r => by
    unfold Mi.py at e
    cases ep : Mi.pys G xs with
    | none => rw [ep] at e; cases e
    | some ds =>
      rw [ep] at e
      cases e
      exact .tup h (pys_dp xs _ ds ep r)
  | .fls xs, _, d, e, .fls h n r => by
    unfold Mi.py at e
    cases ep : Mi.pys G xs with
    | none => rw [ep] at e; cases e
    | some ds =>
      rw [ep] at e
      cases e
      exact .lst (SqL.of h) (pys_dp xs _ ds ep r)
  | .scr ns, _, d, e, .scr h => by
    cases e
    exact .lst h.sq (dpInts ns)
  | .ref _, _, _, e, _ => nomatch e
theorem pys_dp : ∀ (xs : List Dv) (vs : List V) (ds : List PyData), Mi.pys G xs = some ds → DRs K ρ H xs vs → DpAll K H vs ds
  | [], _, _, e, .nil => by cases e; exact .nil
  | x :: xs, _, ds, e, .cons a b => by
    unfold Mi.pys at e
    split at e
    · rename_i d ds' e1 e2
      cases e
      exact .cons (py_dp x _ d e1 a) (pys_dp xs _ ds' e2 b)
    · cases e
end
theorem pyT_dp {x : Dv} {v : V} {d : PyData} (rl : Rl K kx ρ G H) (e : Mi.pyT G x = some d) (r : DR K ρ H x v) : Dp K H v d := by
  unfold Mi.pyT at e
  split at e
  · split at e
    · rename_i xs eh
      cases ep : Mi.pys G xs with
      | none => rw [ep] at e; cases e
      | some ds =>
        rw [ep] at e
        cases e
        cases r with
        | ref ea =>
          obtain ⟨vs, h1, r1⟩ := lst_at rl eh ea
          exact .lst (SqL.of h1) (pys_dp xs vs ds ep r1)
    · cases e
  · exact py_dp _ _ _ e r
end
def rRepr (K : PySem.W.Frag) : List V → Hp → VK → Prop := fun xs H Q => ∃ x d, xs = [x] ∧ Dp K H x d ∧ Mi.okR d ∧ Q (.str d.shown) H
theorem call_reprD {X : Cx} (hG : X.A.guards = some []) (hu : X.A.units + 64 < cLine) : CallR X (.builtin "repr") (rRepr X.K) := by
  rintro pins s σ H _ us Q I r ⟨x, d, rfl, dp, ⟨n, hn, hn2, hn3⟩, q⟩
  obtain ⟨u, eu, rx⟩ := vals1 r
  subst eu
  obtain ⟨h1, h2, h3, h4⟩ := wt_ok d n hn
  have hz : d.shown.length ≤ sizeLine := by rw [sizeLine_eq]; omega
  cases dp with
  | non =>
    cases rx
    exact PySem.P.repr_of_none ⟨.str _, H, I.tok _, ⟨_, rfl⟩, q⟩
  | bl b =>
    cases rx
    exact PySem.P.repr_of_bool ⟨.str _, H, I.tok _, ⟨_, rfl⟩, by cases b <;> exact q⟩
  | int i =>
    obtain ⟨t, rfl⟩ := rx
    exact PySem.P.repr_of_int (by simpa [PyData.showable] using h2) ⟨.str _, H, I.tok _, ⟨_, rfl⟩, q⟩
  | str z =>
    obtain ⟨t, rfl⟩ := rx
    exact PySem.P.repr_of_str ⟨.str _, H, I.tok _, ⟨_, rfl⟩, q⟩ hz
  | lst a b =>
    obtain ⟨as, rd⟩ := Dp.reads I _ _ u (.lst a b) rx
    cases rx
    exact repr_of_reads' rd h2 (PyData.noDict_hsm h3) hG (by omega) (fun _ _ e => e) (fun h' u tk k => ⟨.str _, H, I.kept (t' := tk) k, ⟨_, rfl⟩, q⟩) hz
  | tup a b =>
    obtain ⟨as, rd⟩ := Dp.reads I _ _ u (.tup a b) rx
    cases rx
    exact repr_of_reads' rd h2 (PyData.noDict_hsm h3) hG (by omega) (fun _ _ e => e) (fun h' u tk k => ⟨.str _, H, I.kept (t' := tk) k, ⟨_, rfl⟩, q⟩) hz
section
variable {X : Cx} {kx : Kx} {e a b c o : Expr} {ma mb mc me mo : ME} {pos p apos : Pos} {rest es : List Expr} {mas mks : MA}
theorem repr2 {neg : Bool} {r : R2} (hr : ∀ (z : Str) H (Q : VK), Q (.bl (!neg)) H → r (.str z) (.str z) H Q) {σ : St} {H : Hp} {Q : VK} (h : tM X.K kx (Mi.mReprEq neg ma mb) σ H Q) : tOp r (tCB (rRepr X.K) (tCons (tM X.K kx ma) tNil)) (tCB (rRepr X.K) (tCons (tM X.K kx mb) tNil)) σ H Q := by
  obtain ⟨ρ, G, δ, d, G', rl, sr, e, k⟩ := h
  obtain ⟨x, G1, e1, e⟩ := Mi.bnd_eq e
  obtain ⟨y, G2, e2, e⟩ := Mi.bnd_eq e
  split at e
  · rename_i hz
    obtain ⟨pd, p1, p2, p3⟩ := hz
    cases e
    refine ⟨ρ, G, δ, x, G1, rl, sr, e1, fun v ρ1 H1 g1 r1 d1 => ⟨v, pd, rfl, pyT_dp r1 p1 d1, p3, ρ1, G1, δ, y, _, r1, sr.gr g1, e2, fun w ρ2 H2 g2 r2 d2 => ⟨w, pd, rfl, pyT_dp r2 p2 d2, p3, ?_⟩⟩⟩
    exact hr _ _ _ (k _ ρ2 H2 (g1.trans g2) r2 (.bl _))
  · cases e
theorem r_eq (z : Str) (H : Hp) (Q : VK) (q : Q (.bl (!false)) H) : rEq (.str z) (.str z) H Q := ⟨rfl, by simpa using q⟩
theorem r_ne (z : Str) (H : Hp) (Q : VK) (q : Q (.bl (!true)) H) : rNe (.str z) (.str z) H Q := ⟨rfl, by simpa using q⟩
theorem pe_repr {p : Pos} (hG : X.A.guards = some []) (hu : X.A.units + 64 < cLine) (hm : X.mg "repr" = none) (ha : PE X a (tM X.K kx ma)) (hg : Gl X "repr" := by rfl) (he : starEach [a] X.env = (false, eval a X.env) :: starEach [] X.env := by rfl) (hpl : (backTo pos (starEach [] X.env)).any (·.1) = false := by rfl) :
    PE X (.Call (.Name "repr" p) [a] [] pos) (tCB (rRepr X.K) (tCons (tM X.K kx ma) tNil)) := pe_callB (call_reprD hG hu) hg hm (by decide +kernel) (pa_cons ha pa_nil he) (by decide) (by decide) he hpl
theorem m_reprEq {p1 p2 q1 q2 : Pos} (hG : X.A.guards = some []) (hu : X.A.units + 64 < cLine) (hm : X.mg "repr" = none) (ha : PE X a (tM X.K kx ma)) (hb : PE X b (tM X.K kx mb)) (hg : Gl X "repr" := by rfl) (he : starEach [a] X.env = (false, eval a X.env) :: starEach [] X.env := by rfl) (he2 : starEach [b] X.env = (false, eval b X.env) :: starEach [] X.env := by rfl) (hp1 : (backTo q1 (starEach [] X.env)).any (·.1) = false := by rfl) (hp2 : (backTo q2 (starEach [] X.env)).any (·.1) = false := by rfl) :
    PE X (.Compare (.Call (.Name "repr" p1) [a] [] q1) [.Eq] [.Call (.Name "repr" p2) [b] [] q2] pos) (tM X.K kx (Mi.mReprEq false ma mb)) := (pe_cmpR op_eq (pe_repr hG hu hm ha hg he hp1) (pe_repr hG hu hm hb hg he2 hp2) (nomark _)).imp fun _ _ _ h => repr2 r_eq h
theorem m_reprNe {p1 p2 q1 q2 : Pos} (hG : X.A.guards = some []) (hu : X.A.units + 64 < cLine) (hm : X.mg "repr" = none) (ha : PE X a (tM X.K kx ma)) (hb : PE X b (tM X.K kx mb)) (hg : Gl X "repr" := by rfl) (he : starEach [a] X.env = (false, eval a X.env) :: starEach [] X.env := by rfl) (he2 : starEach [b] X.env = (false, eval b X.env) :: starEach [] X.env := by rfl) (hp1 : (backTo q1 (starEach [] X.env)).any (·.1) = false := by rfl) (hp2 : (backTo q2 (starEach [] X.env)).any (·.1) = false := by rfl) :
    PE X (.Compare (.Call (.Name "repr" p1) [a] [] q1) [.NotEq] [.Call (.Name "repr" p2) [b] [] q2] pos) (tM X.K kx (Mi.mReprEq true ma mb)) := (pe_cmpR op_ne (pe_repr hG hu hm ha hg he hp1) (pe_repr hG hu hm hb hg he2 hp2) (nomark _)).imp fun _ _ _ h => repr2 r_ne h
theorem m_reprEqT {p1 p2 q1 q2 : Pos} (hG : X.A.guards = some []) (hu : X.A.units + 64 < cLine) (hm : X.mg "repr" = none) (ha : PE X a (tM X.K kx ma)) (hb : PE X b (tM X.K kx mb)) (hg : Gl X "repr" := by rfl) (he : starEach [a] X.env = (false, eval a X.env) :: starEach [] X.env := by rfl) (he2 : starEach [b] X.env = (false, eval b X.env) :: starEach [] X.env := by rfl) (hp1 : (backTo q1 (starEach [] X.env)).any (·.1) = false := by rfl) (hp2 : (backTo q2 (starEach [] X.env)).any (·.1) = false := by rfl) :
    PT X (.Compare (.Call (.Name "repr" p1) [a] [] q1) [.Eq] [.Call (.Name "repr" p2) [b] [] q2] pos) (tMT X.K kx (Mi.mTb (Mi.mReprEq false ma mb))) := (pt_cmpR op_eq (pe_repr hG hu hm ha hg he hp1) (pe_repr hG hu hm hb hg he2 hp2) (nomark _)).imp fun _ _ _ h => tTb (fun _ h => repr2 r_eq h) h
theorem m_reprNeT {p1 p2 q1 q2 : Pos} (hG : X.A.guards = some []) (hu : X.A.units + 64 < cLine) (hm : X.mg "repr" = none) (ha : PE X a (tM X.K kx ma)) (hb : PE X b (tM X.K kx mb)) (hg : Gl X "repr" := by rfl) (he : starEach [a] X.env = (false, eval a X.env) :: starEach [] X.env := by rfl) (he2 : starEach [b] X.env = (false, eval b X.env) :: starEach [] X.env := by rfl) (hp1 : (backTo q1 (starEach [] X.env)).any (·.1) = false := by rfl) (hp2 : (backTo q2 (starEach [] X.env)).any (·.1) = false := by rfl) :
    PT X (.Compare (.Call (.Name "repr" p1) [a] [] q1) [.NotEq] [.Call (.Name "repr" p2) [b] [] q2] pos) (tMT X.K kx (Mi.mTb (Mi.mReprEq true ma mb))) := (pt_cmpR op_ne (pe_repr hG hu hm ha hg he hp1) (pe_repr hG hu hm hb hg he2 hp2) (nomark _)).imp fun _ _ _ h => tTb (fun _ h => repr2 r_ne h) h
/-! ### dict displays -/
/-- the pairs' readings -/
def trs (K : PySem.W.Frag) (kx : Kx) (ps : List (ME × ME)) : List (TE × TE) := ps.map fun p => (tM K kx p.1, tM K kx p.2)
theorem pairs_go {K : PySem.W.Frag} {δ : Sl} : ∀ {ps : List (ME × ME)} {ρ : Rh} {G : Sto} {kvs : List (Mi.Key × Dv)} {G' : Sto} {σ : St} {H : Hp} {R : List (V × V) → Hp → Prop}, Rl K kx ρ G H → Sr K ρ H δ σ → Mi.mPairs ps δ G = some (kvs, G') →
    (∀ (ks : List (L2.Key × V)) ρ' H', Gr ρ H ρ' H' → Rl K kx ρ' G' H' → KR K ρ' H' kvs ks → R (ks.map fun kv => (kV kv.1, kv.2)) H') → tPairs (trs K kx ps) σ H R
  | [], ρ, G, kvs, G', σ, H, R, rl, sr, e, k => by
    cases e
    exact k [] ρ H Gr.refl rl .nil
  | (mk, mv) :: r, ρ, G, kvs, G', σ, H, R, rl, sr, e, k => by
    obtain ⟨y, G1, e1, e⟩ := Mi.bnd_eq e
    obtain ⟨x, G2, e2, e⟩ := Mi.bnd_eq e
    obtain ⟨ps', G3, e3, e⟩ := Mi.bnd_eq e
    split at e
    · rename_i ky ek
      cases e
      refine ⟨ρ, G, δ, y, G1, rl, sr, e1, fun v ρ1 H1 g1 r1 d1 => ⟨ρ1, G1, δ, x, G2, r1, sr.gr g1, e2, fun w ρ2 H2 g2 r2 d2 => pairs_go r2 (sr.gr (g1.trans g2)) e3 fun ks ρ3 H3 g3 r3 kr => ?_⟩⟩
      have ev := kOf_v ek d1
      subst ev
      exact k ((kK ky, w) :: ks) ρ3 H3 ((g1.trans g2).trans g3) r3 (.cons ⟨rfl, d2.gr g3⟩ kr)
    · cases e
theorem merge_ok {K : PySem.W.Frag} {ρ : Rh} {H : Hp} : ∀ {kvs : List (Mi.Key × Dv)} {ks : List (L2.Key × V)} {acc : List (Mi.Key × Dv)} {acc' : List (L2.Key × V)}, KR K ρ H kvs ks → KR K ρ H acc acc' → KR K ρ H (kvs.foldl (fun acc kv => Mi.put acc kv.1 kv.2) acc) (mergeK acc' ks)
  | _, _, _, _, .nil, q => q
  | (k, d) :: r, (k', v) :: r', acc, acc', .cons ⟨h1, h2⟩ t, q => by
    have h1' : k' = kK k := h1
    subst h1'
    exact merge_ok (kvs := r) (ks := r') (acc := Mi.put acc k d) (acc' := putK acc' (kK k) v) t (put_ok q h2)
theorem m_disp {keys : List (Option Expr)} {values : List Expr} {ps : List (ME × ME)} (h : PPs X pos keys values (trs X.K kx ps)) (hall : keys.all (·.isSome) = true := by rfl) (hl : keys.length = values.length := by rfl) (h0 : keys ≠ [] := by exact fun z => by cases z) (h15 : keys.length ≤ 15 := by decide) :
    PE X (.Dict keys values pos) (tM X.K kx (Mi.mDisp ps)) := (pe_disp h hall hl h0 h15).imp fun σ H Q ⟨ρ, G, δ, d, G', rl, sr, e, k⟩ => by
  intro p hp
  obtain ⟨kvs, G1, e1, e⟩ := Mi.bnd_eq e
  obtain ⟨g0, r0⟩ := rl.grow (p := p) (o := .dK []) (m := .dct []) hp fun g => .dct upd_same .nil
  refine pairs_go r0 (sr.gr g0) e1 fun ks ρ1 H1 g1 r1 kr => ?_
  split at e
  · rename_i eh
    split at e
    · rename_i hz
      cases e
      have ea : ρ1.r[G.length]? = some p := ref_gr (K := X.K) g1 (by rw [← rl.len, List.getElem?_append_right (Nat.le_refl _)]; simp)
      obtain ⟨ks0, h1, kr0⟩ := dct_at r1 eh ea
      cases kr0
      refine ⟨h1, ks, rfl, by rw [← kr.len]; exact hz, ?_⟩
      obtain ⟨g2, r2⟩ := r1.wr (o := .dK (mergeK [] ks)) (m := .dct (kvs.foldl (fun acc kv => Mi.put acc kv.1 kv.2) [])) ea fun g => .dct upd_same ((merge_ok kr .nil).imp fun _ _ q => ⟨q.1, q.2.gr g⟩)
      exact k (.ref p) _ _ ((g0.trans g1).trans g2) r2 (.ref (ref_gr (K := X.K) g2 ea))
    · cases e
  · cases e
theorem m_pnil : PPs X pos [] [] (trs X.K kx []) := pps_nil
theorem m_pcons {k v : Expr} {mk mv : ME} {ks : List (Option Expr)} {vs : List Expr} {ps : List (ME × ME)} (hk : PE X k (tM X.K kx mk)) (hv : PE X v (tM X.K kx mv)) (hr : PPs X pos ks vs (trs X.K kx ps)) : PPs X pos (some k :: ks) (v :: vs) (trs X.K kx ((mk, mv) :: ps)) := pps_cons hk hv hr
end
end Ms

/-! PyS4: statements, targets, loops, comprehensions. -/
namespace Ms
open PySem L2
open Mi (Dv MO Sto Sl Rs bnd ME MT MA MS MF Fl MG MGs MI)
/-- what follows a statement's end -/
def Ko (K : PySem.W.Frag) (kx : Kx) (ρ : Rh) (H : Hp) (f : Fl) (δ' : Sl) (G' : Sto) (D : Ends) : Prop := ∀ ρ' σ' H', Gr ρ H ρ' H' → Rl K kx ρ' G' H' → Sr K ρ' H' δ' σ' → match f with
  | .nx => D.nx σ' H'
  | .rt d => ∀ v, DR K ρ' H' d v → D.rt v H'
  | .bk => D.bk σ' H'
  | .ct => D.ct σ' H'
theorem Ko.gr {K : PySem.W.Frag} {kx : Kx} {ρ ρ1 : Rh} {H H1 : Hp} {f : Fl} {δ' : Sl} {G' : Sto} {D : Ends} (g : Gr ρ H ρ1 H1) (k : Ko K kx ρ H f δ' G' D) : Ko K kx ρ1 H1 f δ' G' D := fun ρ' σ' H' g' r s => k ρ' σ' H' (g.trans g') r s
def sM (K : PySem.W.Frag) (kx : Kx) (m : MS) : TS := fun D σ H => ∃ (ρ : Rh) (G : Sto) (δ : Sl) (f : Fl) (δ' : Sl) (G' : Sto), Rl K kx ρ G H ∧ Sr K ρ H δ σ ∧ m δ G = some (f, δ', G') ∧ Ko K kx ρ H f δ' G' D
theorem _root_.L2.PS.imp {X : Cx} {e : Stmt} {t u : TS} (h : PS X e t) (i : ∀ D σ H, u D σ H → t D σ H) : PS X e u := ⟨fun pins s σ H D I q => h.run pins s σ H D I (i D σ H q)⟩
theorem _root_.L2.PSs.imp {X : Cx} {e : List Stmt} {t u : TS} (h : PSs X e t) (i : ∀ D σ H, u D σ H → t D σ H) : PSs X e u := ⟨fun pins s σ H D I q => h.run pins s σ H D I (i D σ H q)⟩
theorem _root_.L2.PI.imp {X : Cx} {tg e : Expr} {t u : TI} (h : PI X tg e t) (i : ∀ σ H R, u σ H R → t σ H R) : PI X tg e u := ⟨fun pins s σ H R I q => h.run pins s σ H R I (i σ H R q)⟩
theorem _root_.L2.PI.or {X : Cx} {tg e : Expr} {t u : TI} (h : PI X tg e t) (h' : PI X tg e u) : PI X tg e (fun σ H R => t σ H R ∨ u σ H R) := ⟨fun pins s σ H R I q => q.elim (h.run pins s σ H R I) (h'.run pins s σ H R I)⟩
theorem _root_.L2.PG.imp {X : Cx} {e : Expr} {t u : TG} (h : PG X e t) (i : ∀ v σ H Q, u v σ H Q → t v σ H Q) : PG X e u := ⟨fun pins s σ H v w Q I r q => h.run pins s σ H v w Q I r (i v σ H Q q)⟩
theorem _root_.L2.PGs.imp {X : Cx} {e : List Expr} {t u : TGs} (h : PGs X e t) (i : ∀ v σ H Q, u v σ H Q → t v σ H Q) : PGs X e u := ⟨fun pins s σ H v w Q I r q => h.run pins s σ H v w Q I r (i v σ H Q q)⟩
/-- a target's reading; ws: the slots that it stores -/
def tG (K : PySem.W.Frag) (kx : Kx) (ws : List Nat) (g : MG) : TG := fun v σ H Q => ∃ (ρ : Rh) (G : Sto) (δ : Sl) (d : Dv) (δ' : Sl) (G' : Sto), Rl K kx ρ G H ∧ Sr K ρ H δ σ ∧ DR K ρ H d v ∧ g d δ G = some (δ', G') ∧
  ∀ ρ' σ' H', Gr ρ H ρ' H' → Rl K kx ρ' G' H' → Sr K ρ' H' δ' σ' → σ'.length = σ.length → (∀ i, i ∉ ws → σ'[i]? = σ[i]?) → Q σ' H'
def tGs (K : PySem.W.Frag) (kx : Kx) (ws : List Nat) (g : MGs) : TGs := fun vs σ H Q => ∃ (ρ : Rh) (G : Sto) (δ : Sl) (ds : List Dv) (δ' : Sl) (G' : Sto), Rl K kx ρ G H ∧ Sr K ρ H δ σ ∧ DRs K ρ H ds vs ∧ g ds δ G = some (δ', G') ∧
  ∀ ρ' σ' H', Gr ρ H ρ' H' → Rl K kx ρ' G' H' → Sr K ρ' H' δ' σ' → σ'.length = σ.length → (∀ i, i ∉ ws → σ'[i]? = σ[i]?) → Q σ' H'
section
variable {X : Cx} {kx : Kx} {e a b c o tg : Expr} {ma mb mc me mo : ME} {mt : MT} {pos p apos pos' : Pos} {st : Stmt} {rest sa sb es : List Expr} {mas mks : MA} {ms ms' : MS} {bs : List Stmt} {x y : Str}

/-! ### targets -/
theorem g_name (i : Nat) (hN : X.N.Nodup) (hi : X.N[i]? = some x := by rfl) (hx : Loc X.env.scope x := by first | exact Or.inl rfl | exact Or.inr rfl) (hf : X.fn x = true ∨ X.env.scope.names.lookup x = some .local := by first | exact .inl rfl | exact .inr rfl | assumption) : PG X (.Name x pos) (tG X.K kx [i] (Mi.gNm i)) :=
  (pg_name hN hi hx hf).imp fun v σ H Q ⟨ρ, G, δ, d, δ', G', rl, sr, dr, e, k⟩ => by
  cases e
  exact k ρ _ H Gr.refl rl (sr.set i dr) (by rw [List.length_set]) fun j hj => List.getElem?_set_ne (fun z => hj (by simp [z]))
theorem g_nil : PGs X [] (tGs X.K kx [] Mi.gNil) := pgs_nil.imp fun v σ H Q ⟨ρ, G, δ, d, δ', G', rl, sr, dr, e, k⟩ => by
  cases dr with
  | nil =>
    cases e
    exact ⟨rfl, k ρ σ H Gr.refl rl sr rfl fun _ _ => rfl⟩
  | cons _ _ => cases e
theorem g_cons {ws ws' : List Nat} {g : MG} {gs : MGs} (h1 : PG X e (tG X.K kx ws g)) (h2 : PGs X es (tGs X.K kx ws' gs)) (hs : (assignEach (e :: es) X.env).map (·.2) = assign e X.env :: (assignEach es X.env).map (·.2) := by rfl) : PGs X (e :: es) (tGs X.K kx (ws ++ ws') (Mi.gCons g gs)) :=
  (pgs_cons h1 h2 hs).imp fun v σ H Q ⟨ρ, G, δ, d, δ', G', rl, sr, dr, e, k⟩ => by
  cases dr with
  | nil => cases e
  | @cons d ds v vs d1 d2 =>
    refine ⟨v, vs, rfl, ?_⟩
    unfold Mi.gCons at e
    dsimp only at e
    split at e
    · rename_i δ1 G1 eg
      refine ⟨ρ, G, δ, d, δ1, G1, rl, sr, d1, eg, fun ρ1 σ1 H1 g1 r1 s1 l1 n1 => ⟨ρ1, G1, δ1, ds, δ', G', r1, s1, d2.gr g1, e, fun ρ2 σ2 H2 g2 r2 s2 l2 n2 => k ρ2 σ2 H2 (g1.trans g2) r2 s2 (l2.trans l1) fun i hi => ?_⟩⟩
      have h1 : i ∉ ws := fun z => hi (List.mem_append_left _ z)
      have h2 : i ∉ ws' := fun z => hi (List.mem_append_right _ z)
      exact (n2 i h2).trans (n1 i h1)
    · cases e
theorem g_tup {ws : List Nat} {gs : MGs} {n : Nat} {kk : Nat} (hc : X.calm = true) (h : PGs X es (tGs X.K kx ws gs)) (hn : (assignEach es X.env).length = n := by rfl) (hst : (assignEach es X.env).findIdx? (·.1) = none := by rfl) : PG X (.Tuple es kk pos) (tG X.K kx ws (Mi.gTup n gs)) :=
  (pg_tup hc h hn hst).imp fun v σ H Q ⟨ρ, G, δ, d, δ', G', rl, sr, dr, e, k⟩ => by
  cases dr with
  | tup h r =>
    unfold Mi.gTup at e
    dsimp only at e
    split at e
    · rename_i hz
      exact ⟨_, _, rfl, h, by rw [← r.len]; exact hz, ρ, G, δ, _, δ', G', rl, sr, r, e, k⟩
    · cases e
  | _ => cases e

/-! ### statements -/
theorem s_nil : PSs X [] (sM X.K kx Mi.mSkip) := pss_nil.imp fun D σ H ⟨ρ, G, δ, f, δ', G', rl, sr, e, k⟩ => by
  cases e
  exact k ρ σ H Gr.refl rl sr
theorem s_seq (h1 : PS X st (sM X.K kx ms)) (h2 : PSs X bs (sM X.K kx ms')) : PSs X (st :: bs) (sM X.K kx (Mi.mSeq ms ms')) := (pss_cons h1 h2).imp fun D σ H ⟨ρ, G, δ, f, δ', G', rl, sr, e, k⟩ => by
  unfold Mi.mSeq at e
  split at e
  · rename_i δ1 G1 ea
    exact ⟨ρ, G, δ, .nx, δ1, G1, rl, sr, ea, fun ρ1 σ1 H1 g r s => ⟨ρ1, G1, δ1, f, δ', G', r, s, e, k.gr g⟩⟩
  · rename_i hne
    refine ⟨ρ, G, δ, f, δ', G', rl, sr, e, fun ρ1 σ1 H1 g r s => ?_⟩
    have := k ρ1 σ1 H1 g r s
    cases f with
    | nx => exact absurd e (hne δ' G')
    | rt d => exact this
    | bk => exact this
    | ct => exact this
theorem s_one (h1 : PS X st (sM X.K kx ms)) : PSs X [st] (sM X.K kx ms) := pss_one h1
theorem s_pass : PS X (.Pass pos) (sM X.K kx Mi.mSkip) := ps_pass.imp fun D σ H ⟨ρ, G, δ, f, δ', G', rl, sr, e, k⟩ => by
  cases e
  exact k ρ σ H Gr.refl rl sr
theorem s_brk : PS X (.Break pos) (sM X.K kx Mi.mBrk) := ps_break.imp fun D σ H ⟨ρ, G, δ, f, δ', G', rl, sr, e, k⟩ => by
  cases e
  exact k ρ σ H Gr.refl rl sr
theorem s_cont : PS X (.Continue pos) (sM X.K kx Mi.mCont) := ps_continue.imp fun D σ H ⟨ρ, G, δ, f, δ', G', rl, sr, e, k⟩ => by
  cases e
  exact k ρ σ H Gr.refl rl sr
theorem s_fail : PS X st (sM X.K kx Mi.mFail) := ps_never.imp fun D σ H ⟨ρ, G, δ, f, δ', G', rl, sr, e, k⟩ => nomatch e
theorem ss_fail : PSs X bs (sM X.K kx Mi.mFail) := pss_never.imp fun D σ H ⟨ρ, G, δ, f, δ', G', rl, sr, e, k⟩ => nomatch e
theorem asg_go {ws : List Nat} {g : MG} {D : Ends} {σ : St} {H : Hp} (h : sM X.K kx (Mi.mAsg me g) D σ H) : tAsg (tM X.K kx me) (tG X.K kx ws g) D σ H := by
  obtain ⟨ρ, G, δ, f, δ', G', rl, sr, e, k⟩ := h
  unfold Mi.mAsg at e
  split at e
  · rename_i d G1 e1
    split at e
    · rename_i δ2 G2 e2
      cases e
      exact ⟨ρ, G, δ, d, G1, rl, sr, e1, fun v ρ1 H1 g1 r1 d1 => ⟨ρ1, G1, δ, d, _, _, r1, sr.gr g1, d1, e2, fun ρ2 σ2 H2 g2 r2 s2 _ _ => k ρ2 σ2 H2 (g1.trans g2) r2 s2⟩⟩
    · cases e
  · cases e
theorem s_asg {ws : List Nat} {g : MG} (he : PE X e (tM X.K kx me)) (hg : PG X tg (tG X.K kx ws g)) (hs : swapsWithSole [tg] e pos.line X.env = pure false := by rfl) (hw : swappedStores [tg] e X.env = pure none := by rfl) (h1 : (assignEach [tg] X.env).map (·.2) = [assign tg X.env] := by rfl) : PS X (.Assign [tg] e pos) (sM X.K kx (Mi.mAsg me g)) :=
  (ps_asg he hg hs hw h1).imp fun D σ H h => asg_go h
theorem s_set (i : Nat) (hN : X.N.Nodup) (he : PE X e (tM X.K kx me)) (hi : X.N[i]? = some x := by rfl) (hx : Loc X.env.scope x := by first | exact Or.inl rfl | exact Or.inr rfl) (hs : swapsWith e (some (.Name x pos')) pos.line X.env = pure false := by rfl) (hf : X.fn x = true ∨ X.env.scope.names.lookup x = some .local := by first | exact .inl rfl | exact .inr rfl | assumption) :
    PS X (.Assign [.Name x pos'] e pos) (sM X.K kx (Mi.mAsg me (Mi.gNm i))) := (ps_set hN hi hx he hs hf).imp fun D σ H ⟨ρ, G, δ, f, δ', G', rl, sr, e, k⟩ => by
  unfold Mi.mAsg at e
  split at e
  · rename_i d G1 e1
    cases e
    exact ⟨ρ, G, δ, d, _, rl, sr, e1, fun v ρ1 H1 g1 r1 d1 => k ρ1 _ H1 g1 r1 ((sr.gr g1).set i d1)⟩
  · cases e
theorem s_par (i j : Nat) {px py pt pt2 : Pos} {kt k2} (hc : X.calm = true) (hN : X.N.Nodup) (ha : PA X [a, b] (tMA X.K kx mas)) (hi : X.N[i]? = some x := by rfl) (hj : X.N[j]? = some y := by rfl) (hij : i ≠ j := by decide) (hx : X.env.scope.names.lookup x = some .local := by rfl) (hy : X.env.scope.names.lookup y = some .local := by rfl)
    (hw : swappedStores [.Tuple [.Name x px, .Name y py] kt pt] (.Tuple [a, b] k2 pt2) X.env = pure (some [x, y]) := by rfl) : PS X (.Assign [.Tuple [.Name x px, .Name y py] kt pt] (.Tuple [a, b] k2 pt2) pos) (sM X.K kx (Mi.mPar i j mas)) :=
  (ps_par hc hN hi hj hij hx hy ha hw).imp fun D σ H ⟨ρ, G, δ, f, δ', G', rl, sr, e, k⟩ => by
  unfold Mi.mPar at e
  split at e
  · rename_i u v G1 e1
    cases e
    refine ⟨ρ, G, δ, _, _, rl, sr, e1, fun vs ρ1 H1 g1 r1 d1 => ?_⟩
    cases d1 with
    | cons p q =>
      cases q with
      | cons q t =>
        cases t
        exact ⟨_, _, rfl, k ρ1 _ H1 g1 r1 (((sr.gr g1).set i p).set j q)⟩
  · cases e
theorem s_expr (he : PE X e (tM X.K kx me)) (hs : swapsWith e none pos.line X.env = pure false := by rfl) : PS X (.Expr e pos) (sM X.K kx (Mi.mExpr me)) := (ps_expr he hs).imp fun D σ H ⟨ρ, G, δ, f, δ', G', rl, sr, e, k⟩ => by
  unfold Mi.mExpr at e
  split at e
  · rename_i d G1 e1
    cases e
    exact ⟨ρ, G, δ, d, _, rl, sr, e1, fun v ρ1 H1 g1 r1 d1 => k ρ1 σ H1 g1 r1 (sr.gr g1)⟩
  · cases e
theorem s_doc {z j} {pos1 : Pos} : PS X (.Expr (.Constant (.str z) j pos1) pos) (sM X.K kx Mi.mSkip) := ps_doc.imp fun D σ H ⟨ρ, G, δ, f, δ', G', rl, sr, e, k⟩ => by
  cases e
  exact k ρ σ H Gr.refl rl sr
theorem s_ret (he : PE X e (tM X.K kx me)) : PS X (.Return (some e) pos) (sM X.K kx (Mi.mRet me)) := (ps_ret he).imp fun D σ H ⟨ρ, G, δ, f, δ', G', rl, sr, e, k⟩ => by
  unfold Mi.mRet at e
  split at e
  · rename_i d G1 e1
    cases e
    exact ⟨ρ, G, δ, d, _, rl, sr, e1, fun v ρ1 H1 g1 r1 d1 => k ρ1 σ H1 g1 r1 (sr.gr g1) v d1⟩
  · cases e
theorem s_retN : PS X (.Return none pos) (sM X.K kx Mi.mRetN) := ps_retN.imp fun D σ H ⟨ρ, G, δ, f, δ', G', rl, sr, e, k⟩ => by
  cases e
  exact k ρ σ H Gr.refl rl sr .non .non
theorem s_if {ta tb : List Stmt} (hc : PT X c (tMT X.K kx mt)) (ha : PSs X ta (sM X.K kx ms)) (hb : PSs X tb (sM X.K kx ms')) : PS X (.If c ta tb pos) (sM X.K kx (Mi.mIfS mt ms ms')) := (ps_if hc ha hb).imp fun D σ H ⟨ρ, G, δ, f, δ', G', rl, sr, e, k⟩ => by
  unfold Mi.mIfS at e
  split at e
  · rename_i G1 e1
    refine ⟨ρ, G, δ, true, G1, rl, sr, e1, fun ρ1 H1 g1 r1 => ?_⟩
    dsimp only
    rw [if_pos rfl]
    exact ⟨ρ1, G1, δ, f, δ', G', r1, sr.gr g1, e, k.gr g1⟩
  · rename_i G1 e1
    refine ⟨ρ, G, δ, false, G1, rl, sr, e1, fun ρ1 H1 g1 r1 => ?_⟩
    dsimp only
    rw [if_neg (fun z => Bool.false_ne_true z)]
    exact ⟨ρ1, G1, δ, f, δ', G', r1, sr.gr g1, e, k.gr g1⟩
  · cases e
theorem s_aug (i : Nat) {op : Operator} {r : R2} {f : Mi.B2} (hN : X.N.Nodup) (ho : OpR X (inplaceOp op) r) (hf : B2ok X kx f r) (he : PE X e (tM X.K kx me)) (hi : X.N[i]? = some x := by rfl) (hx : Loc X.env.scope x := by first | exact Or.inl rfl | exact Or.inr rfl)
    (hfn : X.fn x = true ∨ X.env.scope.names.lookup x = some .local := by first | exact .inl rfl | exact .inr rfl | assumption) : PS X (.AugAssign (.Name x pos') op e pos) (sM X.K kx (Mi.mAug i f me)) := (ps_aug (X := X) (ti := r) hN hi hx he (fun pins s σ H x y v u Q I rx ry q => ho pins s σ H x y v u Q I rx ry q)).imp fun D σ H ⟨ρ, G, δ, fl, δ', G', rl, sr, e, k⟩ => by
  unfold Mi.mAug at e
  split at e
  · rename_i d0 e0
    split at e
    · rename_i y G1 e1
      split at e
      · rename_i z G2 e2
        cases e
        obtain ⟨v, h1, h2⟩ := sr.at_ i d0 e0
        exact ⟨v, h1, ρ, G, δ, y, G1, rl, sr, e1, fun w ρ1 H1 g1 r1 d1 => hf _ _ _ _ _ ρ1 H1 v w _ e2 r1 (h2.gr g1) d1 fun u ρ2 H2 g2 r2 d2 => k ρ2 _ H2 (g1.trans g2) r2 ((sr.gr (g1.trans g2)).set i d2)⟩
      · cases e
    · cases e
  · cases e
theorem AR_len {K : PySem.W.Frag} {ρ : Rh} {H : Hp} {fs : List (String × Dv)} {fs' : List (Str × V)} (r : FR K ρ H fs fs') : fs.length = fs'.length := AR.len r
theorem s_setF {cs : List Nat} {f : String} (hf : Fok X.K kx cs f) (ho : PE X o (tM X.K kx mo)) (he : PE X e (tM X.K kx me)) (hs : swapsWith e (some (.Attribute o (Str.ofString f) pos')) pos.line X.env = pure false := by rfl) : PS X (.Assign [.Attribute o (Str.ofString f) pos'] e pos) (sM X.K kx (Mi.mSetF cs mo f me)) :=
  (ps_fld ho he hs).imp fun D σ H ⟨ρ, G, δ, fl, δ', G', rl, sr, e, k⟩ => by
  unfold Mi.mSetF at e
  split at e
  · rename_i y G1 e1
    split at e
    · rename_i h G2 e2
      split at e
      · rename_i cn fs eh
        split at e
        · rename_i hz
          obtain ⟨hz1, hz2⟩ := hz
          cases e
          refine ⟨ρ, G, δ, y, G1, rl, sr, e1, fun w ρ1 H1 g1 r1 d1 => ⟨ρ1, G1, δ, _, G2, r1, sr.gr g1, e2, fun v ρ2 H2 g2 r2 d2 => ?_⟩⟩
          cases d2 with
          | ref ea =>
            obtain ⟨dx, fs', h1, fr⟩ := ins_at r2 eh ea
            obtain ⟨g3, r3⟩ := r2.wr (o := .ins (kx.ca cn) dx (L2.putF (Str.ofString f) w fs')) (m := .ins cn (Mi.putF f y fs)) ea fun g => .ins upd_same ((fput_ok (d1.gr g2) fr).imp fun _ _ q => ⟨q.1, q.2.gr g⟩)
            exact ⟨_, _, dx, fs', rfl, h1, (hf cn hz1).1, (hf cn hz1).2, by rw [← AR_len fr]; exact hz2, k _ σ _ ((g1.trans g2).trans g3) r3 (sr.gr ((g1.trans g2).trans g3))⟩
        · cases e
      · cases e
    · cases e
  · cases e
theorem s_augF {cs : List Nat} {f : String} {op : Operator} {r : R2} {m : Mi.B2} (hf : Fok X.K kx cs f) (hop : InOp X op r) (hm : B2ok X kx m r) (ho : PE X o (tM X.K kx mo)) (he : PE X e (tM X.K kx me)) : PS X (.AugAssign (.Attribute o (Str.ofString f) pos') op e pos) (sM X.K kx (Mi.mAugF cs mo f m me)) :=
  (ps_fldaug ho he hop).imp fun D σ H ⟨ρ, G, δ, fl, δ', G', rl, sr, e, k⟩ => by
  unfold Mi.mAugF at e
  split at e
  · rename_i h G1 e1
    split at e
    · rename_i cn fs eh
      split at e
      · rename_i hc
        split at e
        · rename_i x0 ex
          split at e
          · rename_i y G2 e2
            split at e
            · rename_i z G3 e3
              split at e
              · rename_i cn' fs2 eh2
                split at e
                · rename_i hz
                  obtain ⟨hz1, hz2⟩ := hz
                  subst hz1
                  cases e
                  refine ⟨ρ, G, δ, _, G1, rl, sr, e1, fun v ρ1 H1 g1 r1 d1 => ?_⟩
                  cases d1 with
                  | ref ea =>
                    obtain ⟨dx, fs', h1, fr⟩ := ins_at r1 eh ea
                    obtain ⟨w, hw, rw'⟩ := (flook_ok (f := f) fr).1 _ ex
                    refine ⟨_, _, dx, fs', w, rfl, h1, (hf _ hc).1, (hf _ hc).2, hw, ρ1, G1, δ, y, G2, r1, sr.gr g1, e2, fun u ρ2 H2 g2 r2 d2 => ?_⟩
                    refine hm _ _ _ _ _ ρ2 H2 w u _ e3 r2 (rw'.gr g2) d2 fun q ρ3 H3 g3 r3 d3 => ?_
                    have ea3 := ref_gr (K := X.K) (g2.trans g3) ea
                    obtain ⟨dx3, fs3, h3, fr3⟩ := ins_at r3 eh2 ea3
                    obtain ⟨g4, r4⟩ := r3.wr (o := .ins (kx.ca cn') dx3 (L2.putF (Str.ofString f) q fs3)) (m := .ins cn' (Mi.putF f z fs2)) ea3 fun g => .ins upd_same ((fput_ok d3 fr3).imp fun _ _ q => ⟨q.1, q.2.gr g⟩)
                    exact ⟨dx3, fs3, h3, by rw [← AR_len fr3]; exact hz2, k _ σ _ (((g1.trans g2).trans g3).trans g4) r4 (sr.gr (((g1.trans g2).trans g3).trans g4))⟩
                · cases e
              · cases e
            · cases e
          · cases e
        · cases e
      · cases e
    · cases e
  · cases e
theorem ixN_dr {K : PySem.W.Frag} {ρ : Rh} {H : Hp} {xs : List Dv} {vs : List V} (r : DRs K ρ H xs vs) (i : Int) : Mi.ixN xs.length i = L2.ixN vs.length i := by rw [ixN_eq, r.len]
/-- xs[i] = e -/
theorem s_setI {i : Expr} {mi : ME} (ho : PE X o (tM X.K kx mo)) (hi : PE X i (tM X.K kx mi)) (he : PE X e (tM X.K kx me)) (hs : swapsWithSole [.Subscript o i pos'] e pos.line X.env = pure false := by rfl) (hw : swappedStores [.Subscript o i pos'] e X.env = pure none := by rfl) (h1 : (assignEach [.Subscript o i pos'] X.env).map (·.2) = [assign (.Subscript o i pos') X.env] := by rfl)
    (ha : ∀ v, assign (.Subscript o i pos') X.env v = (do let ov ← holding [v] (eval o X.env); let iv ← holding [v, ov] (eval i X.env); standAt pos'; holding [v, ov, iv] (setItem ov iv v); release [v, ov, iv] []) := by intro _; rfl) : PS X (.Assign [.Subscript o i pos'] e pos) (sM X.K kx (Mi.mSetI mo mi me)) :=
  (ps_asg he (pg_sub ho hi set_list ha) hs hw h1).imp fun D σ H ⟨ρ, G, δ, fl, δ', G', rl, sr, e, k⟩ => by
  unfold Mi.mSetI at e
  split at e
  · rename_i y G1 e1
    split at e
    · rename_i h G2 e2
      split at e
      · rename_i kk G3 e3
        split at e
        · rename_i xs eh
          split at e
          · rename_i j ej
            cases e
            refine ⟨ρ, G, δ, y, G1, rl, sr, e1, fun w ρ1 H1 g1 r1 d1 => ⟨ρ1, G1, δ, _, G2, r1, sr.gr g1, e2, fun v ρ2 H2 g2 r2 d2 => ⟨ρ2, G2, δ, _, G3, r2, sr.gr (g1.trans g2), e3, fun u ρ3 H3 g3 r3 d3 => ?_⟩⟩⟩
            cases d3
            cases d2 with
            | ref ea =>
              have ea3 := ref_gr (K := X.K) g3 ea
              obtain ⟨vs, h3, rv⟩ := lst_at r3 eh ea3
              obtain ⟨g4, r4⟩ := r3.wr (o := .lst (vs.set j w)) (m := .lst (xs.set j y)) ea3 fun g => .lst upd_same ((rv.set j (d1.gr (g2.trans g3))).gr g)
              exact ⟨_, vs, _, j, rfl, rfl, h3, by rw [← ixN_dr rv]; exact ej, k _ σ _ (((g1.trans g2).trans g3).trans g4) r4 (sr.gr (((g1.trans g2).trans g3).trans g4))⟩
          · cases e
        · cases e
      · cases e
    · cases e
  · cases e
/-- d[k] = e -/
theorem s_setK {i : Expr} {mi : ME} (hu : X.A.units + 1 < cLine) (ho : PE X o (tM X.K kx mo)) (hi : PE X i (tM X.K kx mi)) (he : PE X e (tM X.K kx me)) (hs : swapsWith e (some (.Subscript o i pos')) pos.line X.env = pure false := by rfl) : PS X (.Assign [.Subscript o i pos'] e pos) (sM X.K kx (Mi.mSetK mo mi me)) :=
  (ps_dput hu ho hi he hs).imp fun D σ H ⟨ρ, G, δ, fl, δ', G', rl, sr, e, k⟩ => by
  unfold Mi.mSetK at e
  split at e
  · rename_i y G1 e1
    split at e
    · rename_i h G2 e2
      split at e
      · rename_i kk G3 e3
        split at e
        · rename_i kvs ky eh ek
          split at e
          · rename_i hz
            cases e
            refine ⟨ρ, G, δ, y, G1, rl, sr, e1, fun w ρ1 H1 g1 r1 d1 => ⟨ρ1, G1, δ, _, G2, r1, sr.gr g1, e2, fun v ρ2 H2 g2 r2 d2 => ⟨ρ2, G2, δ, _, G3, r2, sr.gr (g1.trans g2), e3, fun u ρ3 H3 g3 r3 d3 => ?_⟩⟩⟩
            have eu := kOf_v ek d3
            subst eu
            cases d2 with
            | ref ea =>
              have ea3 := ref_gr (K := X.K) g3 ea
              obtain ⟨ks, h3, kr⟩ := dct_at r3 eh ea3
              obtain ⟨g4, r4⟩ := r3.wr (o := .dK (putK ks (kK ky) w)) (m := .dct (Mi.put kvs ky y)) ea3 fun g => .dct upd_same ((put_ok kr (d1.gr (g2.trans g3))).imp fun _ _ q => ⟨q.1, q.2.gr g⟩)
              exact ⟨_, _, rfl, DPut.k h3 (by rw [← AR.len kr, ← big_line]; exact hz), k _ σ _ (((g1.trans g2).trans g3).trans g4) r4 (sr.gr (((g1.trans g2).trans g3).trans g4))⟩
          · cases e
        · cases e
      · cases e
    · cases e
  · cases e
end
end Ms

/-! PyS5: loops, comprehensions, defs. -/
namespace Ms
open PySem L2
open Mi (Dv MO Sto Sl Rs bnd ME MT MA MS MF Fl MG MGs MI)
/-- an iterator gives the items ds as long as st holds of the store -/
structure Yl (K : PySem.W.Frag) (kx : Kx) (ρ0 : Rh) (H0 : Hp) (J : It) (ds : List Dv) (st : Sto → Prop) : Prop where
  stop : ∀ ρ G H, Gw ρ0 H0 ρ H → Rl K kx ρ G H → st G → J.stop ds.length H
  go : ∀ i ρ G H, Gw ρ0 H0 ρ H → Rl K kx ρ G H → st G → i < ds.length → J.go i H
  yld : ∀ i d ρ G H x H', Gw ρ0 H0 ρ H → Rl K kx ρ G H → st G → ds[i]? = some d → J.yld i H x H' → Gr ρ H ρ H' ∧ Rl K kx ρ G H' ∧ DR K ρ H' d x
def tI (K : PySem.W.Frag) (kx : Kx) (mi : MI) : TI := fun σ H R => ∃ (ρ : Rh) (G : Sto) (δ : Sl) (ds : List Dv) (st : Sto → Prop) (G' : Sto), Rl K kx ρ G H ∧ Sr K ρ H δ σ ∧ mi δ G = some ((ds, st), G') ∧
  ∀ J ρ' H', Gr ρ H ρ' H' → Rl K kx ρ' G' H' → Yl K kx ρ' H' J ds st → R J H'
section
variable {X : Cx} {kx : Kx} {e a b c o tg : Expr} {ma mb mc me mo : ME} {mt : MT} {pos p apos pos' : Pos} {st : Stmt} {rest sa sb es : List Expr} {mas mks : MA} {ms ms' : MS} {bs : List Stmt} {x y : Str}
/-! ### iterators -/
theorem yl_list {ρ0 : Rh} {H0 : Hp} {x : Dv} {ad : Addr} {ds : List Dv} (dx : DR X.K ρ0 H0 x (.ref ad)) : Yl X.K kx ρ0 H0 (Itl X.K ad) ds (fun G => Mi.lstOf G x = some ds) := by
  have rx : ∀ ρ G H, Gw ρ0 H0 ρ H → Rl X.K kx ρ G H → Mi.lstOf G x = some ds → ∃ vs, SqL X.K H ad vs ∧ DRs X.K ρ H ds vs := fun ρ G H g r s => by
    obtain ⟨a, vs, e, h, q⟩ := lstOf_at r s (dx.gw g)
    cases e
    exact ⟨vs, h, q⟩
  refine ⟨fun ρ G H g r s => ?_, fun i ρ G H g r s hi => ?_, fun i d ρ G H v H' g r s hd hy => ?_⟩
  · obtain ⟨vs, h, dr⟩ := rx ρ G H g r s
    exact ⟨vs, h, Nat.le_of_eq dr.len.symm⟩
  · obtain ⟨vs, h, dr⟩ := rx ρ G H g r s
    have hi' : i < vs.length := by rw [← dr.len]; exact hi
    exact ⟨vs, vs[i], h, List.getElem?_eq_getElem hi'⟩
  · obtain ⟨e, hv⟩ := hy
    subst e
    obtain ⟨vs, h, dr⟩ := rx ρ G _ g r s
    obtain ⟨w, hw, dw⟩ := dr.get hd
    have e2 := hv vs h
    rw [hw] at e2
    cases e2
    exact ⟨Gr.refl, r, dw⟩
theorem yl_tup {ρ0 : Rh} {H0 : Hp} {ad : Addr} {ds : List Dv} {vs : List V} {st : Sto → Prop} (h0 : SqT X.K H0 ad vs) (d0 : DRs X.K ρ0 H0 ds vs) : Yl X.K kx ρ0 H0 (Itt X.K ad) ds st := by
  refine ⟨fun ρ G H g r s => ?_, fun i ρ G H g r s hi => ?_, fun i d ρ G H v H' g r s hd hy => ?_⟩
  · exact ⟨vs, (SqT.gw g h0), Nat.le_of_eq d0.len.symm⟩
  · have hi' : i < vs.length := by rw [← d0.len]; exact hi
    exact ⟨vs, vs[i], (SqT.gw g h0), List.getElem?_eq_getElem hi'⟩
  · obtain ⟨e, hv⟩ := hy
    subst e
    obtain ⟨w, hw, dw⟩ := (d0.gw g).get hd
    have e2 := hv vs ((SqT.gw g h0))
    rw [hw] at e2
    cases e2
    exact ⟨Gr.refl, r, dw⟩
theorem yl_range {ρ0 : Rh} {H0 : Hp} {lo hi : Int} {st : Sto → Prop} : Yl X.K kx ρ0 H0 (Itr lo (hi - lo).toNat) (Mi.rng lo hi) st := by
  have hl : (Mi.rng lo hi).length = (hi - lo).toNat := by simp [Mi.rng]
  refine ⟨fun ρ G H g r s => ?_, fun i ρ G H g r s hi => ?_, fun i d ρ G H v H' g r s hd hy => ?_⟩
  · rw [hl]
    exact Nat.le_refl _
  · rw [hl] at hi
    exact hi
  · obtain ⟨e, hv⟩ := hy
    subst e hv
    have hi := (List.getElem?_eq_some_iff.mp hd).1
    rw [hl] at hi
    unfold Mi.rng at hd
    rw [List.getElem?_map, List.getElem?_range hi] at hd
    cases hd
    exact ⟨Gr.refl, r, .int _⟩
theorem i_seq (ha : PE X a (tM X.K kx ma)) : PI X tg a (tI X.K kx (Mi.iSeq ma)) := (PI.or (pi_list ha) (pi_tup ha)).imp fun σ H R ⟨ρ, G, δ, ds, st, G', rl, sr, e, k⟩ => by
  obtain ⟨x, G1, e1, e⟩ := Mi.bnd_eq e
  cases es : Mi.seqOf G1 x with
  | none => rw [es] at e; cases e
  | some xs =>
    rw [es] at e
    cases e
    cases x with
    | tup ys =>
      cases es
      refine .inr ⟨ρ, G, δ, _, _, rl, sr, e1, fun v ρ1 H1 g1 r1 d1 => ?_⟩
      cases d1 with
      | tup h r => exact ⟨_, rfl, ⟨_, h⟩, k _ ρ1 H1 g1 r1 (yl_tup h r)⟩
    | _ =>
      refine .inl ⟨ρ, G, δ, _, _, rl, sr, e1, fun v ρ1 H1 g1 r1 d1 => ?_⟩
      unfold Mi.seqOf at es
      obtain ⟨ad, vs, ev, h, r⟩ := lstOf_at r1 es d1
      subst ev
      exact ⟨ad, rfl, ⟨vs, h⟩, k _ ρ1 H1 g1 r1 (yl_list d1)⟩
theorem i_range1 {p : Pos} (hm : X.mg "range" = none) (ha : PE X a (tM X.K kx ma)) (hg : Gl X "range" := by rfl) (hs : starEach [a] X.env = (false, eval a X.env) :: starEach [] X.env := by rfl) (hs2 : starEach [a] X.env = [(false, eval a X.env)] := by rfl) : PI X tg (.Call (.Name "range" p) [a] [] pos) (tI X.K kx (Mi.iRange1 ma)) :=
  (pi_range1 hg hm (pa_cons ha pa_nil hs) hs2).imp fun σ H R ⟨ρ, G, δ, ds, st, G', rl, sr, e, k⟩ => by
  obtain ⟨x, G1, e1, e⟩ := Mi.bnd_eq e
  refine ⟨ρ, G, δ, x, G1, rl, sr, e1, fun v ρ1 H1 g1 r1 d1 => ?_⟩
  split at e
  · split at e
    · rename_i hz
      cases e
      cases d1
      refine ⟨_, rfl, hz.1, hz.2, k _ ρ1 H1 g1 r1 ?_⟩
      have := yl_range (X := X) (kx := kx) (ρ0 := ρ1) (H0 := H1) (lo := 0) (hi := ‹Int›) (st := fun _ => True)
      rw [Int.sub_zero] at this
      exact this
    · cases e
  · cases e
theorem i_range2 {p : Pos} (hm : X.mg "range" = none) (ha : PE X a (tM X.K kx ma)) (hb : PE X b (tM X.K kx mb)) (hg : Gl X "range" := by rfl) (hs : starEach [a, b] X.env = (false, eval a X.env) :: starEach [b] X.env := by rfl) (hs2 : starEach [b] X.env = (false, eval b X.env) :: starEach [] X.env := by rfl) (hs3 : starEach [a, b] X.env = [(false, eval a X.env), (false, eval b X.env)] := by rfl) (hs4 : starEach [b] X.env = [(false, eval b X.env)] := by rfl) : PI X tg (.Call (.Name "range" p) [a, b] [] pos) (tI X.K kx (Mi.iRange2 ma mb)) :=
  (pi_range2 hg hm (pa_cons ha (pa_cons hb pa_nil hs2) hs) hs3 hs4).imp fun σ H R ⟨ρ, G, δ, ds, st, G', rl, sr, e, k⟩ => by
  obtain ⟨x, G1, e1, e⟩ := Mi.bnd_eq e
  obtain ⟨y, G2, e2, e⟩ := Mi.bnd_eq e
  refine ⟨ρ, G, δ, x, G1, rl, sr, e1, fun v ρ1 H1 g1 r1 d1 => ⟨ρ1, G1, δ, y, G2, r1, sr.gr g1, e2, fun w ρ2 H2 g2 r2 d2 => ?_⟩⟩
  split at e
  · split at e
    · rename_i hz
      cases e
      cases d1
      cases d2
      exact ⟨_, _, rfl, hz, k _ ρ2 H2 (g1.trans g2) r2 yl_range⟩
    · cases e
  · cases e
theorem enumD_get : ∀ (k : Nat) (xs : List Dv) (i : Nat), (Mi.enumD k xs)[i]? = (xs[i]?).map fun d => .tup [.int ((k + i : Nat)), d]
  | k, [], i => by simp [Mi.enumD]
  | k, x :: xs, 0 => by simp [Mi.enumD]
  | k, x :: xs, i + 1 => by
    have := enumD_get (k + 1) xs i
    simp only [Mi.enumD, List.getElem?_cons_succ, this]
    congr 2
    funext d
    have e : k + 1 + i = k + (i + 1) := by omega
    rw [e]
theorem enumD_len : ∀ (k : Nat) (xs : List Dv), (Mi.enumD k xs).length = xs.length
  | k, [] => rfl
  | k, x :: xs => by simp [Mi.enumD, enumD_len (k + 1) xs]
theorem i_enum {elts : List Expr} {kk : Nat} {tpos p : Pos} (hm : X.mg "enumerate" = none) (ha : PE X a (tM X.K kx ma)) (hg : Gl X "enumerate" := by rfl) (hs : starEach [a] X.env = (false, eval a X.env) :: starEach [] X.env := by rfl) (hs2 : starEach [a] X.env = [(false, eval a X.env)] := by rfl) : PI X (.Tuple elts kk tpos) (.Call (.Name "enumerate" p) [a] [] pos) (tI X.K kx (Mi.iEnum ma)) :=
  (pi_enum hg hm (pa_cons ha pa_nil hs) hs2).imp fun σ H R ⟨ρ, G, δ, ds, st, G', rl, sr, e, k⟩ => by
  obtain ⟨x, G1, e1, e⟩ := Mi.bnd_eq e
  refine ⟨ρ, G, δ, x, G1, rl, sr, e1, fun v ρ1 H1 g1 r1 d1 => ?_⟩
  split at e
  · rename_i xs el
    cases e
    obtain ⟨ad, vs, ev, h, r⟩ := lstOf_at r1 el d1
    subst ev
    refine ⟨ad, vs, rfl, h, k _ ρ1 H1 g1 r1 ?_⟩
    have rx : ∀ ρ G H, Gw ρ1 H1 ρ H → Rl X.K kx ρ G H → Mi.lstOf G x = some xs → ∃ vs, SqL X.K H ad vs ∧ DRs X.K ρ H xs vs := fun ρ G H g r s => by
      obtain ⟨a, vs, e, h, q⟩ := lstOf_at r s (d1.gw g)
      cases e
      exact ⟨vs, h, q⟩
    refine ⟨fun ρ G H g r s => ?_, fun i ρ G H g r s hi => ?_, fun i d ρ G H v H' g r s hd hy => ?_⟩
    · obtain ⟨vs, h, dr⟩ := rx ρ G H g r s
      refine ⟨vs, h, ?_⟩
      rw [enumD_len, dr.len]
      exact Nat.le_refl _
    · obtain ⟨vs, h, dr⟩ := rx ρ G H g r s
      rw [enumD_len, dr.len] at hi
      exact ⟨vs, vs[i], h, List.getElem?_eq_getElem hi⟩
    · obtain ⟨T, w, ev, hT, eH, hv⟩ := hy
      subst ev eH
      obtain ⟨vs, h, dr⟩ := rx ρ G H g r s
      rw [enumD_get] at hd
      cases ex : xs[i]? with
      | none => rw [ex] at hd; cases hd
      | some d0 =>
        rw [ex] at hd
        cases hd
        obtain ⟨w', hw, dw⟩ := dr.get ex
        have e2 := hv vs h
        rw [hw] at e2
        cases e2
        obtain ⟨g2, r2⟩ := r.side (.tup [.int (i : Nat), w]) hT
        refine ⟨g2, r2, .tup (SqT.of upd_same) (.cons ?_ (.cons (dw.gr g2) .nil))⟩
        rw [Nat.zero_add]
        exact .int _
  · cases e
/-! ### for -/
theorem s_for {it : Expr} {mi : MI} {ws : List Nat} {g : MG} {mb : MS} (hp : PassesOwn (model X.prog X.w) X.A X.env X.xe) (hc : X.calm = true) (hi : PI X tg it (tI X.K kx mi)) (hg : PG X tg (tG X.K kx ws g)) (hb : PSs X bs (sM X.K kx mb)) (hfs : ∀ x, foldedSetIterable it X.env x = pure x := by intro _; rfl) : PS X (.For tg it bs [] pos) (sM X.K kx (Mi.mFor mi g mb)) :=
  (ps_for hp hc hi hg hb (hs := hfs)).imp fun D σ H ⟨ρ, G, δ, f, δ', G', rl, sr, e, k⟩ => by
  obtain ⟨⟨ds, st⟩, G1, e1, e⟩ := Mi.bnd_eq e
  refine ⟨ρ, G, δ, ds, st, G1, rl, sr, e1, fun J ρ1 H1 g1 r1 y => ?_⟩
  refine ⟨fun i m σ H => m = ds.length - i ∧ i ≤ ds.length ∧ ∃ ρ2 G2 δ2, Gr ρ1 H1 ρ2 H ∧ Rl X.K kx ρ2 G2 H ∧ Sr X.K ρ2 H δ2 σ ∧ Mi.mLoop g mb st (ds.drop i) δ2 G2 = some (f, δ', G'), ⟨ds.length, by simp, Nat.zero_le _, ρ1, G1, δ, Gr.refl, r1, sr.gr g1, by simpa using e⟩, ?_⟩
  rintro i m σ2 H2 ⟨rfl, hi, ρ2, G2, δ2, g2, r2, s2, el⟩
  by_cases hlt : i < ds.length
  · have ed : ds.drop i = ds[i] :: ds.drop (i + 1) := List.drop_eq_getElem_cons hlt
    rw [ed] at el
    unfold Mi.mLoop at el
    split at el
    · rename_i hst
      split at el
      · rename_i δ3 G3 eg
        refine .inr ⟨y.go i ρ2 G2 H2 g2.w r2 hst hlt, fun σ' H' => ∃ m', m' < ds.length - i ∧ (m' = ds.length - (i + 1) ∧ i + 1 ≤ ds.length ∧ ∃ ρ2 G2 δ2, Gr ρ1 H1 ρ2 H' ∧ Rl X.K kx ρ2 G2 H' ∧ Sr X.K ρ2 H' δ2 σ' ∧ Mi.mLoop g mb st (ds.drop (i + 1)) δ2 G2 = some (f, δ', G')), fun _ _ h => h, fun x H' hy => ?_⟩
        obtain ⟨gy, ry, dy⟩ := y.yld i ds[i] ρ2 G2 H2 x H' g2.w r2 hst (List.getElem?_eq_getElem hlt) hy
        refine ⟨ρ2, G2, δ2, ds[i], δ3, G3, ry, s2.gr gy, dy, eg, fun ρ3 σ3 H3 g3 r3 s3 _ _ => ?_⟩
        have ga := (g2.trans gy).trans g3
        have next : ∀ {δ4 G4}, Mi.mLoop g mb st (ds.drop (i + 1)) δ4 G4 = some (f, δ', G') → ∀ ρ4 σ4 H4, Gr ρ3 H3 ρ4 H4 → Rl X.K kx ρ4 G4 H4 → Sr X.K ρ4 H4 δ4 σ4 → ∃ m', m' < ds.length - i ∧ (m' = ds.length - (i + 1) ∧ i + 1 ≤ ds.length ∧ ∃ ρ2 G2 δ2, Gr ρ1 H1 ρ2 H4 ∧ Rl X.K kx ρ2 G2 H4 ∧ Sr X.K ρ2 H4 δ2 σ4 ∧ Mi.mLoop g mb st (ds.drop (i + 1)) δ2 G2 = some (f, δ', G')) :=
          fun {δ4 G4} h ρ4 σ4 H4 g4 r4 s4 => ⟨_, by omega, rfl, hlt, ρ4, G4, δ4, ga.trans g4, r4, s4, h⟩
        split at el
        · rename_i δ4 G4 eb
          exact ⟨ρ3, G3, δ3, .nx, δ4, G4, r3, s3, eb, fun ρ4 σ4 H4 g4 r4 s4 => next el ρ4 σ4 H4 g4 r4 s4⟩
        · rename_i δ4 G4 eb
          exact ⟨ρ3, G3, δ3, .ct, δ4, G4, r3, s3, eb, fun ρ4 σ4 H4 g4 r4 s4 => next el ρ4 σ4 H4 g4 r4 s4⟩
        · rename_i δ4 G4 eb
          cases el
          exact ⟨ρ3, G3, δ3, .bk, _, _, r3, s3, eb, fun ρ4 σ4 H4 g4 r4 s4 => k ρ4 σ4 H4 ((g1.trans ga).trans g4) r4 s4⟩
        · rename_i n1 n2 n3
          refine ⟨ρ3, G3, δ3, f, δ', G', r3, s3, el, fun ρ4 σ4 H4 g4 r4 s4 => ?_⟩
          have q := k ρ4 σ4 H4 ((g1.trans ga).trans g4) r4 s4
          cases f with
          | nx => exact absurd el (n1 _ _)
          | ct => exact absurd el (n2 _ _)
          | bk => exact absurd el (n3 _ _)
          | rt d => exact q
      · cases el
    · cases el
  · have ed : ds.drop i = [] := List.drop_eq_nil_of_le (by omega)
    rw [ed] at el
    unfold Mi.mLoop at el
    split at el
    · rename_i hst
      cases el
      have hi' : i = ds.length := by omega
      subst hi'
      exact .inl ⟨y.stop ρ2 _ H2 g2.w r2 hst, k ρ2 σ2 H2 (g1.trans g2) r2 s2⟩
    · cases el
/-! ### while -/
theorem s_while {n : Nat} {mb : MS} (hp : PassesOwn (model X.prog X.w) X.A X.env X.xe) (hc : PT X c (tMT X.K kx mt)) (hb : PSs X bs (sM X.K kx mb)) : PS X (.While c bs [] pos) (sM X.K kx (Mi.mWh mt mb n)) :=
  (ps_while hp hc hb).imp fun D σ H ⟨ρ, G, δ, f, δ', G', rl, sr, e, k⟩ => by
  refine ⟨fun m σ H' => ∃ ρ2 G2 δ2, Gr ρ H ρ2 H' ∧ Rl X.K kx ρ2 G2 H' ∧ Sr X.K ρ2 H' δ2 σ ∧ Mi.mWh mt mb m δ2 G2 = some (f, δ', G'), ⟨n, ρ, G, δ, Gr.refl, rl, sr, e⟩, ?_⟩
  rintro m σ2 H2 ⟨ρ2, G2, δ2, g2, r2, s2, el⟩
  cases m with
  | zero => cases el
  | succ m =>
    unfold Mi.mWh at el
    split at el
    · rename_i G3 et
      refine ⟨ρ2, G2, δ2, true, G3, r2, s2, et, fun ρ3 H3 g3 r3 => ?_⟩
      dsimp only
      rw [if_pos rfl]
      refine ⟨fun σ' H' => ∃ m', m' < m + 1 ∧ ∃ ρ2 G2 δ2, Gr ρ H ρ2 H' ∧ Rl X.K kx ρ2 G2 H' ∧ Sr X.K ρ2 H' δ2 σ' ∧ Mi.mWh mt mb m' δ2 G2 = some (f, δ', G'), fun _ _ h => h, ?_⟩
      split at el
      · rename_i δ4 G4 eb
        exact ⟨ρ3, G3, δ2, .nx, δ4, G4, r3, s2.gr g3, eb, fun ρ4 σ4 H4 g4 r4 s4 => ⟨m, Nat.lt_succ_self m, ρ4, G4, δ4, (g2.trans g3).trans g4, r4, s4, el⟩⟩
      · rename_i δ4 G4 eb
        exact ⟨ρ3, G3, δ2, .ct, δ4, G4, r3, s2.gr g3, eb, fun ρ4 σ4 H4 g4 r4 s4 => ⟨m, Nat.lt_succ_self m, ρ4, G4, δ4, (g2.trans g3).trans g4, r4, s4, el⟩⟩
      · rename_i δ4 G4 eb
        cases el
        exact ⟨ρ3, G3, δ2, .bk, _, _, r3, s2.gr g3, eb, fun ρ4 σ4 H4 g4 r4 s4 => k ρ4 σ4 H4 ((g2.trans g3).trans g4) r4 s4⟩
      · rename_i n1 n2 n3
        refine ⟨ρ3, G3, δ2, f, δ', G', r3, s2.gr g3, el, fun ρ4 σ4 H4 g4 r4 s4 => ?_⟩
        have q := k ρ4 σ4 H4 ((g2.trans g3).trans g4) r4 s4
        cases f with
        | nx => exact absurd el (n1 _ _)
        | ct => exact absurd el (n2 _ _)
        | bk => exact absurd el (n3 _ _)
        | rt d => exact q
    · rename_i G3 et
      cases el
      refine ⟨ρ2, G2, _, false, _, r2, s2, et, fun ρ3 H3 g3 r3 => ?_⟩
      dsimp only
      rw [if_neg (fun z => Bool.false_ne_true z)]
      exact k ρ3 σ2 H3 (g2.trans g3) r3 (s2.gr g3)
    · cases el
/-! ### comprehensions -/
theorem mt_yes : PTs X [] (tMT X.K kx Mi.tYes) := ⟨fun pins s σ H Q I h => pts_nil.run pins s σ H Q I (by
  obtain ⟨ρ, G, δ, b, G', rl, sr, e, k⟩ := h
  cases e
  exact k ρ H Gr.refl rl)⟩
theorem wipe_eq {σ σ2 : St} (hl : σ2.length = σ.length) : ∀ {vs : List Nat}, (∀ i, i ∉ vs → σ2[i]? = (L2.wipe σ vs)[i]?) → (L2.wipe σ vs).length = σ.length → L2.wipe σ2 vs = L2.wipe σ vs := by
  intro vs h hw
  refine List.ext_getElem? fun i => ?_
  by_cases hi : i ∈ vs
  · have n : ∀ (τ : St), (L2.wipe τ vs)[i]? = if i < τ.length then some none else none := by
      intro τ
      have : ∀ (us : List Nat), i ∈ us → (L2.wipe τ us)[i]? = if i < τ.length then some none else none := by
        intro us
        induction us with
        | nil => intro z; cases z
        | cons u us ih =>
          intro z
          show ((L2.wipe τ us).set u none)[i]? = _
          by_cases hu : u = i
          · subst hu
            by_cases hlt : u < τ.length
            · rw [if_pos hlt, List.getElem?_set_self (by rw [L2.wipe_length]; exact hlt)]
            · rw [if_neg hlt, List.getElem?_eq_none]
              rw [List.length_set, L2.wipe_length]
              omega
          · rw [List.getElem?_set_ne hu]
            exact ih ((List.mem_cons.mp z).elim (fun q => absurd q.symm hu) id)
      exact this vs hi
    rw [n, n, hl]
  · rw [L2.wipe_out hi]
    exact h i hi
/-- the loop of a comprehension; ws: what the target stores -/
theorem lc_go {mi : MI} {g : MG} {mt : MT} {ws vs : List Nat} {m : Bool} {σ : St} {H : Hp} {Q : VK} (hw : ∀ i ∈ ws, i ∈ vs) (h : tM X.K kx (Mi.mLc m mi g mt me vs) σ H Q) : tLc (tI X.K kx mi) (tG X.K kx ws g) (tMT X.K kx mt) (tM X.K kx me) vs σ H Q := by
  obtain ⟨ρ, G, δ, d, G', rl, sr, e, k⟩ := h
  obtain ⟨⟨ds, st⟩, G1, e1, e⟩ := Mi.bnd_eq e
  obtain ⟨zs, Gz, e2, e⟩ := Mi.bnd_eq e
  dsimp only at e2 e
  refine ⟨ρ, G, δ, ds, st, G1, rl, sr, e1, fun J ρ1 H1 g1 r1 y D hD => ?_⟩
  obtain ⟨gf, rf⟩ := r1.fill [] hD
  have nD : D ∉ ρ1.x := (r1.free hD).2
  refine ⟨fun i n H2 => n = ds.length - i ∧ i ≤ ds.length ∧ ∃ (r2 : List Addr) (G2 : Sto) (acc : List Dv) (av : List V), Gr ⟨ρ1.r, D :: ρ1.x⟩ (upd H1 D (.lst [])) ⟨r2, D :: ρ1.x⟩ (upd H2 D (.lst [])) ∧ Gw ⟨ρ1.r, D :: ρ1.x⟩ (upd H1 D (.lst [])) ⟨r2, D :: ρ1.x⟩ H2 ∧ Rl X.K kx ⟨r2, D :: ρ1.x⟩ G2 H2 ∧ H2 D = some (.lst av) ∧ DRs X.K ⟨r2, D :: ρ1.x⟩ H2 acc av ∧
    Mi.mLcLoop g mt me st (Mi.wipe δ vs) (ds.drop i) acc G2 = some (zs, Gz), ⟨ds.length, by simp, Nat.zero_le _, ρ1.r, G1, [], [], by rw [upd_upd]; exact Gr.refl, Gw.refl, rf, upd_same, .nil, by simpa using e2⟩, ?_⟩
  rintro i n H2 ⟨rfl, hi, r2, G2, acc, av, g2, w2, q2, hD2, da, el⟩
  have sr2 : Sr X.K ⟨r2, D :: ρ1.x⟩ H2 δ σ := ((sr.gr g1).gw gf).gw w2
  by_cases hlt : i < ds.length
  · have ed : ds.drop i = ds[i] :: ds.drop (i + 1) := List.drop_eq_getElem_cons hlt
    rw [ed] at el
    unfold Mi.mLcLoop at el
    split at el
    · rename_i hst
      obtain ⟨hst, hacc⟩ := hst
      split at el
      · rename_i δ3 G3 eg
        refine .inr ⟨y.go i _ G2 H2 (gf.trans w2) q2 hst hlt, fun H' => ∃ n', n' < ds.length - i ∧ (n' = ds.length - (i + 1) ∧ i + 1 ≤ ds.length ∧ ∃ (r2 : List Addr) (G2 : Sto) (acc : List Dv) (av : List V), Gr ⟨ρ1.r, D :: ρ1.x⟩ (upd H1 D (.lst [])) ⟨r2, D :: ρ1.x⟩ (upd H' D (.lst [])) ∧ Gw ⟨ρ1.r, D :: ρ1.x⟩ (upd H1 D (.lst [])) ⟨r2, D :: ρ1.x⟩ H' ∧ Rl X.K kx ⟨r2, D :: ρ1.x⟩ G2 H' ∧ H' D = some (.lst av) ∧ DRs X.K ⟨r2, D :: ρ1.x⟩ H' acc av ∧
          Mi.mLcLoop g mt me st (Mi.wipe δ vs) (ds.drop (i + 1)) acc G2 = some (zs, Gz)), fun _ h => h, fun x H' hy => ?_⟩
        obtain ⟨gy, ry, dy⟩ := y.yld i ds[i] _ G2 H2 x H' (gf.trans w2) q2 hst (List.getElem?_eq_getElem hlt) hy
        have hDr : D ∉ r2 := (q2.xt D (List.mem_cons_self ..)).2
        -- growth under the list that is being filled, its content aside
        have lift : ∀ {r r' : List Addr} {Ha Hb : Hp}, D ∉ r → (∃ us, Ha D = some (.lst us)) → Gr ⟨r, D :: ρ1.x⟩ Ha ⟨r', D :: ρ1.x⟩ Hb → Gr ⟨r, D :: ρ1.x⟩ (upd Ha D (.lst [])) ⟨r', D :: ρ1.x⟩ (upd Hb D (.lst [])) := by
          intro r r' Ha Hb hr ⟨us, hu⟩ gg
          refine ⟨gg.pre, fun z hz => ?_, fun z o ho hz ht => ?_, fun z xs ho => ?_, fun z o u ho => ?_, fun z φ ho => ?_⟩
          · rcases gg.new z hz with q | q
            · exact .inl q
            · exact .inr (nf_upd q (nf_ne q hu fun _ w => nomatch w))
          · by_cases hzD : z = D
            · subst hzD
              rw [upd_same] at ho ⊢
              exact ho
            · rw [upd_ne hzD] at ho ⊢
              exact gg.kp z o ho hz ht
          · have hzD : z ≠ D := fun w => by rw [w, upd_same] at ho; cases ho
            rw [upd_ne hzD] at ho ⊢
            exact gg.tu z xs ho
          · have hzD : z ≠ D := fun w => by rw [w, upd_same] at ho; cases ho
            rw [upd_ne hzD] at ho ⊢
            exact gg.fz z o u ho
          · have hzD : z ≠ D := fun w => by rw [w, upd_same] at ho; cases ho
            rw [upd_ne hzD] at ho ⊢
            exact gg.ex z φ ho
        have keepD : ∀ {r r' : List Addr} {Ha Hb : Hp} {us : List V}, D ∉ r → Ha D = some (.lst us) → Gr ⟨r, D :: ρ1.x⟩ Ha ⟨r', D :: ρ1.x⟩ Hb → Hb D = some (.lst us) := fun hr hu gg => gg.kp D _ hu hr fun _ z => nomatch z
        refine ⟨_, G2, Mi.wipe δ vs, ds[i], δ3, G3, ry, (sr2.gr gy).wipe vs, dy, eg, fun ρ3 σ3 H3 g3 r3 s3 l3 n3 => ⟨?_, ?_⟩⟩
        · refine wipe_eq (by rw [l3, L2.wipe_length]) (fun j hj => n3 j fun z => hj (hw j z)) (L2.wipe_length σ vs)
        obtain ⟨r3', x3⟩ := ρ3
        obtain rfl : x3 = D :: ρ1.x := g3.pre.2
        have gA := gy.trans g3
        have hD3 := keepD hDr hD2 gA
        have hDr3 : D ∉ r3' := (r3.xt D (List.mem_cons_self ..)).2
        split at el
        · rename_i G4 et
          refine ⟨_, G3, δ3, true, G4, r3, s3, et, fun ρ4 H4 g4 r4 => ?_⟩
          dsimp only
          rw [if_pos rfl]
          obtain ⟨r4', x4⟩ := ρ4
          obtain rfl : x4 = D :: ρ1.x := g4.pre.2
          split at el
          · rename_i yv G5 ey
            refine ⟨_, G4, δ3, yv, G5, r4, s3.gr g4, ey, fun v ρ5 H5 g5 r5 d5 => ?_⟩
            obtain ⟨r5', x5⟩ := ρ5
            obtain rfl : x5 = D :: ρ1.x := g5.pre.2
            have gB := (gA.trans g4).trans g5
            have hD5 := keepD hDr hD2 gB
            refine ⟨av, hD5, by rw [← (da.len), ← big_line]; exact hacc, _, by omega, rfl, hlt, r5', G5, acc ++ [yv], av ++ [v], ?_⟩
            obtain ⟨gm, rm⟩ := r5.more (av ++ [v]) (List.mem_cons_self ..) hD5
            refine ⟨?_, (w2.trans gB.w).trans gm, rm, upd_same, ((da.gr gB).gw gm).app (.cons (d5.gw gm) .nil), el⟩
            rw [upd_upd]
            exact g2.trans (lift hDr ⟨av, hD2⟩ gB)
          · cases el
        · rename_i G4 et
          refine ⟨_, G3, δ3, false, G4, r3, s3, et, fun ρ4 H4 g4 r4 => ?_⟩
          dsimp only
          rw [if_neg (fun z => Bool.false_ne_true z)]
          obtain ⟨r4', x4⟩ := ρ4
          obtain rfl : x4 = D :: ρ1.x := g4.pre.2
          have gB := gA.trans g4
          exact ⟨_, by omega, rfl, hlt, r4', G4, acc, av, g2.trans (lift hDr ⟨av, hD2⟩ gB), w2.trans gB.w, r4, keepD hDr hD2 gB, da.gr gB, el⟩
        · cases el
      · cases el
    · cases el
  · have ed : ds.drop i = [] := List.drop_eq_nil_of_le (by omega)
    rw [ed] at el
    unfold Mi.mLcLoop at el
    split at el
    · rename_i hst
      cases el
      have hi' : i = ds.length := by omega
      subst hi'
      refine .inl ⟨y.stop _ _ H2 (gf.trans w2) q2 hst, ?_⟩
      have hDr : D ∉ r2 := (q2.xt D (List.mem_cons_self ..)).2
      have e' := Option.some.inj e
      -- the growth from ahead of the list
      have base : ∀ r' : List Addr, (∃ t, r' = ρ1.r ++ t) → (∀ z ∈ r', z ∈ r2 ∨ z = D) → Gr ρ1 H1 ⟨r', ρ1.x⟩ H2 := fun r' hp hs => by
        refine ⟨⟨hp, rfl⟩, fun z hz => ?_, fun z o ho hz ht => ?_, fun z xs ho => ?_, fun z o u ho => ?_, fun z φ ho => ?_⟩
        · rcases hs z hz with q | q
          · rcases g2.new z q with w | w
            · exact .inl w
            · by_cases hzD : z = D
              · rw [hzD]; exact .inr (nf_none hD)
              · exact .inr (nf_of w hzD)
          · rw [q]; exact .inr (nf_none hD)
        · have hzD : z ≠ D := ne_of_none ho hD
          have := g2.kp z o (by rw [upd_ne hzD]; exact ho) hz ht
          rw [upd_ne hzD] at this
          exact this
        · have hzD : z ≠ D := ne_of_none ho hD
          have := g2.tu z xs (by rw [upd_ne hzD]; exact ho)
          rw [upd_ne hzD] at this
          exact this
        · have hzD : z ≠ D := ne_of_none ho hD
          have := g2.fz z o u (by rw [upd_ne hzD]; exact ho)
          rw [upd_ne hzD] at this
          exact this
        · have hzD : z ≠ D := ne_of_none ho hD
          have := g2.ex z φ (by rw [upd_ne hzD]; exact ho)
          rw [upd_ne hzD] at this
          exact this
      obtain ⟨t2, ht2⟩ := g2.pre.1
      have ht2' : r2 = ρ1.r ++ t2 := ht2
      cases m with
      | false =>
        obtain ⟨gw, rw'⟩ := q2.full
        cases e'
        exact k _ ⟨r2, ρ1.x⟩ H2 (g1.trans (base r2 ⟨t2, ht2'⟩ fun z hz => .inl hz)) rw' (.fls hD2 ⟨hDr, nD⟩ (da.gw gw))
      | true =>
        obtain ⟨gw, rw'⟩ := q2.fullM nD hD2 da
        cases e'
        refine k _ ⟨r2 ++ [D], ρ1.x⟩ H2 (g1.trans (base (r2 ++ [D]) ⟨t2 ++ [D], by rw [ht2']; simp⟩ fun z hz => ?_)) rw' (.ref ?_)
        · rcases List.mem_append.mp hz with q | q
          · exact .inl q
          · exact .inr (by simpa using q)
        · show (r2 ++ [D])[Gz.length]? = some D
          have hl : r2.length = Gz.length := q2.len
          rw [← hl, List.getElem?_append_right (Nat.le_refl _)]
          simp
    · cases el
theorem m_lc (m : Bool) {elt it : Expr} {ifs : List Expr} {scope : Scope} {own : List (Str × Nat)} {mi : MI} {g : MG} {mt : MT} {ws : List Nat} (hc : X.calm = true) (hN : X.N.Nodup) (hi : PI X tg it (tI X.K kx mi)) (ok : BlkOk X.N X.env.scope scope own) (hw : ∀ i ∈ ws, i ∈ own.map (·.2))
    (hg : ∀ (s : Shared) (H : Hp) (C : Addr) (cl : List (Str × Addr)) (fp : List Addr), PG (X.blk s H scope (compEnvC scope cl C X.env) fp) tg (tG X.K kx ws g)) (ht : ∀ (s : Shared) (H : Hp) (C : Addr) (cl : List (Str × Addr)) (fp : List Addr), PTs (X.blk s H scope (compEnvC scope cl C X.env) fp) ifs (tMT X.K kx mt))
    (he : ∀ (s : Shared) (H : Hp) (C : Addr) (cl : List (Str × Addr)) (fp : List Addr), PE (X.blk s H scope (compEnvC scope cl C X.env) fp) elt (tM X.K kx me)) (hfs : ∀ x, foldedSetIterable it X.env x = pure x := by intro _; rfl) : PE X (.ListComp elt [⟨tg, it, ifs, 0⟩] scope pos) (tM X.K kx (Mi.mLc m mi g mt me (own.map (·.2)))) :=
  (pe_lc hc hN hi ok hg ht he (hs := hfs)).imp fun σ H Q h => lc_go hw h
theorem s_setLc (i : Nat) (m : Bool) {py spos : Pos} {elt it : Expr} {ifs : List Expr} {scope : Scope} {own : List (Str × Nat)} {mi : MI} {g : MG} {mt : MT} {ws : List Nat} (hc : X.calm = true) (hN : X.N.Nodup) (hy : X.N[i]? = some y) (hyl : X.env.scope.names.lookup y = some .local) (hsw : swapsWith (.ListComp elt [⟨tg, it, ifs, 0⟩] scope pos) (some (.Name y py)) spos.line X.env = pure true)
    (hi : PI X tg it (tI X.K kx mi)) (ok : BlkOk X.N X.env.scope scope own) (hw : ∀ i ∈ ws, i ∈ own.map (·.2))
    (hg : ∀ (s : Shared) (H : Hp) (C : Addr) (cl : List (Str × Addr)) (fp : List Addr), PG (X.blk s H scope (compEnvC scope cl C X.env) fp) tg (tG X.K kx ws g)) (ht : ∀ (s : Shared) (H : Hp) (C : Addr) (cl : List (Str × Addr)) (fp : List Addr), PTs (X.blk s H scope (compEnvC scope cl C X.env) fp) ifs (tMT X.K kx mt))
    (he : ∀ (s : Shared) (H : Hp) (C : Addr) (cl : List (Str × Addr)) (fp : List Addr), PE (X.blk s H scope (compEnvC scope cl C X.env) fp) elt (tM X.K kx me)) (hfs : ∀ x, foldedSetIterable it X.env x = pure x := by intro _; rfl) : PS X (.Assign [.Name y py] (.ListComp elt [⟨tg, it, ifs, 0⟩] scope pos) spos) (sM X.K kx (Mi.mAsg (Mi.mLc m mi g mt me (own.map (·.2))) (Mi.gNm i))) :=
  (ps_setLc (i := i) hc hN hy hyl hsw hi ok hg ht he (hs := hfs)).imp fun D σ H ⟨ρ, G, δ, f, δ', G', rl, sr, e, k⟩ => by
  unfold Mi.mAsg at e
  split at e
  · rename_i d G1 e1
    cases e
    exact lc_go hw ⟨ρ, G, δ, d, _, rl, sr, e1, fun v ρ1 H1 g1 r1 d1 => k ρ1 _ H1 g1 r1 ((sr.gr g1).set i d1)⟩
  · cases e
end
end Ms

/-! PyS6: a def by its body; own classes asked for; the law's end. -/
namespace Ms
open PySem L2 PyProof.Rows
open Mi (Dv MO Sto Sl Rs bnd ME MT MA MS MF Fl MG MGs MI)
/-- the slots at the entry -/
theorem sr_start {K : PySem.W.Frag} {ρ : Rh} {H : Hp} {ds : List Dv} {vs : List V} {N : List Str} {l : Nat} (r : DRs K ρ H ds vs) (hl : N.length = vs.length + l) : Sr K ρ H (ds.map some ++ List.replicate l none) (L2.start N vs) := by
  have e : N.length - vs.length = l := by omega
  unfold L2.start
  rw [e]
  refine ⟨by simp [r.len], fun i d h => ?_⟩
  by_cases hi : i < ds.length
  · rw [List.getElem?_append_left (by simpa using hi), List.getElem?_map] at h
    cases ed : ds[i]? with
    | none => rw [ed] at h; cases h
    | some d' =>
      rw [ed] at h
      cases h
      obtain ⟨v, hv, dv⟩ := r.get ed
      refine ⟨v, ?_, dv⟩
      have hi2 : i < vs.length := by rw [← r.len]; exact hi
      rw [List.getElem?_append_left (by simpa using hi2), List.getElem?_map, hv] <;> rfl
  · rw [List.getElem?_append_right (by simpa using hi), List.getElem?_replicate] at h
    split at h <;> cases h
/-- a body that has ended is what the caller was promised -/
theorem told_end {CX : CXT} {P : Program} {w : World} {K : PySem.W.Frag} {mg : Str → Option Value} {base : Heap} {N : List Str} {qual : Str} {sc : Scope} {f : Addr} {cdv : Value} {A : Around} {outer : List Env} {s : Shared} {H : Hp} {E : XK} {Q : VK} :
    ∀ (fl : Flow) (s' : Shared), SP (cxOf CX P w K mg base N qual sc f cdv A outer s H E) [] { nx := fun _ H' => Q .non H', rt := Q } fl s' → CR CX outer P w H s Q E (.ok (.ret (match fl with | .ret v => v | _ => .none))) s'
  | .ret _, _, ⟨v, _, H', J, rv, qv⟩ => ⟨v, H', J.os, J.bare, J.base, J.hok, rv, qv⟩
  | .next, _, ⟨_, H', J, qv⟩ => ⟨V.non, H', J.os, J.bare, J.base, J.hok, rfl, qv⟩
  | .brk, _, ⟨_, _, _, no⟩ => no.elim
  | .cont, _, ⟨_, _, _, no⟩ => no.elim
/-- a def of the text is entered: its body runs from the start's slots (the library's call_fn, over the layer) -/
theorem entered {CX : CXT} {P : Program} {w : World} {K : PySem.W.Frag} {mg : Str → Option Value} {base : Heap} {k : Nat} {x qual : Str} {st : Stmt} {f : Addr} {fd : FuncData} {N ps : List Str} {A : Around} {outer : List Env} {s : Shared} {H : Hp} {args : Args} {us : List Value} {vs : List V} {Q : VK} {E : XK} {t : TS}
    (F : Fun K x qual st f fd) (S : FnScope N ps (defScope st)) (hr : Room (k + 1) A) (env : Env0 P w K mg base A outer s H) (hb : BindsTo s fd args (ps.zip us)) (r : Vals vs us) (hl : vs.length = ps.length)
    (body : ∀ cdv, Room k (A.deeper (envOfC qual (defScope st) s.heap.objs.size f cdv)) → PSs (cxOf CX P w K mg base N qual (defScope st) f cdv A outer s H E) (defBody st) t)
    (want : t { nx := fun _ H' => Q .non H', rt := Q } (L2.start N vs) H) : codeAny (model P w) A (.call (.ref f) args) (CR CX outer P w H s Q E) s := by
  have ⟨_, _, _, _, _, _, cdv, _, _, fd_is, there, named⟩ := F.ex
  subst fd_is
  have old : ∀ b o, base.get? b = some o → s.heap.get? b = some o := fun b o e => (env.bs b o e).1
  refine Att.call_fn (env.mod.kin.keeps old) (env.mod.nolimit.keeps old) there named hr.depth hb ?_ (fun s1 x => ?_) S.co S.gen S.kind
  · refine List.all_eq_true.mpr fun y hy => ?_
    rcases S.par y.1 (List.of_mem_zip (show (y.1, y.2) ∈ ps.zip us from hy)).1 with q | q <;> rw [q] <;> rfl
  · exact wpAny_mono ((body cdv (hr.deeper _)).run [] s1 _ H _ (inv_start S hr.hd env hl r x) want) told_end fun _ _ out => out
/-- a mirror's def asks for so many arguments, and is its body's end -/
theorem def_args {n l : Nat} {mb : MS} {ds : List Dv} {G : Sto} {r : Dv × Sto} (e : Mi.mDef n l mb ds G = some r) : ds.length = n := by
  unfold Mi.mDef at e
  exact Decidable.byContradiction fun z => by rw [if_neg z] at e; cases e
theorem def_body {n l : Nat} {mb : MS} {ds : List Dv} {G G' : Sto} {d : Dv} (e : Mi.mDef n l mb ds G = some (d, G')) : ∃ fl δ', mb (ds.map some ++ List.replicate l none) G = some (fl, δ', G') ∧ (fl = .nx ∧ d = .non ∨ fl = .rt d) := by
  have z := def_args e
  unfold Mi.mDef at e
  rw [if_pos z] at e
  split at e
  · rename_i δ' G2 eb
    cases e
    exact ⟨_, δ', eb, .inl ⟨rfl, rfl⟩⟩
  · rename_i d2 δ' G2 eb
    cases e
    exact ⟨_, δ', eb, .inr rfl⟩
  · cases e
/-- a def (or method) of the text does what its mirror does, if its body does -/
theorem fn_m {P : Program} {w : World} {K : PySem.W.Frag} {kx : Kx} {mg : Str → Option Value} {base : Heap} {k l : Nat} {x qual : Str} {st : Stmt} {f : Addr} {fd : FuncData} {N ps : List Str} {mb : MS} (F : Fun K x qual st f fd) (S : FnScope N ps (defScope st)) (hN : N.length = ps.length + l)
    (hbody : ∀ (cdv : Value) (A : Around) (outer : List Env) (s : Shared) (H : Hp) (E : XK), Room k (A.deeper (envOfC qual (defScope st) s.heap.objs.size f cdv)) → A.guards = some [] →
      PSs (cxOf CX0 P w K mg base N qual (defScope st) f cdv A outer s H E).nox (defBody st) (sM K kx mb)) :
    FnM P w K kx mg base (k + 1) f fd ps (Mi.mDef ps.length l mb) := by
  refine ⟨fun _ _ _ e => def_args e, fun A outer s H args us vs Q ρ G ds d G' quiet hr env hb r rl dr e q => ?_⟩
  have hl : vs.length = ps.length := dr.len ▸ def_args e
  obtain ⟨fl, δ', eb, out⟩ := def_body e
  refine entered F S hr env hb r hl (fun cdv deep => (hbody cdv A outer s H E0 deep quiet).nox) ⟨ρ, G, _, fl, δ', G', rl, sr_start dr (by rw [hN, hl]), eb, fun ρ' σ' H' g r' _ => ?_⟩
  rcases out with ⟨rfl, rfl⟩ | rfl
  · exact q _ ρ' H' g r' .non
  · exact fun v dv => q v ρ' H' g r' dv
/-! ### isinstance(x, C), C an own class, x of it -/
def mIsC (cn : Nat) (a : ME) : ME := Mi.m1 (fun x G => match x with
  | .ref h => match G[h]? with
    | some (.ins c _) => if c = cn then some (.bl true, G) else none
    | _ => none
  | _ => none) a
theorem m_isC {X : Cx} {kx : Kx} {a : Expr} {ma : ME} {pos : Pos} {cn : Nat} {y : Str} {p p2 : Pos} (c : C8.InsC X.K (kx.ca cn)) (hm : X.mg "isinstance" = none) (hmC : X.mg y = some (.ref (kx.ca cn))) (ha : PE X a (tM X.K kx ma))
    (hg : Gl X "isinstance" := by rfl) (hgC : Gl X y := by rfl) (hdy : (y == ("__debug__" : Str)) = false := by decide)
    (he : starEach [a, .Name y p2] X.env = (false, eval a X.env) :: starEach [.Name y p2] X.env := by rfl) (hpl : (backTo pos (starEach [.Name y p2] X.env)).any (·.1) = false := by rfl) (hs : starEach [.Name y p2] X.env = (false, eval (.Name y p2) X.env) :: starEach [] X.env := by rfl) :
    PE X (.Call (.Name "isinstance" p) [a, .Name y p2] [] pos) (tM X.K kx (mIsC cn ma)) := by
  refine (pe_callB (C8.call_isC c) hg hm (by decide +kernel) (pa_cons ha (pa_cons (pe_glob hgC hmC (v := .ref (kx.ca cn)) rfl hdy) pa_nil hs) he) (by decide) (by decide) he hpl).imp fun σ H Q ⟨ρ, G, δ, d, G', rl, sr, em, k⟩ => ?_
  obtain ⟨x, G1, e1, e⟩ := Mi.bnd_eq em
  refine ⟨ρ, G, δ, x, G1, rl, sr, e1, fun v ρ1 H1 g1 r1 d1 => ?_⟩
  cases x with
  | ref h =>
    dsimp only at e
    cases d1 with
    | @ref _ ad ea =>
      split at e
      · rename_i c' fs eh
        split at e
        · rename_i hc
          subst hc
          obtain ⟨dx, fs', h1, fr⟩ := ins_at r1 eh ea
          have e' := Option.some.inj e
          cases e'
          exact ⟨ad, dx, fs', rfl, h1, k _ ρ1 H1 g1 r1 (.bl true)⟩
        · exact absurd e (fun z => nomatch z)
      · exact absurd e (fun z => nomatch z)
  | _ => exact absurd e (fun z => nomatch z)

/-! ### the law's end -/
/-- what the top holds beside: tuples of ints -/
structure Held (K : PySem.W.Frag) (h : Heap) (ts : List (Addr × List Int)) : Prop where
  at_ : ∀ p ∈ ts, ∃ (o : Obj) (its : Array Value) (n : Nat), h.get? p.1 = some o ∧ o.cls = .type "tuple" ∧ o.data = .seq its n ∧ its.size ≤ sizeLine ∧ Vals (p.2.map V.int) its.toList
/-- True, and all that stood there ahead stands as it did -/
def SaysTrue (s : Shared) (r : Result) (s' : Shared) : Prop := r = .ok (.ret (.bool true)) ∧ OldK s.heap s'.heap ∧ s'.os = s.os ∧ AllBare s'.gens
/-- the tables of code objects of the defs that make lambdas: (code, table, name) -/
structure Tbs (K : PySem.W.Frag) (h : Heap) (ct : List (Addr × Addr × Str)) : Prop where
  obj : ∀ p ∈ ct, h.get? p.2.1 = some { cls := .none, data := .fields #[] }
  out : ∀ p ∈ ct, K.lookup p.2.1 = none
  hd : ∀ p ∈ ct, PySem.W.CodeHd h p.1 p.2.1
/-- the law's call has said True; what it was given stands as it did, the tables may have grown -/
theorem said_true {P : Program} {w : World} {K : PySem.W.Frag} {H : Hp} {s : Shared} {ct : List (Addr × Addr × Str)} (held : HOk P w H s.heap) (T : Tbs K s.heap ct)
    (still : ∀ b u, H b = some u → (∃ ob y, u = .frz ob y) ∨ (u = .tbl #[] ∧ ∃ p ∈ ct, p.2.1 = b)) :
    ∀ (r : Result) (s' : Shared), CR CX0 [] P w H s (fun v _ => v = V.bl true) E0 r s' → SaysTrue s r s' := by
  have value : ∀ (u : Value) (s' : Shared), CE [] P w H s (fun v _ => v = V.bl true) u s' → u = .bool true ∧ OldK s.heap s'.heap ∧ s'.os = s.os ∧ AllBare s'.gens := by
    intro u s' told
    have ⟨v, H', same_os, no_gens, un, held', rv, said⟩ := told
    have ev : v = V.bl true := said
    have each : ∀ b o, s.heap.get? b = some o → s'.heap.get? b = some o ∨ ((∃ p ∈ ct, p.2.1 = b) ∧ ∃ more, s'.heap.get? b = some { cls := .none, data := .fields more }) := fun b o there => by
      by_cases z : H b = none
      · exact .inl (un.keep b o there z List.not_mem_nil List.not_mem_nil)
      · obtain ⟨y, eH⟩ := Option.ne_none_iff_exists'.mp z
        rcases still b y eH with ⟨ob, z, ey⟩ | ⟨ey, hp⟩
        · rw [ey] at eH
          have was := (held b _ eH).1
          have is := (held' b _ (un.frzs b ob z eH)).1
          exact .inl (is.trans (was.symm.trans there))
        · rw [ey] at eH
          obtain ⟨more, z⟩ := un.tbls b #[] eH
          exact .inr ⟨hp, _, held' b _ z⟩
    refine ⟨by rw [ev] at rv; exact rv, ⟨fun b o there => ?_, fun b o there => ?_⟩, same_os, no_gens⟩
    · rcases each b o there with z | ⟨⟨p, hp, eb⟩, more, z⟩
      · exact .inl z
      · subst eb
        have e0 := T.obj p hp
        rw [there] at e0
        cases e0
        exact .inr (.inl ⟨((T.hd p hp).tab (T.obj p hp)).isCodeTable, rfl, #[], more, rfl, by rw [Array.empty_append]; exact z⟩)
    · rcases each b o there with z | ⟨_, more, z⟩
      · exact ⟨_, z⟩
      · exact ⟨_, z⟩
  intro r s' told
  match r, told with
  | .ok (.ret u), told =>
    obtain ⟨eu, rest⟩ := value u s' told
    exact ⟨by rw [eu], rest⟩
/-- all numbers of a script are whole: the promise of the law's def -/
theorem law_m {P : Program} {w : World} {K : PySem.W.Frag} {mg mb : Str → Option Value} {k : Nat} {fa a : Addr} {fd : FuncData} {x : Str} {kx : Kx} {mf : MF} {s₁ : Shared} {vs : List Value} {ns : List Int} {G' : Sto} {ts : List (Addr × List Int)} {ct : List (Addr × Addr × Str)}
    (kin : K.In s₁.heap) (hns : s₁.heap.Ns mainGlobals mg) (hb : s₁.heap.Ns builtinsNs mb) (hbb : ∀ x : Str, x ≠ "__name__" → mb x = bootBuiltins x) (nol : s₁.heap.NoLimit) (hg : s₁.gens = #[])
    (ha : s₁.heap.get? a = some { cls := .type "list", data := .seq vs.toArray }) (hi : IntsAre vs ns) (hl : ns.length ≤ sizeLine) (hr : Room k callerA) (hT : Held K s₁.heap ts)
    (hcs : kx.cs = ts.map fun p => (V.ref p.1, Dv.tup (p.2.map Dv.int))) (htt : kx.tt = ct.map fun p => (p.2.1, p.2.2)) (hC : Tbs K s₁.heap ct)
    (hbm : ∃ (bm : Addr) (ob : Obj), (mg "__builtins__" = some (.ref bm)) ∧ bm ≠ builtinsNs ∧ s₁.heap.get? bm = some ob ∧ ob.cls = .type "module" ∧ ob.dict = some builtinsNs ∧ ob.data = .plain)
    (F : ∀ base : Heap, K.In base → base.Ns mainGlobals mg → (∀ p ∈ ct, LamX.TabB base mg p.1 p.2.1) → FnM P w K kx mg base k fa fd [x] mf) (hbind : ∀ (s : Shared) (u : Value), BindsTo s fd ⟨[u], []⟩ [(x, u)])
    (run : mf [.scr ns] [] = some (.bl true, G')) :
    codeAny (model P w) callerA (.call (.ref fa) ⟨[.ref a], []⟩) (SaysTrue s₁) s₁ := by
  classical
  have rv := vals_ints hi
  have lenV := hi.length
  -- what is tracked: the script and the held tuples, where K does not hold them
  let TH : Addr → HO → Prop := fun b u => K.lookup b = none ∧ ((b = a ∧ u = .frz { cls := .type "list", data := .seq vs.toArray } (.lst (ns.map V.int))) ∨ (∃ p ∈ ts, p.1 = b ∧ ∃ o, s₁.heap.get? b = some o ∧ u = .frz o (.tup (p.2.map V.int))) ∨ ∃ p ∈ ct, p.2.1 = b ∧ u = .tbl #[])
  have one : ∀ {b u u'}, TH b u → TH b u' → u = u' := by
    rintro b u u' ⟨_, c⟩ ⟨_, c'⟩
    have dat : ∀ {p : Addr × List Int}, p ∈ ts → ∃ (o : Obj) (its : Array Value) (n : Nat), s₁.heap.get? p.1 = some o ∧ o.cls = .type "tuple" ∧ o.data = .seq its n ∧ Vals (p.2.map V.int) its.toList := fun {p} hp => by
      obtain ⟨o, its, n, e1, e2, e3, _, e5⟩ := hT.at_ p hp
      exact ⟨o, its, n, e1, e2, e3, e5⟩
    have noTab : ∀ {p : Addr × Addr × Str} {o : Obj}, p ∈ ct → s₁.heap.get? p.2.1 = some o → o.cls = .none := fun {p o} hp e => by
      rw [hC.obj p hp] at e
      cases e
      rfl
    rcases c with ⟨rfl, rfl⟩ | ⟨p, hp, ep, o, eo, rfl⟩ | ⟨p, hp, ep, rfl⟩ <;> rcases c' with ⟨eb, rfl⟩ | ⟨p', hp', ep', o', eo', rfl⟩ | ⟨p', hp', ep', rfl⟩
    · rfl
    · obtain ⟨o2, its, n, e1, e2, _⟩ := dat hp'
      rw [ep', ha] at e1
      cases e1
      exact absurd (show Value.type "list" = Value.type "tuple" from e2) (by decide)
    · exact absurd (show Value.type "list" = Value.none from noTab hp' (by rw [ep']; exact ha)) (by decide)
    · obtain ⟨o2, its, n, e1, e2, _⟩ := dat hp
      rw [ep, eb, ha] at e1
      cases e1
      exact absurd (show Value.type "list" = Value.type "tuple" from e2) (by decide)
    · obtain ⟨o1, its, n, e1, _, d1, v1⟩ := dat hp
      obtain ⟨o2, its', n', e2, _, d2, v2⟩ := dat hp'
      rw [ep] at e1
      rw [ep'] at e2
      rw [eo] at e1 eo'
      cases e1
      cases eo'
      rw [eo] at e2
      cases e2
      rw [d1] at d2
      cases d2
      have i1 : IntsAre its.toList p.2 := Vals.ints v1
      have i2 : IntsAre its.toList p'.2 := Vals.ints v2
      have : p.2 = p'.2 := by rw [← i1.numsOf, ← i2.numsOf]
      rw [this]
    · obtain ⟨o2, its, n, e1, e2, _⟩ := dat hp
      have z := noTab hp' (by rw [ep', ← ep]; exact e1)
      rw [e2] at z
      cases z
    · exact absurd (show Value.type "list" = Value.none from noTab hp (by rw [ep, eb]; exact ha)) (by decide)
    · obtain ⟨o2, its, n, e1, e2, _⟩ := dat hp'
      have z := noTab hp (by rw [ep, ← ep']; exact e1)
      rw [e2] at z
      cases z
    · rfl
  let H : Hp := fun b => if z : ∃ u, TH b u then some z.choose else none
  have Hs : ∀ {b u}, TH b u → H b = some u := fun {b u} t => by
    have z : ∃ u, TH b u := ⟨u, t⟩
    show (if z : ∃ u, TH b u then some z.choose else none) = some u
    rw [dif_pos z, one z.choose_spec t]
  have Ht : ∀ {b u}, H b = some u → TH b u := fun {b u} e => by
    have e' : (if z : ∃ u, TH b u then some z.choose else none) = some u := e
    split at e'
    · rename_i z
      cases e'
      exact z.choose_spec
    · cases e'
  have hok : HOk P w H s₁.heap := fun b u e => by
    obtain ⟨_, c⟩ := Ht e
    rcases c with ⟨rfl, rfl⟩ | ⟨p, hp, rfl, o, eo, rfl⟩ | ⟨p, hp, rfl, rfl⟩
    · exact ⟨ha, by rw [List.length_map]; exact hl, vs, _, rv, ha⟩
    · obtain ⟨o2, its, n, e1, e2, d2, sz, v2⟩ := hT.at_ p hp
      rw [eo] at e1
      cases e1
      refine ⟨eo, ?_, its.toList, v2, ?_⟩
      · rw [v2.length, Array.length_toList]
        exact sz
      · exact ⟨o, eo, e2, n, d2⟩
    · exact hC.obj p hp
  have hnK : ∀ b o, K.lookup b = some o → H b = none := fun b o e => by
    cases q : H b with
    | none => rfl
    | some u =>
      have := (Ht q).1
      rw [this] at e
      cases e
  have isD : ∀ {b : Addr} {o : Obj}, s₁.heap.get? b = some o → H b ≠ none → (∃ xs n, o.data = .seq xs n) ∨ o.data = .fields #[] := fun {b o} e n => by
    obtain ⟨u, q⟩ := Option.ne_none_iff_exists'.mp n
    obtain ⟨_, c⟩ := Ht q
    rcases c with ⟨rfl, rfl⟩ | ⟨p, hp, rfl, o', eo, rfl⟩ | ⟨p, hp, rfl, rfl⟩
    · rw [ha] at e
      cases e
      exact .inl ⟨_, _, rfl⟩
    · obtain ⟨o2, its, n, e1, _, d2, _⟩ := hT.at_ p hp
      rw [e] at e1
      cases e1
      exact .inl ⟨_, _, d2⟩
    · rw [hC.obj p hp] at e
      cases e
      exact .inr rfl
  have noD : ∀ {b : Addr} {o : Obj}, s₁.heap.get? b = some o → (∀ xs n, o.data ≠ .seq xs n) → o.data ≠ .fields #[] → H b = none := fun {b o} e n1 n2 => by
    by_cases z : H b = none
    · exact z
    · rcases isD e z with ⟨xs, n, q⟩ | q
      · exact absurd q (n1 _ _)
      · exact absurd q n2
  have nodict : ∀ {b : Addr} {o : Obj} {es : Array DictEntry} {ep : Nat}, s₁.heap.get? b = some o → o.data = .dict es ep → H b = none := fun {b o es ep} e d => noD e (fun xs n z => by rw [d] at z; cases z) fun z => by rw [d] at z; cases z
  have ob : ∀ {b : Addr} {o : Obj}, s₁.heap.get? b = some o → H b = none → (hidT s₁.heap H).get? b = some o := fun e n => hidT_get e n
  have nsK : ∀ {b : Addr} {m : Str → Option Value}, s₁.heap.Ns b m → (hidT s₁.heap H).Ns b m := fun {b m} ⟨o, es, ep, e, d, r⟩ => ⟨o, es, ep, ob e (nodict e d), d, r⟩
  have kinb : K.In (hidT s₁.heap H) := fun b o e => ob (kin b o e) (hnK b o e)
  have hM : Mod K mg (hidT s₁.heap H) := ⟨kinb, nsK hns, ⟨mb, nsK hb, hbb⟩, let ⟨mc, h1, h2⟩ := nol; ⟨mc, nsK h1, h2⟩⟩
  have TB : ∀ p ∈ ct, LamX.TabB (hidT s₁.heap H) mg p.1 p.2.1 := fun p hp => by
    have hTp := hC.obj p hp
    have coded : PySem.W.CodeHd (hidT s₁.heap H) p.1 p.2.1 := by
      obtain ⟨o, us, file, tf, flags, tg, inF, text, tt, there, kind, dat, slot, rest⟩ := hC.hd p hp
      refine ⟨o, us, file, tf, flags, tg, inF, text, tt, ob there (noD there (fun xs n z => ?_) fun z => ?_), kind, dat, slot, rest⟩ <;> rw [dat] at z <;> cases z
      simp at slot
    have main : (hidT s₁.heap H).BuiltinsAt mg p.2.1 := by
      obtain ⟨bm, o, m1, m2, there, m4, m5, plain⟩ := hbm
      refine ⟨bm, o, m1, m2, fun z => ?_, fun z => ?_, ob there (noD there (fun xs n z => ?_) fun z => ?_), m4, m5, plain⟩
      · obtain ⟨g, es, ep, e, d, _⟩ := hns
        rw [z, e] at there
        cases there
        rw [d] at plain
        cases plain
      · rw [z, hTp] at there
        cases there
        cases plain
      · rw [plain] at z
        cases z
      · rw [plain] at z
        cases z
    refine ⟨coded, main, fun z => ?_⟩
    obtain ⟨g, es, ep, e, d, _⟩ := hns
    rw [z, hTp] at e
    cases e
    cases d
  have e0 : Env0 P w K mg (hidT s₁.heap H) callerA [] s₁ H :=
    ⟨rfl, hM, fun b o e => of_hidT e, Nat.le_of_eq (hidT_size _ _), trivial, fun b hb => absurd (show b ∈ ([] : List Addr) from hb) (by simp), hok, .of_eq hg⟩
  have dints : ∀ (ρ : Rh) (ms : List Int), DRs K ρ H (ms.map Dv.int) (ms.map V.int) := fun ρ ms => by
    induction ms with
    | nil => exact .nil
    | cons m ms ih => exact .cons (.int m) ih
  have rl : Rl K kx ⟨[], []⟩ [] H := by
    refine ⟨rfl, List.nodup_nil, fun h o e => by simp at e, fun q hq => ?_, fun b hb => by simp at hb, fun q hq => ?_⟩
    rotate_left
    · rw [htt] at hq
      obtain ⟨p, hp, ep⟩ := List.mem_map.mp hq
      subst ep
      exact LamX.TabS.nil (Hs ⟨hC.out p hp, .inr (.inr ⟨p, hp, rfl, rfl⟩)⟩)
    rw [hcs] at hq
    have ⟨p, hp, ep⟩ := List.mem_map.mp hq
    subst ep
    refine .tup ?_ (dints _ p.2)
    obtain ⟨o, its, n, e1, e2, d2, sz, v2⟩ := hT.at_ p hp
    cases hk : K.lookup p.1 with
    | none => exact .inl (.inr ⟨o, Hs ⟨hk, .inr (.inl ⟨p, hp, rfl, o, e1, rfl⟩)⟩⟩)
    | some o' =>
      have e3 := kin _ _ hk
      rw [e1] at e3
      cases e3
      exact .inr ⟨o, its, n, hk, e2, d2, sz, v2⟩
  have sc : DR K ⟨[], []⟩ H (.scr ns) (.ref a) := by
    refine .scr ?_
    cases hk : K.lookup a with
    | none => exact .inl ⟨_, Hs ⟨hk, .inl ⟨rfl, rfl⟩⟩⟩
    | some o =>
      have e3 := kin _ _ hk
      rw [ha] at e3
      cases e3
      exact .inr ⟨_, vs.toArray, _, hk, rfl, rfl, rfl, by rw [List.size_toArray, lenV]; exact hl, by simpa using rv⟩
  have still : ∀ b u, H b = some u → (∃ ob y, u = .frz ob y) ∨ (u = .tbl #[] ∧ ∃ p ∈ ct, p.2.1 = b) := fun b u e => by
    rcases (Ht e).2 with ⟨_, z⟩ | ⟨_, _, _, _, _, z⟩ | ⟨p, hp, e, z⟩
    · exact .inl ⟨_, _, z⟩
    · exact .inl ⟨_, _, z⟩
    · exact .inr ⟨z, p, hp, e⟩
  exact codeAny_mono ((F _ kinb (nsK hns) TB).run callerA [] s₁ H ⟨[.ref a], []⟩ [.ref a] [.ref a] (fun v _ => v = .bl true) ⟨[], []⟩ [] [.scr ns] _ G' rfl hr e0 (hbind s₁ (.ref a)) (.cons rfl .nil) rl (.cons sc .nil) run fun v ρ' H' g r d => by cases d; rfl) (said_true hok hC still)
/-- a loose name that is a number, a tuple of numbers -/
theorem loose_int {lv : List (Str × PySem.W.WData)} {mg : Str → Option Value} {h : Heap} {x : Str} {i : Int} (L : PySem.W.LooseAre lv mg h) (e : lv.lookup x = some (.int i)) : ∃ t, mg x = some (.int i t) := by
  obtain ⟨v, h1, h2⟩ := L.val _ (PySem.W.mem_lookup e)
  cases h2
  exact ⟨_, h1⟩
theorem reads_ints {h : Heap} : ∀ {vs : List Value} {ns : List Int} {as : List Addr}, PySem.W.ReadsAllW [] (fun _ => none) h vs (ns.map PySem.W.WData.int) as → Vals (ns.map V.int) vs
  | [], [], _, _ => .nil
  | _ :: _, [], _, z => nomatch z
  | [], _ :: _, _, z => nomatch z
  | v :: vs, n :: ns, as, r => by
    rw [List.map_cons] at r
    cases r with
    | cons r1 r2 =>
      cases r1
      exact .cons ⟨_, rfl⟩ (reads_ints r2)
theorem loose_tup {K : PySem.W.Frag} {lv : List (Str × PySem.W.WData)} {mg : Str → Option Value} {h : Heap} {x : Str} {ns : List Int} (L : PySem.W.LooseAre lv mg h) (e : lv.lookup x = some (.tuple (ns.map PySem.W.WData.int))) (hz : ns.length ≤ sizeLine) :
    ∃ t, mg x = some (.ref t) ∧ Held K h [(t, ns)] := by
  obtain ⟨v, h1, h2⟩ := L.val _ (PySem.W.mem_lookup e)
  have e2 : ∀ d, d = PySem.W.WData.tuple (ns.map PySem.W.WData.int) → PySem.W.ReadsLit h v d [] → ∃ t, v = .ref t ∧ Held K h [(t, ns)] := by
    intro d hd r
    cases r <;> first | cases hd | skip
    rename_i a o vs n g1 g2 g3 g4
    have q := reads_ints g4
    refine ⟨a, rfl, ⟨fun p hp => ?_⟩⟩
    obtain rfl : p = (a, ns) := by simpa using hp
    refine ⟨o, vs, n, g1, g2, g3, ?_, q⟩
    have := q.length
    rw [List.length_map] at this
    rw [← Array.length_toList, ← this]
    exact hz
  obtain ⟨t, rfl, ht⟩ := e2 _ rfl h2
  exact ⟨t, h1, ht⟩
/-- the goal that k_head leaves -/
theorem walk_m {l : PySem.W.OpenLaw} {n k : Nat} {q : Program} {lq : Program} {loose : List Str} {lv : List (Str × PySem.W.WData)} {YP : World → Heap → Prop} {d : DefRec} {K : Params → PySem.W.Frag} {x : Str} {mf : MF} {ms : List Str}
    (hn : l.most = some n) (hn2 : n ≤ sizeLine) (hdf : d.params.defaults = []) (hr : Room k callerA) (hY : ∀ w h, YP w h → (K w.params).In h)
    (hms : ∀ m ∈ ms, ((recsOf q).find? (fun e => e.name == m)).isSome = true)
    (F : ∀ (w : World) (mg : Str → Option Value) (fa : Addr) (h : Heap), (K w.params).In h → h.Ns mainGlobals mg → mg d.name = some (.ref fa) → PySem.W.LooseAre lv mg h →
      ∃ (fd : FuncData) (kx : Kx) (ts : List (Addr × List Int)) (ct : List (Addr × Addr × Str)), Held (K w.params) h ts ∧ (kx.cs = ts.map fun p => (V.ref p.1, Dv.tup (p.2.map Dv.int))) ∧ (kx.tt = ct.map fun p => (p.2.1, p.2.2)) ∧
        (∀ p ∈ ct, ∃ m ∈ ms, PySem.W.tabIn (K w.params) m = some (p.1, p.2.1) ∧ (K w.params).lookup p.2.1 = none) ∧ (∀ (s : Shared) (u : Value), BindsTo s fd ⟨[u], []⟩ [(x, u)]) ∧
        ∀ base : Heap, (K w.params).In base → base.Ns mainGlobals mg → (∀ p ∈ ct, LamX.TabB base mg p.1 p.2.1) → FnM l.prog w (K w.params) kx mg base k fa fd [x] mf)
    (run : ∀ ns : List Int, ns.length ≤ n → ∃ G', mf [.scr ns] [] = some (.bl true, G')) :
    PySem.W.WalkO q loose (PySem.W.XL lq lv) YP l.row.toRowW d [] (fun f vs => PySem.call f vs) := by
  refine Att.attach_call hn hdf ?_
  intro w s₀ s₁ mg mb fa _ _ _ _ _ _ ns top Y _ _ _ law_is script nums few quiet
  have kin := hY w _ Y
  obtain ⟨fd, kx, ts, ct, hT, hcs, htt, hct, hb, hF⟩ := F w mg fa _ kin top.T.g law_is top.X.2
  have tab : ∀ p ∈ ct, PySem.W.CodeHd s₁.heap p.1 p.2.1 ∧ s₁.heap.get? p.2.1 = some { cls := .none, data := .fields #[] } := fun p hp => by
    obtain ⟨m, hm, e, _⟩ := hct p hp
    obtain ⟨r, er⟩ := Option.isSome_iff_exists.mp (hms m hm)
    exact PySem.W.tab_of top.T kin er e
  have ⟨G', e⟩ := run ns few
  exact law_m kin top.T.g top.T.b top.T.builtins top.T.nolimit quiet script nums (Nat.le_trans few hn2) hr hT hcs htt ⟨fun p hp => (tab p hp).2, fun p hp => (hct p hp).choose_spec.2.2, fun p hp => (tab p hp).1⟩ top.T.bmain hF hb e
end Ms

/-! PyS7: what the top has left, in bundles; calls by them. -/
namespace Ms
open PySem L2 PyProof.Rows
open Mi (Dv MO Sto Sl Rs bnd ME MT MA MS MF Fl MG MGs MI)
/-- a def of the module stands under its name -/
structure Dfn (K : PySem.W.Frag) (mg : Str → Option Value) (x : Str) (st : Stmt) : Prop where
  ex : ∃ f fd, Fun K x x st f fd ∧ mg x = some (.ref f)
/-- a method m of the own class at C -/
structure Dfm (K : PySem.W.Frag) (C : Addr) (m qual : Str) (st : Stmt) : Prop where
  ex : ∃ f fd, Fun K m qual st f fd ∧ Meth K C m f
/-- the making of the class at C -/
structure Dfk (K : PySem.W.Frag) (mg : Str → Option Value) (C : Addr) (x qual : Str) (st : Stmt) : Prop where
  ex : ∃ f fd, Fun K "__init__" qual st f fd ∧ Mk K C f ∧ mg x = some (.ref C)
/-- the same with what they do -/
structure Cal (P : Program) (w : World) (K : PySem.W.Frag) (kx : Kx) (mg : Str → Option Value) (base : Heap) (k : Nat) (x : Str) (st : Stmt) (ps : List Str) (mf : MF) : Prop where
  ex : ∃ f fd, Fun K x x st f fd ∧ mg x = some (.ref f) ∧ FnM P w K kx mg base k f fd ps mf ∧ Binds K fd ps []
structure Met (P : Program) (w : World) (K : PySem.W.Frag) (kx : Kx) (mg : Str → Option Value) (base : Heap) (k cn : Nat) (m qual : Str) (st : Stmt) (ps : List Str) (mf : MF) : Prop where
  ex : ∃ f fd, Fun K m qual st f fd ∧ Cls K (kx.ca cn) ∧ Meth K (kx.ca cn) m f ∧ FnM P w K kx mg base k f fd ps mf ∧ Binds K fd ps []
structure Mak (P : Program) (w : World) (K : PySem.W.Frag) (kx : Kx) (mg : Str → Option Value) (base : Heap) (k cn : Nat) (x qual : Str) (st : Stmt) (ps : List Str) (mf : MF) : Prop where
  ex : ∃ f fd, Fun K "__init__" qual st f fd ∧ Mk K (kx.ca cn) f ∧ FnM P w K kx mg base k f fd ps mf ∧ mg x = some (.ref (kx.ca cn)) ∧ Binds K fd ps []
/-- how the arguments bind: by position alone -/
abbrev Bp (x qual : Str) (st : Stmt) (ps : List Str) : Prop := ∀ (kV doc pm : Value) (an : Option Addr) (cdv ct : Value) (us : List Value), us.length = ps.length →
  bindArgs (PySem.W.fnOf x qual (defArgs st) (defBody st) (defScope st) .none kV doc pm an cdv ct) ⟨us, []⟩ = pure (ps.zip us)
/-- n by position, ks by name -/
abbrev Bk (x qual : Str) (st : Stmt) (ps ks : List Str) (n : Nat) (ix : List Nat) : Prop := ∀ (kV doc pm : Value) (an : Option Addr) (cdv ct : Value) (us ws : List Value), us.length = n → ws.length = ks.length →
  bindArgs (PySem.W.fnOf x qual (defArgs st) (defBody st) (defScope st) .none kV doc pm an cdv ct) ⟨us, ks.zip ws⟩ = pure (ps.zip (pickU ix (us ++ ws)))
theorem _root_.L2.Fun.kbm {K : PySem.W.Frag} {x qual : Str} {st : Stmt} {f : Addr} {fd : FuncData} {ps ks : List Str} {n : Nat} {ix : List Nat} (F : Fun K x qual st f fd) (h : Bk x qual st ps ks n ix) : KBm fd ps ks n ix := by
  have ⟨_, _, kV, doc, pm, an, cdv, ct, _, e, _, _⟩ := F.ex
  subst e
  exact fun s us ws h1 h2 => .of_eq (h kV doc pm an cdv ct us ws h1 h2)
section
variable {P : Program} {w : World} {K : PySem.W.Frag} {kx : Kx} {mg : Str → Option Value} {base : Heap} {k l cn : Nat} {x m qual : Str} {st : Stmt} {N ps : List Str} {mb : MS}
/-- what is shown of a body -/
abbrev Bdy (P : Program) (w : World) (K : PySem.W.Frag) (kx : Kx) (mg : Str → Option Value) (base : Heap) (k : Nat) (N : List Str) (qual : Str) (st : Stmt) (mb : MS) : Prop :=
  ∀ (f : Addr) (cdv : Value) (A : Around) (outer : List Env) (s : Shared) (H : Hp) (E : XK), Room k (A.deeper (envOfC qual (defScope st) s.heap.objs.size f cdv)) → A.guards = some [] →
    PSs (cxOf CX0 P w K mg base N qual (defScope st) f cdv A outer s H E).nox (defBody st) (sM K kx mb)
theorem cal_of (D : Dfn K mg x st) (S : FnScope N ps (defScope st)) (hN : N.length = ps.length + l) (hb : Bp x x st ps) (b : Bdy P w K kx mg base k N x st mb) : Cal P w K kx mg base (k + 1) x st ps (Mi.mDef ps.length l mb) := by
  obtain ⟨f, fd, F, hm⟩ := D.ex
  exact ⟨f, fd, F, hm, fn_m F S hN (b f), F.binds hb⟩
theorem met_of (c : Cls K (kx.ca cn)) (D : Dfm K (kx.ca cn) m qual st) (S : FnScope N ps (defScope st)) (hN : N.length = ps.length + l) (hb : Bp m qual st ps) (b : Bdy P w K kx mg base k N qual st mb) : Met P w K kx mg base (k + 1) cn m qual st ps (Mi.mDef ps.length l mb) := by
  obtain ⟨f, fd, F, hm⟩ := D.ex
  exact ⟨f, fd, F, c, hm, fn_m F S hN (b f), F.binds hb⟩
theorem mak_of (D : Dfk K mg (kx.ca cn) x qual st) (S : FnScope N ps (defScope st)) (hN : N.length = ps.length + l) (hb : Bp "__init__" qual st ps) (b : Bdy P w K kx mg base k N qual st mb) : Mak P w K kx mg base (k + 1) cn x qual st ps (Mi.mDef ps.length l mb) := by
  obtain ⟨f, fd, F, hk, hm⟩ := D.ex
  exact ⟨f, fd, F, hk, fn_m F S hN (b f), hm, F.binds hb⟩
end
section
variable {X : Cx} {kx : Kx} {e a b c o : Expr} {ma mb mc me mo : ME} {pos p apos : Pos} {rest es : List Expr} {mas mks : MA} {k cn : Nat} {st : Stmt} {ps : List Str} {mf : MF} {x qual : Str}
theorem m_cl (c : Cal X.prog X.w X.K kx X.mg X.base k x st ps mf) (hG : X.A.guards = some []) (hr : Room k X.A) (ha : PA X (e :: es) (tMA X.K kx mas)) (hg : Gl X x := by rfl)
    (hdb : (x == ("__debug__" : Str)) = false := by decide) (he : Es X e es := by rfl) (hpl : Np X pos es := by rfl) : PE X (.Call (.Name x p) (e :: es) [] pos) (tM X.K kx (Mi.mCall mf mas)) := by
  obtain ⟨f, fd, F, hm, G, b⟩ := c.ex
  exact m_call G hG hr hm F.kp b ha hg hdb he hpl
theorem m_cl0 (c : Cal X.prog X.w X.K kx X.mg X.base k x st ps mf) (hG : X.A.guards = some []) (hr : Room k X.A) (hg : Gl X x := by rfl) (hdb : (x == ("__debug__" : Str)) = false := by decide) : PE X (.Call (.Name x p) [] [] pos) (tM X.K kx (Mi.mCall mf Mi.mNil)) := by
  obtain ⟨f, fd, F, hm, G, b⟩ := c.ex
  exact m_call0 G hG hr hm F.kp b hg hdb
theorem m_clK0 {kws : List Keyword} {ks : List Str} {ix : List Nat} (c : Cal X.prog X.w X.K kx X.mg X.base k x st ps mf) (hG : X.A.guards = some []) (hr : Room k X.A) (hb : Bk x x st ps ks 0 ix) (hl : Len mks ks.length) (hkw : PK X kws (tMA X.K kx mks)) (hg : Gl X x := by rfl)
    (hall : Ka X pos kws := by rfl) (hks : Ks X pos kws ks := by rfl) (hdb : (x == ("__debug__" : Str)) = false := by decide)
    (hpl : ((backTo pos (starEach [] X.env)).any (·.1) || (backToKw pos (keywordEach kws X.env)).any (·.1.isNone)) = false := by rfl) : PE X (.Call (.Name x p) [] kws pos) (tM X.K kx (Mi.mCallK mf ix Mi.mNil mks)) := by
  obtain ⟨f, fd, F, hm, G, b⟩ := c.ex
  exact m_callK0 G hG hr hm F.kp (F.kbm hb) hl hkw hg hall hks hdb hpl
theorem m_clK {kws : List Keyword} {ks : List Str} {n : Nat} {ix : List Nat} (c : Cal X.prog X.w X.K kx X.mg X.base k x st ps mf) (hG : X.A.guards = some []) (hr : Room k X.A) (hb : Bk x x st ps ks n ix) (hl1 : Len mas n) (hl : Len mks ks.length) (ha : PA X (e :: es) (tMA X.K kx mas)) (hkw : PK X kws (tMA X.K kx mks)) (hg : Gl X x := by rfl)
    (hall : Ka X pos kws := by rfl) (hks : Ks X pos kws ks := by rfl) (hdb : (x == ("__debug__" : Str)) = false := by decide) (he : Es X e es := by rfl)
    (hpl : ((backTo pos (starEach (e :: es) X.env)).any (·.1) || (backToKw pos (keywordEach kws X.env)).any (·.1.isNone)) = false := by rfl) : PE X (.Call (.Name x p) (e :: es) kws pos) (tM X.K kx (Mi.mCallK mf ix mas mks)) := by
  obtain ⟨f, fd, F, hm, G, b⟩ := c.ex
  exact m_callK G hG hr hm F.kp (F.kbm hb) hl1 hl ha hkw hg hall hks hdb he hpl
theorem m_mt {m : String} {pl : Sem Bool} (c : Met X.prog X.w X.K kx X.mg X.base k cn (Str.ofString m) qual st ps mf) (hG : X.A.guards = some []) (hr : Room k X.A) (ho : PE X o (tM X.K kx mo)) (ha : PA X (e :: es) (tMA X.K kx mas))
    (hst : Es X e es := by rfl) (hpl : Np X pos es := by rfl)
    (ht : eval (.Call (.Attribute o (Str.ofString m) apos) (e :: es) [] pos) X.env = (do let ov ← eval o X.env; standAt apos.atName; let (f, first) ← holding [ov] (getMethod ov (Str.ofString m) pl); callWith pos f first (backTo pos (starEach (e :: es) X.env)) (backToKw pos (keywordEach [] X.env))) := by rfl) :
    PE X (.Call (.Attribute o (Str.ofString m) apos) (e :: es) [] pos) (tM X.K kx (Mi.mMeth cn m mf mo mas)) := by
  obtain ⟨f, fd, F, hc, hm, G, b⟩ := c.ex
  exact m_meth ho hc hm G hG hr b ha hst hpl ht
theorem m_mt0 {m : String} {pl : Sem Bool} (c : Met X.prog X.w X.K kx X.mg X.base k cn (Str.ofString m) qual st ps mf) (hG : X.A.guards = some []) (hr : Room k X.A) (ho : PE X o (tM X.K kx mo))
    (ht : eval (.Call (.Attribute o (Str.ofString m) apos) [] [] pos) X.env = (do let ov ← eval o X.env; standAt apos.atName; let (f, first) ← holding [ov] (getMethod ov (Str.ofString m) pl); callWith pos f first (backTo pos (starEach [] X.env)) (backToKw pos (keywordEach [] X.env))) := by rfl) :
    PE X (.Call (.Attribute o (Str.ofString m) apos) [] [] pos) (tM X.K kx (Mi.mMeth cn m mf mo Mi.mNil)) := by
  obtain ⟨f, fd, F, hc, hm, G, b⟩ := c.ex
  exact m_meth0 ho hc hm G hG hr b ht
theorem m_mtK0 {kws : List Keyword} {ks : List Str} {ix : List Nat} {m : String} {pl : Sem Bool} (c : Met X.prog X.w X.K kx X.mg X.base k cn (Str.ofString m) qual st ps mf) (hG : X.A.guards = some []) (hr : Room k X.A) (hb : Bk (Str.ofString m) qual st ps ks 1 ix) (hl : Len mks ks.length) (ho : PE X o (tM X.K kx mo)) (hkw : PK X kws (tMA X.K kx mks))
    (hall : Ka X pos kws := by rfl) (hks : Ks X pos kws ks := by rfl)
    (hpl : ((backTo pos (starEach [] X.env)).any (·.1) || (backToKw pos (keywordEach kws X.env)).any (·.1.isNone)) = false := by rfl)
    (ht : eval (.Call (.Attribute o (Str.ofString m) apos) [] kws pos) X.env = (do let ov ← eval o X.env; standAt apos.atName; let (f, first) ← holding [ov] (getMethod ov (Str.ofString m) pl); callWith pos f first (backTo pos (starEach [] X.env)) (backToKw pos (keywordEach kws X.env))) := by rfl) :
    PE X (.Call (.Attribute o (Str.ofString m) apos) [] kws pos) (tM X.K kx (Mi.mMethK cn m mf ix mo Mi.mNil mks)) := by
  obtain ⟨f, fd, F, hc, hm, G, b⟩ := c.ex
  exact m_methK0 ho hc hm G hG hr (F.kbm hb) hl hkw hall hks hpl ht
theorem m_mk (c : Mak X.prog X.w X.K kx X.mg X.base k cn x qual st ps mf) (hG : X.A.guards = some []) (hr : Room (k + 1) X.A) (ha : PA X (e :: es) (tMA X.K kx mas)) (hg : Gl X x := by rfl)
    (hdb : (x == ("__debug__" : Str)) = false := by decide) (he : Es X e es := by rfl) (hpl : Np X pos es := by rfl) : PE X (.Call (.Name x p) (e :: es) [] pos) (tM X.K kx (Mi.mMake cn mf mas)) := by
  obtain ⟨f, fd, F, hk, G, hm, b⟩ := c.ex
  exact m_make hk G hG hr hm b ha hg hdb he hpl
/-- a tuple that the top holds -/
theorem m_globT {d : Dv} (h : ∃ t, X.mg x = some (.ref t) ∧ (V.ref t, d) ∈ kx.cs) (hg : Gl X x := by rfl) (hd : (x == ("__debug__" : Str)) = false := by decide) : PE X (.Name x pos) (tM X.K kx (Mi.mC d)) := by
  obtain ⟨t, h1, h2⟩ := h
  exact m_glob (v := .ref t) h1 rfl h2 hg hd
end
theorem u1 {A : Around} {k : Nat} (h : Room k A) : A.units + 1 < cLine := by have := h.un; omega
theorem u64 {A : Around} {k : Nat} (h : Room k A) : A.units + 64 < cLine := by have := h.un; omega
end Ms

/-! PyTw: whatever hands out a new tuple at each turn (WalksT of the library) is something to be walked. -/
namespace Ms
open PySem L2 PyProof.Rows
/-- the new tuples' items at turn i are told by out -/
def ItW (go : Nat → Hp → Prop) (out : Nat → Hp → List V → Prop) (stop : Nat → Hp → Prop) : It where
  go := go
  yld := fun i H v H' => ∃ T xs, v = .ref T ∧ H T = none ∧ H' = upd H T (.tup xs) ∧ out i H xs
  stop := stop
/-- a walk of the library at hand: at turn i of n -/
structure AtW (P : Program) (w : World) (A : Around) (e : Addr) (ch : List Addr) (tn : Nat → Heap → Prop) (h : Heap) (i n : Nat) (Pt : Nat → Array Value → Prop) : Prop where
  ex : ∃ fp wr St Mid, WalksT P w A e fp wr n Pt St Mid ∧ (∀ b ∈ wr, b ∈ ch) ∧ St i h ∧ ∀ j h', St j h' → tn j h'
theorem turn_of_walks {P : Program} {w : World} {K : PySem.W.Frag} {elts : List Expr} {kk : Nat} {tpos : Pos} {e : Addr} {ch : List Addr} {go stop : Nat → Hp → Prop} {out : Nat → Hp → List V → Prop} {tn : Nat → Heap → Prop}
    (front : e ∈ ch) (plain : ∀ i h, tn i h → ∀ b ∈ ch, ∃ o, h.get? b = some o ∧ ∀ v, o.data ≠ .cell v) (stay : ∀ i h h', tn i h → (∀ b ∈ ch, ∀ o, h.get? b = some o → h'.get? b = some o) → tn i h')
    (again : ∀ (A : Around) (i : Nat) (s : Shared) (Q E : Value → Shared → Prop), tn i s.heap → Q (.ref e) s → wpAny (model P w) A (pyIter (.ref e)) Q E s)
    (goes : ∀ X : Cx, X.prog = P → X.w = w → X.K = K → X.A.in1.handled = none → ∀ i pins σ H s, Inv X pins σ H s → tn i s.heap → go i H →
      ∃ n Pt, AtW P w X.A e ch tn s.heap i n Pt ∧ i < n ∧ ∀ vals, Pt i vals → ∃ xs, out i H xs ∧ xs.length ≤ sizeLine ∧ Vals xs vals.toList)
    (ends : ∀ X : Cx, X.prog = P → X.w = w → X.K = K → X.A.in1.handled = none → ∀ i pins σ H s, Inv X pins σ H s → tn i s.heap → stop i H → ∃ Pt, AtW P w X.A e ch tn s.heap i i Pt) :
    Turn P w K (.Tuple elts kk tpos) (ItW go out stop) ch e tn := by
  refine ⟨front, plain, stay, ?turn, ?last, again⟩
  case turn =>
    intro X eP ew eK calm i pins s σ H E I own here g
    obtain ⟨n, Pt, ⟨fp, wr, St, Mid, W, sub, now, told⟩, lt, give⟩ := goes X eP ew eK (I.ok.hd calm) i pins σ H s I here g
    refine W.item i s _ _ lt now fun T vals h1 tk pt far tup mid k1 => ⟨.ref T, rfl, ?_⟩
    refine W.go elts kk tpos i T { s with heap := h1, toks := tk } _ _ mid fun h2 next k2 => ?_
    obtain ⟨xs, ho, short, read⟩ := give vals pt
    have tup2 : h2.IsTuple T vals := tup.at fun o q => k2 T o (W.apart i T h1 mid) q
    have kept : ∀ b o, b ∉ ch → s.heap.get? b = some o → h2.get? b = some o := fun b o nb q => k2 b o (fun z => nb (sub b z)) (k1 b o (fun z => nb (sub b z)) q)
    have J : Inv X pins σ (upd H T (.tup xs)) { s with heap := h2, toks := tk } := I.turnedNew kept own far ⟨short, vals.toList, read, tup2⟩
    refine ⟨.ref T, _, J, rfl, ⟨T, xs, rfl, I.hok.fresh far, rfl, ho⟩, told _ _ next, fun b hb => ?_⟩
    obtain ⟨o, there, _⟩ := plain i s.heap here b hb
    have ne : b ≠ T := fun z => Nat.lt_irrefl _ (Nat.lt_of_lt_of_le (z ▸ Heap.lt_size there) far)
    exact (upd_ne ne).trans (own b hb).1
  case last =>
    intro X eP ew eK calm i pins s σ H E I own here g
    obtain ⟨Pt, ⟨fp, wr, St, Mid, W, sub, now, told⟩⟩ := ends X eP ew eK (I.ok.hd calm) i pins σ H s I here g
    exact W.done s _ _ now fun h1 tk k => ⟨rfl, I.turnedL (fun b o nb q => k b o (fun z => nb (sub b z)) q) own⟩
/-- cells behind the end are nobody's -/
theorem fresh_ch {X : Cx} {pins : List (Addr × Obj)} {σ : L2.St} {H : Hp} {s : Shared} {ch : List Addr} (I : Inv X pins σ H s) (far : ∀ b ∈ ch, s.heap.objs.size ≤ b) : ∀ b ∈ ch, FpOk X pins H b :=
  fun b hb => I.fpOk (far b hb) (I.hok.fresh (far b hb))
theorem two_line : 2 ≤ sizeLine := by decide
/-- an item by its place -/
theorem item_at {α : Type} {xs : List α} {i : Nat} {x y : α} (hx : xs[i]? = some x) (hy : xs.toArray[i]? = some y) : y = x := by
  rw [List.getElem?_toArray, hx] at hy
  injection hy with q
  exact q.symm
end Ms

/-! PyS8: {} ; += ; max of a tuple whose items are one and the same. -/
namespace Ms
open PySem L2 PyProof.Rows
open Mi (Dv MO Sto Sl Rs bnd ME MT MA MS MF Fl MG MGs MI)
def mDct0 : ME := fun _ G => some (.ref G.length, G ++ [.dct []])
theorem m_dct0 {X : Cx} {kx : Kx} {pos : Pos} : PE X (.Dict [] [] pos) (tM X.K kx mDct0) := pe_dnewK.imp fun σ H Q ⟨ρ, G, δ, d, G', rl, sr, e, k⟩ => by
  cases e
  intro p hp
  obtain ⟨g, r⟩ := rl.grow (p := p) (o := .dK []) (m := .dct []) hp fun g => .dct upd_same .nil
  exact k _ _ _ g r (.ref (by rw [← rl.len]; show (ρ.r ++ [p])[ρ.r.length]? = some p; rw [List.getElem?_append_right (Nat.le_refl _)]; simp))
def bAddI : Mi.B2 := fun x y G => match x, y with
  | .int i, .int j => some (.int (i + j), G)
  | _, _ => none
theorem b_addI {X : Cx} {kx : Kx} : B2ok X kx bAddI (rI0 fun i j => .int (i + j)) := by
  intro x y G d G' ρ H v w Q e rl dx dy k
  unfold bAddI at e
  split at e
  · cases e
    cases dx
    cases dy
    exact ⟨_, _, rfl, rfl, k _ ρ H Gr.refl rl (.int _)⟩
  · cases e
theorem b_addR {X : Cx} {kx : Kx} : B2ok X kx bAddI rAdd := b_addI
theorem b_subR {X : Cx} {kx : Kx} : B2ok X kx Mi.bSub rSub := b_sub

open Classical in
/-- max(t): t's items are all the same tuple of whole numbers -/
noncomputable def fMaxT : List Dv → Sto → Rs Dv
  | [.tup (x :: xs)], G => if (∀ y ∈ xs, y = x) ∧ (∃ ns : List Int, x = .tup (ns.map Dv.int)) then some (x, G) else none
  | _, _ => none
def rMaxT (K : PySem.W.Frag) : List V → Hp → VK → Prop := fun xs H Q => ∃ (a : Addr) (y : V) (ys : List V) (ns : List Int), xs = [.ref a] ∧ SqT K H a (y :: ys) ∧ (∀ z ∈ y :: ys, ∃ t, z = .ref t ∧ SqT K H t (ns.map V.int)) ∧ Q y H
theorem lex_flat (r : Nat → Bool) : ∀ (k i : Nat), Ob.lexAt (fun _ => true) r false i k = false
  | 0, _ => rfl
  | k + 1, i => by rw [Ob.lexAt_succ, if_pos rfl]; exact lex_flat r k (i + 1)
/-- > of two tuples with the same whole numbers: false (the library's order of tuples, item by item) -/
theorem same_gt {prog : Program} {w : World} {A : Around} {s : Shared} {t t' : Addr} {xs xs' : Array Value} {ns : List Int} {Q E : Value → Shared → Prop} (p : s.heap.IsTuple t xs) (p' : s.heap.IsTuple t' xs') (z : IntsAre xs.toList ns) (z' : IntsAre xs'.toList ns) (hu : A.units < cLine) (q : Q (.bool false) s) :
    wpAny (model prog w) A (richCompare .Gt (.ref t) (.ref t')) Q E s := by
  have l : xs.size = ns.length := by rw [← z.length, Array.length_toList]
  have l' : xs'.size = ns.length := by rw [← z'.length, Array.length_toList]
  have c := Ob.RcOp.tuples_gt (A := A) (s := s) (e := fun _ => true) (r := fun _ => false) p p' hu (fun j h1 h2 => by
    obtain ⟨t1, e1⟩ := PyProof.Rows.IntsAre.int_at z j xs[j] (by simp [Array.getElem?_eq_getElem h1])
    obtain ⟨t2, e2⟩ := PyProof.Rows.IntsAre.int_at z' j xs'[j] (by simp [Array.getElem?_eq_getElem h2])
    rw [e1, e2]
    have both : (ns.getD j 0 == ns.getD j 0) = true := beq_self_eq_true _
    rw [← both]
    exact SeqAt.EqAt.int_int _ _ _ _) (fun j h1 h2 no => nomatch no)
  rw [l, l', show decide (ns.length > ns.length) = false from decide_eq_false (Nat.lt_irrefl _), lex_flat] at c
  exact c _ _ _ _ q
theorem first_best : ∀ k, argBest (fun _ _ => false) k = 0
  | 0 => rfl
  | k + 1 => by rw [argBest]; exact first_best k
theorem cr_maxT {X : Cx} {k : Nat} (hc : X.calm = true) (hr : Room k X.A) : CallR X (.builtin "max") (rMaxT X.K) := by
  rintro pins s σ H _ us Q I r ⟨a, y, ys, ns, rfl, ha, hall, q⟩
  rw [Vals.ref1 r]
  obtain ⟨its, items, there, _⟩ := I.tuple ha
  have one : ∀ {u : Value}, u ∈ its → ∃ t xs, u = .ref t ∧ s.heap.IsTuple t xs ∧ IntsAre xs.toList ns := fun {u} hu => by
    obtain ⟨i, hi, ei⟩ := List.mem_iff_getElem.mp hu
    have hi' : i < (y :: ys).length := items.length ▸ hi
    obtain ⟨t, et, ht⟩ := hall _ (List.getElem_mem hi')
    obtain ⟨v, ev, rv⟩ := items.get (List.getElem?_eq_getElem hi')
    rw [List.getElem?_eq_getElem hi, ei] at ev
    cases ev
    rw [et] at rv
    obtain ⟨xs, nums, tup, _⟩ := I.tuple ht
    exact ⟨t, _, rv, tup, by simpa using (show IntsAre xs ns from Vals.ints nums)⟩
  have units : X.A.in1.units < cLine := by have := hr.un; show X.A.units + 1 < _; omega
  have flat : CmpIn X.prog X.w X.A.in1 .Gt s.heap (fun i v => its.toArray[i]? = some v) (fun _ _ => false) := fun i j u v s' Q' E' kp hu hv q' => by
    obtain ⟨t, xs, rfl, p, z⟩ := one (by simpa using Array.mem_of_getElem? hu)
    obtain ⟨t', xs', rfl, p', z'⟩ := one (by simpa using Array.mem_of_getElem? hv)
    exact same_gt (p.at fun o e => kp _ o e) (p'.at fun o e => kp _ o e) z z' units q'
  refine call_max_walkH (PySem.W.iter_tupleW (A := X.A.in1) (I.ok.hd hc) there fun s2 e W st low nw kp => ⟨_, _, _, _, _, _, _, s.heap, fun _ _ => false, rfl, W, st, low, ?_, nw, kp, flat, fun v s' pv m => ?_⟩)
  · rw [List.size_toArray, ← items.length]
    exact Nat.zero_lt_succ _
  · obtain ⟨h', tk, es, keep⟩ := PySem.W.moved_old e rfl m
    rw [first_best] at pv
    obtain ⟨u, eu, ru⟩ := items.get (i := 0) rfl
    rw [item_at eu pv, es]
    exact ⟨y, H, I.kept keep, ru, q⟩
theorem ints_dr {K : PySem.W.Frag} {ρ : Rh} {H : Hp} : ∀ {ns : List Int} {vs : List V}, DRs K ρ H (ns.map Dv.int) vs → vs = ns.map V.int
  | [], _, h => by cases h; rfl
  | n :: ns, _, h => by
    rw [List.map_cons] at h
    cases h with
    | cons a b => cases a; rw [List.map_cons, ints_dr b]
theorem f_maxT {X : Cx} {kx : Kx} : Bok X kx fMaxT (rMaxT X.K) := by
  intro xs G d G' ρ H vs Q e rl ds k
  unfold fMaxT at e
  split at e
  · rename_i x xs
    split at e
    · rename_i hz
      obtain ⟨hz, ns, ex⟩ := hz
      cases e
      subst ex
      cases ds with
      | cons a b =>
        cases b
        cases a with
        | tup h r =>
          cases r with
          | @cons _ _ v vs r1 r2 =>
            refine ⟨_, v, vs, ns, rfl, h, fun z hzm => ?_, k v ρ H Gr.refl rl r1⟩
            have one : ∀ {z : V}, DR X.K ρ H (.tup (ns.map Dv.int)) z → ∃ t, z = .ref t ∧ SqT X.K H t (ns.map V.int) := fun {z} q => by
              cases q with
              | tup h2 q2 => rw [ints_dr q2] at h2; exact ⟨_, rfl, h2⟩
            rcases List.mem_cons.mp hzm with rfl | hzm
            · exact one r1
            · obtain ⟨i, hi, ei⟩ := List.mem_iff_getElem.mp hzm
              have hl : i < xs.length := by rw [r2.len]; exact hi
              obtain ⟨w, hw, dw⟩ := r2.get (List.getElem?_eq_getElem hl)
              rw [List.getElem?_eq_getElem hi, ei] at hw
              cases hw
              rw [hz _ (List.getElem_mem hl)] at dw
              exact one dw
    · cases e
  · cases e
theorem fok1 {K : PySem.W.Frag} {kx : Kx} {c : Nat} {f : String} (h1 : Cls K (kx.ca c)) (h2 : NoAttr K (kx.ca c) (Str.ofString f)) : Fok K kx [c] f := fun d hd => by
  obtain rfl : d = c := by simpa using hd
  exact ⟨h1, h2⟩
theorem kit_own {K : PySem.W.Frag} {C : Addr} : PySem.W.kitOne K (.ref C) (.ref C) = some true := if_pos (beq_self_eq_true _)
end Ms

/-! PyZip: zip of a list and a tuple. -/
namespace Ms
open PySem L2 PyProof.Rows
open Mi (Dv MO Sto Sl Rs bnd ME MT MA MS MF Fl MG MGs MI)
/-- the pairs of the list at a and the tuple at b, as these stand at each turn -/
def Itm (K : PySem.W.Frag) (a b : Addr) : It :=
  ItW (fun i H => ∃ (xs ys : List V) (x y : V), SqL K H a xs ∧ SqT K H b ys ∧ xs[i]? = some x ∧ ys[i]? = some y)
    (fun i H vs => ∃ x y, vs = [x, y] ∧ (∀ xs, SqL K H a xs → xs[i]? = some x) ∧ ∀ ys, SqT K H b ys → ys[i]? = some y)
    (fun i H => ∃ xs ys : List V, SqL K H a xs ∧ SqT K H b ys ∧ (xs.length = i ∧ i ≤ ys.length ∨ ys.length = i ∧ i ≤ xs.length))
/-- the five cells of such a zip -/
def Zst (z TI TO i1 i2 a b : Addr) (i : Nat) (h : Heap) : Prop := (IsZip h z TI TO .none ∧ IsTupOf2 h TI (.ref i1) (.ref i2) ∧ ∃ x y, IsTupOf2 h TO x y) ∧ h.IsListIter i1 a i ∧ h.IsTupleIter i2 b i
theorem Zst.walk {P : Program} {w : World} {A : Around} {a b z TI TO i1 i2 : Addr} {i : Nat} {h : Heap} {its jts : Array Value} (no : A.in1.handled = none) (D : ZipSep2 z TI TO i1 i2 [i1, a] [i2, b]) (na : a ≠ i1) (nb : b ≠ i2) (st : Zst z TI TO i1 i2 a b i h) (p1 : h.IsList a its) (p2 : h.IsTuple b jts) :
    AtW P w A z [z, TI, TO, i1, i2] (Zst z TI TO i1 i2 a b) h i (min its.size jts.size) fun i vals => ∃ x1 x2, its[i]? = some x1 ∧ jts[i]? = some x2 ∧ vals = #[x1, x2] :=
  ⟨_, _, _, _, WalksT.zipD2 D (Draws.list no i1 a na its) (Draws.tuple no i2 b nb jts), fun c hc => by simp only [List.mem_cons, List.not_mem_nil, or_false] at hc ⊢; rcases hc with q | q | q | q <;> simp [q],
    ⟨st.1.1, st.1.2.1, st.1.2.2, ⟨st.2.1, p1⟩, ⟨st.2.2, p2⟩⟩, fun j h' z => ⟨⟨z.1, z.2.1, z.2.2.1⟩, z.2.2.2.1.1, z.2.2.2.2.1⟩⟩
theorem Zst.plain {z TI TO i1 i2 a b : Addr} (i : Nat) (h : Heap) (st : Zst z TI TO i1 i2 a b i h) (c : Addr) (hc : c ∈ [z, TI, TO, i1, i2]) : ∃ o, h.get? c = some o ∧ ∀ v, o.data ≠ .cell v := by
  obtain ⟨⟨cz, cT, _, _, cO⟩, ⟨o1, g1, _, d1⟩, o2, g2, _, d2⟩ := st
  have nf : ∀ {o : Obj} {fs : Array Value}, o.data = .fields fs → ∀ v, o.data ≠ .cell v := fun e v q => by rw [e] at q; cases q
  simp only [List.mem_cons, List.not_mem_nil, or_false] at hc
  rcases hc with q | q | q | q | q <;> subst q
  · exact ⟨_, cz, nf rfl⟩
  · exact ⟨_, cT, fun v q => nomatch q⟩
  · exact ⟨_, cO, fun v q => nomatch q⟩
  · exact ⟨o1, g1, nf d1⟩
  · exact ⟨o2, g2, nf d2⟩
theorem Zst.stay {z TI TO i1 i2 a b : Addr} (i : Nat) (h h' : Heap) (st : Zst z TI TO i1 i2 a b i h) (k : ∀ c ∈ [z, TI, TO, i1, i2], ∀ o, h.get? c = some o → h'.get? c = some o) : Zst z TI TO i1 i2 a b i h' := by
  simp only [List.forall_mem_cons] at k
  obtain ⟨kz, kT, kO, k1, k2, _⟩ := k
  obtain ⟨⟨cz, cT, x, y, cO⟩, it1, it2⟩ := st
  exact ⟨⟨kz _ cz, kT _ cT, x, y, kO _ cO⟩, it1.at k1, it2.at k2⟩
theorem turn_zipM {P : Program} {w : World} {K : PySem.W.Frag} {elts : List Expr} {kk : Nat} {tpos : Pos} {a b z TI TO i1 i2 : Addr} (D : ZipSep2 z TI TO i1 i2 [i1, a] [i2, b]) (na : a ≠ i1) (nb : b ≠ i2) :
    Turn P w K (.Tuple elts kk tpos) (Itm K a b) [z, TI, TO, i1, i2] z (Zst z TI TO i1 i2 a b) := by
  refine turn_of_walks (List.mem_cons_self ..) Zst.plain Zst.stay (fun _ _ _ _ _ st q => wpAny_pyIter_zip st.1.1 q) ?_ ?_
  · rintro X rfl rfl rfl no i pins σ H s I st ⟨xs, ys, x, y, qx, qy, hx, hy⟩
    obtain ⟨its, rx, px, _⟩ := I.list qx
    obtain ⟨jts, ry, py, _⟩ := I.tuple qy
    obtain ⟨u, eu, ru⟩ := rx.get hx
    obtain ⟨v, ev, rv⟩ := ry.get hy
    have lx := (List.getElem?_eq_some_iff.mp eu).1
    have ly := (List.getElem?_eq_some_iff.mp ev).1
    refine ⟨_, _, Zst.walk no D na nb st px.isList py, ?_, ?_⟩
    · rw [List.size_toArray, List.size_toArray, Nat.lt_min]
      exact ⟨lx, ly⟩
    · rintro vals ⟨x1, x2, e1, e2, rfl⟩
      rw [item_at eu e1, item_at ev e2]
      exact ⟨[x, y], ⟨x, y, rfl, fun l q => I.list_inj q qx ▸ hx, fun l q => I.tuple_inj q qy ▸ hy⟩, two_line, .cons ru (.cons rv .nil)⟩
  · rintro X rfl rfl rfl no i pins σ H s I st ⟨xs, ys, qx, qy, fin⟩
    obtain ⟨its, rx, px, _⟩ := I.list qx
    obtain ⟨jts, ry, py, _⟩ := I.tuple qy
    have W := Zst.walk (P := X.prog) (w := X.w) (A := X.A) no D na nb st px.isList py
    have e : min its.toArray.size jts.toArray.size = i := by
      rw [List.size_toArray, List.size_toArray, ← rx.length, ← ry.length]
      rcases fin with ⟨q, l⟩ | ⟨q, l⟩
      · rw [← q] at l ⊢; exact Nat.min_eq_left l
      · rw [← q] at l ⊢; exact Nat.min_eq_right l
    rw [e] at W
    exact ⟨_, W⟩
def iZipM (K : PySem.W.Frag) (ta : TA) : TI := fun σ H R => ta σ H fun vs H1 => ∃ a b xs ys, vs = [.ref a, .ref b] ∧ SqL K H1 a xs ∧ SqT K H1 b ys ∧ R (Itm K a b) H1
/-- zip of these two, just called -/
theorem zip_new {X : Cx} {tg : List Expr × Nat × Pos} {pins : List (Addr × Obj)} {σ : L2.St} {H : Hp} {s : Shared} {R : It → Hp → Prop} {a b : Addr} {xs ys : List V} {E : Value → Shared → Prop} (I : Inv X pins σ H s) (qx : SqL X.K H a xs) (qy : SqT X.K H b ys) (r : R (Itm X.K a b) H) :
    wpAny (model X.prog X.w) X.A (call (.type "zip") [.ref a, .ref b]) (fun v s1 => wpAny (model X.prog X.w) X.A (pyIter v) (PIE X pins σ (.Tuple tg.1 tg.2.1 tg.2.2) R) E s1) E s := by
  obtain ⟨its, _, px, _⟩ := I.list qx
  obtain ⟨jts, _, py, _⟩ := I.tuple qy
  have la : a < s.heap.objs.size := px.lt
  have lb : b < s.heap.objs.size := Heap.lt_size py.choose_spec.1
  have D := zip_sep2 (N := s.heap.objs.size) (fp1 := [a]) (fp2 := [b]) (by simpa using la) (by simpa using lb)
  refine zip_begins2 (begins_list a its.toArray) (begins_tuple b jts.toArray) px.isList py fun h' hz hT hO g1 g2 sz kp => wpAny_pyIter_zip hz ?_
  refine ⟨_, _, _, _, H, rfl, I.kept (t' := s.toks) kp, turn_zipM D (Nat.ne_of_lt la) (Nat.ne_of_lt (Nat.lt_succ_of_lt lb)), ⟨⟨hz, hT, _, _, hO⟩, ⟨_, g1, rfl, rfl⟩, ⟨_, g2, rfl, rfl⟩⟩, fresh_ch I ?_, r⟩
  simp only [List.forall_mem_cons, List.not_mem_nil, false_implies, implies_true, and_true]
  exact ⟨Nat.le_add_right _ 4, Nat.le_add_right _ 2, Nat.le_add_right _ 3, Nat.le_refl _, Nat.le_add_right _ 1⟩
theorem pi_zipM {X : Cx} {e e2 : Expr} {ta : TA} {p pos tpos : Pos} {elts : List Expr} {kk : Nat} (hg : Gl X "zip") (hm : X.mg "zip" = none) (ha : PA X [e, e2] ta)
    (hs : Es X e [e2] := by rfl) (hpl : Np X pos [e2] := by rfl) : PI X (.Tuple elts kk tpos) (.Call (.Name "zip" p) [e, e2] [] pos) (iZipM X.K ta) :=
  ⟨fun pins s σ H R I h => Call_ (ld_blt I hg hm PyProof.Rows.boot_zip (PyProof.Rows.callWith_type1 (thn (ha.run pos pins s σ H _ I h) fun us s1 ⟨vs, H1, I1, r1, a, b, xs, ys, ev, qx, qy, q⟩ => by
    subst ev
    obtain ⟨u, v, rfl, ru, rv⟩ := vals2 r1
    cases ru
    cases rv
    exact zip_new (tg := ⟨elts, kk, tpos⟩) I1 qx qy q) hs hpl))⟩
end Ms

/-! PyTm: tuple * 1, tuple * 0. -/
namespace Ms
open PySem PySem.Spec L2 PyProof.Rows
theorem mul_one (l : Addr) (items : Array Value) (n : Nat) (dd : Option Addr) (sl : Array (Option Value)) (u : Tok) (hne : items.isEmpty = false) :
    Meets (Builtin.«tuple.__mul__» ⟨[.ref l, .int 1 u], []⟩) (fun _ R s => s.heap.get? l = some { cls := .type "tuple", dict := dd, data := .seq items n, slots := sl } ∧ R (.ok (.ret (Value.ref l))) s) :=
  .of_wp fun prog w A R st both => by
    have ⟨hl, h⟩ := both
    have whole := AutoSeq1.idx_int
    cases st
    (wp_walk using wpAny_loadPart' hl)
    exact ⟨_, rfl, h⟩
theorem mul_zero (l : Addr) (items : Array Value) (n : Nat) (dd : Option Addr) (sl : Array (Option Value)) (u : Tok) (hne : items.isEmpty = false) :
    Meets (Builtin.«tuple.__mul__» ⟨[.ref l, .int 0 u], []⟩) (fun _ R s => s.heap.get? l = some { cls := .type "tuple", dict := dd, data := .seq items n, slots := sl } ∧ R (.ok (.ret (Value.ref s.heap.objs.size))) { s with heap := s.heap.push { cls := Value.type "tuple", data := Data.seq #[] } }) :=
  .of_wp fun prog w A R st both => by
    have ⟨hl, h⟩ := both
    have whole := AutoSeq1.idx_int
    cases st
    (wp_walk using wpAny_loadPart' hl)
    exact ⟨_, rfl, h⟩
def rRep01 (K : PySem.W.Frag) : R2 := fun x y H Q => ∃ l k xs, x = .ref l ∧ y = .int k ∧ SqT K H l xs ∧ xs ≠ [] ∧ ((k = 1 ∧ Q (.ref l) H) ∨ (k = 0 ∧ ∀ p, H p = none → Q (.ref p) (upd H p (.tup []))))
theorem op_rep01 {X : Cx} : OpR X (binaryOp .Mult) (rRep01 X.K) := by
  rintro pins s σ H x y v u Q I rx ry ⟨l, k, xs, rfl, rfl, hT, hne, q⟩
  obtain rfl : v = .ref l := rx
  have ⟨t, et⟩ := ry
  subst et
  have ⟨its, r, at_l, _⟩ := I.tuple hT
  obtain ⟨o, ho, hc, n, hd⟩ := at_l
  obtain ⟨cls, dd, data, sl⟩ := o
  obtain rfl : cls = .type "tuple" := hc
  obtain rfl : data = .seq its.toArray n := hd
  have nz : its ≠ [] := fun e => hne (by
    have := r.length
    rw [e] at this
    exact List.eq_nil_of_length_eq_zero this)
  have he : its.toArray.isEmpty = false := by
    cases its with
    | nil => exact absurd rfl nz
    | cons a b => rfl
  rcases q with ⟨rfl, q⟩ | ⟨rfl, q⟩
  · exact wpAny_binaryOp_repeat_ref (T := "tuple") (U := "int") (by decide) ⟨_, ho, rfl⟩ (fun s' => typeIs_int s' _ t) noFill_tuple_mul F.fills_int_mul F.slot_int_rmul repeat_tuple F.slot_int_index.lookup
      (call_meets F.slot_int_rmul (typeIs_int s _ t) F.entry_int_rmul (F.args_int_rmul_2 _ _) (int_rmul_tuple _ t l its.toArray n dd sl)
        ⟨ho, rfl, ⟨_, ho, rfl⟩, call_meets F.slot_tuple_mul ⟨_, ho, rfl⟩ F.entry_tuple_mul (F.args_tuple_mul_2 _ _) (mul_one l its.toArray n dd sl t he) ⟨ho, .ref l, H, I, rfl, q⟩⟩)
  · exact wpAny_binaryOp_repeat_ref (T := "tuple") (U := "int") (by decide) ⟨_, ho, rfl⟩ (fun s' => typeIs_int s' _ t) noFill_tuple_mul F.fills_int_mul F.slot_int_rmul repeat_tuple F.slot_int_index.lookup
      (call_meets F.slot_int_rmul (typeIs_int s _ t) F.entry_int_rmul (F.args_int_rmul_2 _ _) (int_rmul_tuple _ t l its.toArray n dd sl)
        ⟨ho, rfl, ⟨_, ho, rfl⟩, call_meets F.slot_tuple_mul ⟨_, ho, rfl⟩ F.entry_tuple_mul (F.args_tuple_mul_2 _ _) (mul_zero l its.toArray n dd sl t he) ⟨ho, .ref s.heap.objs.size, _, I.laid (t' := s.toks) (o := .tup []) (fun b ob q => Heap.get?_push_of_some _ q) (Nat.le_refl _) ⟨Nat.zero_le _, [], .nil, IsTup.new _ _⟩, rfl, q _ (I.hok.fresh (Nat.le_refl _))⟩⟩)
open Mi (Dv MO Sto Sl Rs bnd ME MT MA MS MF Fl MG MGs MI)
/-- a tuple, any number of times -/
def bMulT : Mi.B2 := fun x y G => match x, y with
  | .tup a, .int k => if a ≠ [] ∧ k = 1 then some (.tup a, G) else if a ≠ [] ∧ k = 0 then some (.tup [], G) else Mi.bMul false (.tup a) (.int k) G
  | _, _ => none
def rMulT (K : PySem.W.Frag) : R2 := fun x y H Q => rRep01 K x y H Q ∨ rMuls K x y H Q
theorem op_mulT {X : Cx} : OpR X (binaryOp .Mult) (rMulT X.K) := OpR.or op_rep01 op_muls
theorem b_mulT {X : Cx} {kx : Kx} : B2ok X kx bMulT (rMulT X.K) := by
  intro x y G d G' ρ H v w Q e rl dx dy k
  unfold bMulT at e
  split at e
  · rename_i a n
    split at e
    · rename_i hz
      cases e
      cases dx with
      | tup h r =>
        cases dy
        refine .inl ⟨_, _, _, rfl, rfl, h, fun z => hz.1 ?_, .inl ⟨hz.2, k _ ρ H Gr.refl rl (.tup h r)⟩⟩
        subst z
        cases r
        rfl
    · split at e
      · rename_i hz
        cases e
        cases dx with
        | tup h r =>
          cases dy
          refine .inl ⟨_, _, _, rfl, rfl, h, fun z => hz.1 ?_, .inr ⟨hz.2, fun p hp => ?_⟩⟩
          · subst z
            cases r
            rfl
          · obtain ⟨g, r'⟩ := rl.side (.tup []) hp
            exact k _ ρ _ g r' (.tup (SqT.of upd_same) .nil)
      · exact .inr (b_mul false _ _ _ _ _ _ _ _ _ _ e rl dx dy k)
  · cases e
/-- repr(a) == z, z a written text: known where it is so -/
noncomputable def mReprIs (neg : Bool) (z : String) (a : ME) : ME := open Classical in fun δ G => bnd (a δ G) fun x G1 => if ∃ d, Mi.pyT G1 x = some d ∧ Mi.okR d ∧ d.shown = Str.ofString z then some (.bl (!neg), G1) else none
section
variable {X : Cx} {kx : Kx} {e a b c o : Expr} {ma mb mc me mo : ME} {pos p apos : Pos} {rest es : List Expr} {mas mks : MA}
theorem reprIs {neg : Bool} {z : String} {r : R2} (hr : ∀ (z : Str) H (Q : VK), Q (.bl (!neg)) H → r (.str z) (.str z) H Q) {σ : L2.St} {H : Hp} {Q : VK} (h : tM X.K kx (mReprIs neg z ma) σ H Q) : tOp r (tCB (rRepr X.K) (tCons (tM X.K kx ma) tNil)) (tC (.str (Str.ofString z))) σ H Q := by
  obtain ⟨ρ, G, δ, d, G', rl, sr, e, k⟩ := h
  obtain ⟨x, G1, e1, e⟩ := Mi.bnd_eq e
  split at e
  · rename_i hz
    obtain ⟨pd, p1, p2, p3⟩ := hz
    cases e
    refine ⟨ρ, G, δ, x, _, rl, sr, e1, fun v ρ1 H1 g1 r1 d1 => ⟨v, pd, rfl, pyT_dp r1 p1 d1, p2, ?_⟩⟩
    rw [p3]
    exact hr _ _ _ (k _ ρ1 H1 g1 r1 (.bl _))
  · cases e
theorem m_reprIs {z : String} {j} {p1 p2 q1 : Pos} (hG : X.A.guards = some []) (hu : X.A.units + 64 < cLine) (hm : X.mg "repr" = none) (ha : PE X a (tM X.K kx ma)) (hg : Gl X "repr" := by rfl) (he : starEach [a] X.env = (false, eval a X.env) :: starEach [] X.env := by rfl) (hp1 : (backTo q1 (starEach [] X.env)).any (·.1) = false := by rfl) :
    PE X (.Compare (.Call (.Name "repr" p1) [a] [] q1) [.Eq] [.Constant (.str (Str.ofString z)) j p2] pos) (tM X.K kx (mReprIs false z ma)) := (pe_cmpR op_eq (pe_repr hG hu hm ha hg he hp1) pe_str (nomark _)).imp fun _ _ _ h => reprIs r_eq h
theorem m_reprIsT {z : String} {j} {p1 p2 q1 : Pos} (hG : X.A.guards = some []) (hu : X.A.units + 64 < cLine) (hm : X.mg "repr" = none) (ha : PE X a (tM X.K kx ma)) (hg : Gl X "repr" := by rfl) (he : starEach [a] X.env = (false, eval a X.env) :: starEach [] X.env := by rfl) (hp1 : (backTo q1 (starEach [] X.env)).any (·.1) = false := by rfl) :
    PT X (.Compare (.Call (.Name "repr" p1) [a] [] q1) [.Eq] [.Constant (.str (Str.ofString z)) j p2] pos) (tMT X.K kx (Mi.mTb (mReprIs false z ma))) := (pt_cmpR op_eq (pe_repr hG hu hm ha hg he hp1) pe_str (nomark _)).imp fun _ _ _ h => tTb (fun _ h => reprIs r_eq h) h
theorem m_reprNot {z : String} {j} {p1 p2 q1 : Pos} (hG : X.A.guards = some []) (hu : X.A.units + 64 < cLine) (hm : X.mg "repr" = none) (ha : PE X a (tM X.K kx ma)) (hg : Gl X "repr" := by rfl) (he : starEach [a] X.env = (false, eval a X.env) :: starEach [] X.env := by rfl) (hp1 : (backTo q1 (starEach [] X.env)).any (·.1) = false := by rfl) :
    PE X (.Compare (.Call (.Name "repr" p1) [a] [] q1) [.NotEq] [.Constant (.str (Str.ofString z)) j p2] pos) (tM X.K kx (mReprIs true z ma)) := (pe_cmpR op_ne (pe_repr hG hu hm ha hg he hp1) pe_str (nomark _)).imp fun _ _ _ h => reprIs r_ne h
theorem m_reprNotT {z : String} {j} {p1 p2 q1 : Pos} (hG : X.A.guards = some []) (hu : X.A.units + 64 < cLine) (hm : X.mg "repr" = none) (ha : PE X a (tM X.K kx ma)) (hg : Gl X "repr" := by rfl) (he : starEach [a] X.env = (false, eval a X.env) :: starEach [] X.env := by rfl) (hp1 : (backTo q1 (starEach [] X.env)).any (·.1) = false := by rfl) :
    PT X (.Compare (.Call (.Name "repr" p1) [a] [] q1) [.NotEq] [.Constant (.str (Str.ofString z)) j p2] pos) (tMT X.K kx (Mi.mTb (mReprIs true z ma))) := (pt_cmpR op_ne (pe_repr hG hu hm ha hg he hp1) pe_str (nomark _)).imp fun _ _ _ h => tTb (fun _ h => reprIs r_ne h) h
end
end Ms

/-! PyMk: a class made by keywords alone. -/
namespace Ms
open PySem L2 PyProof.Rows
open Mi (Dv MO Sto Sl Rs bnd ME MT MA MS MF Fl MG MGs MI)
/-- C(k = v, ..) -/
def mMakeK (c : Nat) (f : MF) (ix : List Nat) (kw : MA) : ME := fun δ G => bnd (kw δ G) fun ys G1 => bnd (f (ix.map fun i => (Dv.ref G1.length :: ys).getD i .non) (G1 ++ [.ins c []])) fun r G2 => match r with
  | .non => some (.ref G1.length, G2)
  | _ => none
section
variable {X : Cx} {kx : Kx} {e a b c o : Expr} {pos p apos : Pos} {mks : MA} {k cn : Nat} {st : Stmt} {ps : List Str} {mf : MF} {x qual : Str}
theorem m_mkK {kws : List Keyword} {ks : List Str} {ix : List Nat} (c : Mak X.prog X.w X.K kx X.mg X.base k cn x qual st ps mf) (hG : X.A.guards = some []) (hr : Room (k + 1) X.A) (hb : Bk "__init__" qual st ps ks 1 ix) (hl : Len mks ks.length) (hkw : PK X kws (tMA X.K kx mks)) (hg : Gl X x := by rfl)
    (hall : Ka X pos kws := by rfl) (hks : Ks X pos kws ks := by rfl) (hdb : (x == ("__debug__" : Str)) = false := by decide)
    (hpl : ((backTo pos (starEach [] X.env)).any (·.1) || (backToKw pos (keywordEach kws X.env)).any (·.1.isNone)) = false := by rfl) : PE X (.Call (.Name x p) [] kws pos) (tM X.K kx (mMakeK cn mf ix mks)) := ⟨fun pins s σ H Q I h => by
  obtain ⟨f, fd, F, M, G0, hm, _⟩ := c.ex
  have hkb := F.kbm hb
  obtain ⟨ρ, G, δ, d, G', rl, sr, e0, q⟩ := h
  obtain ⟨ds, G1, e1, e2⟩ := Mi.bnd_eq e0
  obtain ⟨rv, G2, e3, e4⟩ := Mi.bnd_eq e2
  refine called_by I hg hm hdb ?_
  refine PySem.W.callWith_KW0 (h₀ := X.base) I.ok.mod.kin M.kp hall (thn (hkw.run pos pins s σ H (fun vs H1 => ∃ ρ1, Gr ρ H ρ1 H1 ∧ Rl X.K kx ρ1 G1 H1 ∧ DRs X.K ρ1 H1 ds vs) I ⟨ρ, G, δ, ds, G1, rl, sr, e1, fun vs ρ1 H1 g r d => ⟨ρ1, g, r, d⟩⟩) fun us s1 ⟨vs, H1, I1, r, ρ1, g1, r1, d1⟩ => ⟨I1.kIn, ?_⟩) hpl
  rw [hks]
  have n1 : H1 s1.heap.objs.size = none := I1.hok.fresh (Nat.le_refl _)
  have n2 : H1 (s1.heap.objs.size + 1) = none := I1.hok.fresh (Nat.le_succ _)
  have ne : s1.heap.objs.size + 1 ≠ s1.heap.objs.size := Nat.succ_ne_self _
  obtain ⟨ga, ra⟩ := r1.side (.own (s1.heap.objs.size + 1)) n1
  obtain ⟨gb, rb⟩ := ra.grow (p := s1.heap.objs.size + 1) (o := .ins (kx.ca cn) s1.heap.objs.size []) (m := .ins cn []) (by rw [upd_ne ne]; exact n2) fun g => .ins upd_same .nil
  have I2 := Inv.made (C := kx.ca cn) I1
  have dd : DRs X.K (ρ1.snoc (s1.heap.objs.size + 1)) _ (.ref G1.length :: ds) (V.ref (s1.heap.objs.size + 1) :: vs) := .cons (.ref (by rw [← r1.len, List.getElem?_append_right (Nat.le_refl _)]; simp)) (d1.gr (ga.trans gb))
  have rr : Vals (V.ref (s1.heap.objs.size + 1) :: vs) (Value.ref (s1.heap.objs.size + 1) :: us) := .cons rfl r
  have hlen : us.length = ks.length := by rw [← r.length, ← d1.len]; exact hl _ _ _ _ e1
  have hb' := fun sh => hkb sh [Value.ref (s1.heap.objs.size + 1)] us rfl hlen
  refine wpAny_call (make_map (f := f) I1.kIn M.makes M.init (beq_iff_eq.mp M.fn) (codeAny_mono (G0.run _ X.stack _ _ ⟨[Value.ref (s1.heap.objs.size + 1)], ks.zip us⟩ (pickU ix (Value.ref (s1.heap.objs.size + 1) :: us)) _ (fun v H2 => v = .non ∧ Q (.ref (s1.heap.objs.size + 1)) H2) _ _ _ _ _ (guards_make hG) (hr.make (kx.ca cn) [] (ks.zip us)) (I2.env0.make (kx.ca cn) [] (ks.zip us)) (hb' _) (pick_vals rr ix) rb (pick_dr dd ix) e3 fun v ρ' H' g r qd => ?_) fun res s' hq => ?_))
  · split at e4
    · cases e4
      cases qd
      refine ⟨rfl, q _ ρ' H' (((g1.trans ga).trans gb).trans g) r (.ref ?_)⟩
      exact ref_gr (K := X.K) g (show (ρ1.snoc (s1.heap.objs.size + 1)).r[G1.length]? = some (s1.heap.objs.size + 1) by rw [← r1.len, List.getElem?_append_right (Nat.le_refl _)]; simp)
    · cases e4
  · obtain ⟨u, h1, h2⟩ := after_run I2 hq
    subst h1
    obtain ⟨v, H', I3, rv', ez, q3⟩ := h2
    subst ez
    exact ⟨rv', V.ref (s1.heap.objs.size + 1), H', I3, rfl, q3⟩⟩
end
end Ms

/-! PyS9: zip of a list and a tuple, in the mirror. -/
namespace Ms
open PySem L2
open Mi (Dv MO Sto Sl Rs bnd ME MT MA MS MF Fl MG MGs MI)
def mZip (a b : ME) : MI := fun δ G => bnd (a δ G) fun x G1 => bnd (b δ G1) fun y G2 => match Mi.lstOf G2 x, y with
  | some xs, .tup ys => some ((List.zipWith (fun p q => .tup [p, q]) xs ys, fun G' => Mi.lstOf G' x = some xs), G2)
  | _, _ => none
theorem zw_get : ∀ (xs ys : List Dv) (i : Nat) (d : Dv), (List.zipWith (fun p q => Dv.tup [p, q]) xs ys)[i]? = some d → ∃ p q, xs[i]? = some p ∧ ys[i]? = some q ∧ d = .tup [p, q]
  | [], _, i, d, h => by simp at h
  | _ :: _, [], i, d, h => by simp at h
  | x :: xs, y :: ys, 0, d, h => by
    simp at h
    exact ⟨x, y, rfl, rfl, h.symm⟩
  | x :: xs, y :: ys, i + 1, d, h => by
    simp at h
    exact zw_get xs ys i d (by simpa using h)
theorem i_zip {X : Cx} {kx : Kx} {a b : Expr} {ma mb : ME} {elts : List Expr} {kk : Nat} {tpos p pos : Pos} (hm : X.mg "zip" = none) (ha : PE X a (tM X.K kx ma)) (hb : PE X b (tM X.K kx mb)) (hg : Gl X "zip" := by rfl)
    (hs : Es X a [b] := by rfl) (hs2 : Es X b [] := by rfl) (hpl : Np X pos [b] := by rfl) :
    PI X (.Tuple elts kk tpos) (.Call (.Name "zip" p) [a, b] [] pos) (tI X.K kx (mZip ma mb)) :=
  (pi_zipM hg hm (pa_cons ha (pa_cons hb pa_nil hs2) hs) hs hpl).imp fun σ H R ⟨ρ, G, δ, ds, st, G', rl, sr, e, k⟩ => by
  obtain ⟨x, G1, e1, e⟩ := Mi.bnd_eq e
  obtain ⟨y, G2, e2, e⟩ := Mi.bnd_eq e
  refine ⟨ρ, G, δ, x, G1, rl, sr, e1, fun v ρ1 H1 g1 r1 d1 => ⟨ρ1, G1, δ, y, G2, r1, sr.gr g1, e2, fun w ρ2 H2 g2 r2 d2 => ?_⟩⟩
  split at e
  · rename_i y xs ys el
    cases e
    obtain ⟨ad, vs, ev, h, r⟩ := lstOf_at r2 el (d1.gr g2)
    subst ev
    cases d2 with
    | @tup bd ws _ hT rT =>
      refine ⟨ad, bd, vs, ws, rfl, h, hT, k _ ρ2 H2 (g1.trans g2) r2 ?_⟩
      have dx := d1.gr g2
      have rx : ∀ ρ G H, Gw ρ2 H2 ρ H → Rl X.K kx ρ G H → Mi.lstOf G x = some xs → ∃ vs, SqL X.K H ad vs ∧ DRs X.K ρ H xs vs := fun ρ G H g r s => by
        obtain ⟨a, vs, e, h, q⟩ := lstOf_at r s (dx.gw g)
        cases e
        exact ⟨vs, h, q⟩
      refine ⟨fun ρ G H g r s => ?_, fun i ρ G H g r s hi => ?_, fun i d ρ G H z H' g r s hd hy => ?_⟩
      · obtain ⟨vs, h, dr⟩ := rx ρ G H g r s
        refine ⟨vs, ws, h, SqT.gw g hT, ?_⟩
        rw [List.length_zipWith, dr.len, rT.len]
        omega
      · obtain ⟨vs, h, dr⟩ := rx ρ G H g r s
        rw [List.length_zipWith, dr.len, rT.len] at hi
        have i1 : i < vs.length := by omega
        have i2 : i < ws.length := by omega
        exact ⟨vs, ws, vs[i], ws[i], h, SqT.gw g hT, List.getElem?_eq_getElem i1, List.getElem?_eq_getElem i2⟩
      · obtain ⟨T, us, ev, hN, eH, u1, u2, eu, f1, f2⟩ := hy
        subst eu ev eH
        obtain ⟨vs, h, dr⟩ := rx ρ G H g r s
        obtain ⟨p1, q1, hp, hq, rfl⟩ := zw_get xs ys i d hd
        obtain ⟨v1, hv1, dv1⟩ := dr.get hp
        obtain ⟨v2, hv2, dv2⟩ := (rT.gw g).get hq
        have t1 := f1 vs h
        rw [hv1] at t1
        cases t1
        have t2 := f2 ws (SqT.gw g hT)
        rw [hv2] at t2
        cases t2
        obtain ⟨g3, r3⟩ := r.side (.tup [u1, u2]) hN
        exact ⟨g3, r3, .tup (SqT.of upd_same) (.cons (dv1.gr g3) (.cons (dv2.gr g3) .nil))⟩
  · cases e
end Ms

/-! PyX: three names at once; max of a list; extend by a tuple. -/
namespace Ms
open PySem PySem.Spec L2 PyProof.Rows
open Mi (Dv MO Sto Sl Rs bnd ME MT MA MS MF Fl MG MGs MI)
/-! ### a, b, c = x, y, z -/
def mPar3 (i j l : Nat) (a : MA) : MS := fun δ G => match a δ G with
  | some ([x, y, z], G1) => some (.nx, ((δ.set i (some x)).set j (some y)).set l (some z), G1)
  | _ => none
section
variable {X : Cx} {kx : Kx} {e a b c o : Expr} {ma mb mc me mo : ME} {mas : MA} {pos p apos : Pos} {x y z : Str}
theorem s_par3 (i j l : Nat) {px py pz pt pt2 : Pos} {kt k2} (hc : X.calm = true) (hN : X.N.Nodup) (ha : PA X [a, b, c] (tMA X.K kx mas)) (hi : X.N[i]? = some x := by rfl) (hj : X.N[j]? = some y := by rfl) (hl : X.N[l]? = some z := by rfl) (hij : i ≠ j := by decide) (hil : i ≠ l := by decide) (hjl : j ≠ l := by decide)
    (hx : X.env.scope.names.lookup x = some .local := by rfl) (hy : X.env.scope.names.lookup y = some .local := by rfl) (hz : X.env.scope.names.lookup z = some .local := by rfl)
    (hw : swappedStores [.Tuple [.Name x px, .Name y py, .Name z pz] kt pt] (.Tuple [a, b, c] k2 pt2) X.env = pure (some [x, y, z]) := by rfl) (hs : swapsWithSole [.Tuple [.Name x px, .Name y py, .Name z pz] kt pt] (.Tuple [a, b, c] k2 pt2) pos.line X.env = pure false := by rfl) :
    PS X (.Assign [.Tuple [.Name x px, .Name y py, .Name z pz] kt pt] (.Tuple [a, b, c] k2 pt2) pos) (sM X.K kx (mPar3 i j l mas)) :=
  (ps_par3 hc hN hi hj hl hij hil hjl hx hy hz ha hw hs).imp fun D σ H ⟨ρ, G, δ, f, δ', G', rl, sr, e, k⟩ => by
  unfold mPar3 at e
  split at e
  · rename_i u v w G1 e1
    cases e
    refine ⟨ρ, G, δ, _, _, rl, sr, e1, fun vs ρ1 H1 g1 r1 d1 => ?_⟩
    cases d1 with
    | cons p q =>
      cases q with
      | cons q t =>
        cases t with
        | cons t t2 =>
          cases t2
          exact ⟨_, _, _, rfl, k ρ1 _ H1 g1 r1 ((((sr.gr g1).set i p).set j q).set l t)⟩
  · cases e
/-! ### max of a list of whole numbers -/
def fMaxL : List Dv → Sto → Rs Dv
  | [x], G => match Mi.lstOf G x with
    | some xs => match Mi.intsOf xs with
      | some (n :: ns) => some (.int (ns.foldl max n), G)
      | _ => none
    | none => none
  | _, _ => none
theorem foldl_max_le : ∀ (ns : List Int) (n : Int), n ≤ ns.foldl max n ∧ ∀ y ∈ ns, y ≤ ns.foldl max n
  | [], n => ⟨Int.le_refl _, fun y hy => nomatch hy⟩
  | m :: ns, n => by
    obtain ⟨a, b⟩ := foldl_max_le ns (max n m)
    refine ⟨?_, fun y hy => ?_⟩
    · show n ≤ ns.foldl max (max n m)
      omega
    · have q : y = m ∨ y ∈ ns := by simpa using hy
      cases q with
      | inl q => rw [q]; show m ≤ ns.foldl max (max n m); omega
      | inr q => exact b y q
theorem foldl_max_mem : ∀ (ns : List Int) (n : Int), ns.foldl max n ∈ n :: ns
  | [], n => List.mem_cons_self ..
  | m :: ns, n => by
    have q := foldl_max_mem ns (max n m)
    show ns.foldl max (max n m) ∈ n :: m :: ns
    rcases List.mem_cons.mp q with q | q
    · rw [q]
      by_cases h : n ≤ m
      · rw [Int.max_eq_right h]; simp
      · rw [Int.max_eq_left (by omega)]; simp
    · exact List.mem_cons_of_mem _ (List.mem_cons_of_mem _ q)
theorem f_maxL : Bok X kx fMaxL (rMax X.K) := by
  intro xs G d G' ρ H vs Q e rl ds k
  unfold fMaxL at e
  split at e
  · rename_i x
    split at e
    · rename_i zs el
      split at e
      · rename_i n ns ei
        cases e
        cases ds with
        | cons a b =>
          cases b
          obtain ⟨ad, ws, ev, h, r⟩ := lstOf_at rl el a
          subst ev
          have ew := ints_of ei r
          subst ew
          refine ⟨ad, n :: ns, rfl, h, by simp, fun m hm hall => ?_⟩
          obtain ⟨a1, a2⟩ := foldl_max_le ns n
          have mm : m = ns.foldl max n := by
            have h1 := hall _ (foldl_max_mem ns n)
            have h2 : m ≤ ns.foldl max n := by
              have q : m = n ∨ m ∈ ns := by simpa using hm
              exact q.elim (fun e => e ▸ a1) (a2 m)
            omega
          rw [mm]
          exact k _ ρ H Gr.refl rl (.int _)
      · cases e
    · cases e
  · cases e
/-! ### xs.extend(t) -/
theorem ext_tup (l : Addr) (items : Array Value) (n : Nat) (b : Addr) (jtems : Array Value) (n2 : Nat) (dd : Option Addr) (sl : Array (Option Value)) (h0 : ¬(!items.isEmpty && Builtin.List.listTooLong (items.size + jtems.size)) = true) (h1 : items.size ≤ sizeLine) (h2 : items.size + jtems.size ≤ sizeLine + 1) :
    Meets (Builtin.«list.extend» ⟨[.ref l, .ref b], []⟩) (fun _ R s => s.heap.get? l = some { cls := .type "list", dict := none, data := .seq items n, slots := #[] } ∧ s.heap.get? b = some { cls := .type "tuple", dict := dd, data := .seq jtems n2, slots := sl } ∧
      R (.ok (.ret Value.none)) { s with heap := s.heap.update l (Obj.mapSeq fun x => x ++ jtems), toks := s.toks }) :=
  .of_wp fun prog w A R st hyp => by
    have ⟨hl, hb, h⟩ := hyp
    cases st
    have f1 := AutoSeq1.idx_int
    have f2 := (AutoSeq1.sub_tuple_tuple)
    have f3 := (AutoSeq1.sub_list_list)
    have f4 := AutoSeq1.sub_tuple_list
    have f5 := AutoSeq1.sub_list_tuple
    have hz' : (items ++ jtems).size ≤ sizeLine + 1 := by rw [Array.size_append]; exact h2
    (wp_walk using (wpAny_updateSeq hl rfl (hz := h1) (_hz' := hz')), wpAny_loadPart' hl, wpAny_loadPart' hb)
    exact ⟨_, rfl, h⟩
def rExtT (K : PySem.W.Frag) : V → List V → Hp → VK → Prop := fun x vs H Q => ∃ l b xs zs, x = .ref l ∧ vs = [.ref b] ∧ H l = some (.lst xs) ∧ SqT K H b zs ∧ xs.length + zs.length ≤ sizeLine ∧ Q .non (upd H l (.lst (xs ++ zs)))
/-- the list at l, a tuple at b behind it -/
theorem ext_go {pins : List (Addr × Obj)} {σ : L2.St} {H : Hp} {s : Shared} {Q : VK} {l b : Addr} {xs zs : List V} (I : Inv X pins σ H s) (hH : H l = some (.lst xs)) (hB : SqT X.K H b zs) (hz : xs.length + zs.length ≤ sizeLine) (q : Q .non (upd H l (.lst (xs ++ zs)))) :
    wpAny (model X.prog X.w) X.A (call (.builtin "list.extend") [.ref l, .ref b]) (EP X pins σ Q) X.xe s := by
  have ⟨_, its, _, mine, _, there⟩ := I.lstM hH
  have ⟨jts, more, at_b, _⟩ := I.tuple hB
  obtain ⟨⟨cls, dd, data, sl⟩, ho, hc, n2, hd⟩ := at_b
  obtain rfl : cls = .type "tuple" := hc
  obtain rfl : data = .seq jts.toArray n2 := hd
  have fits : its.toArray.size + jts.toArray.size ≤ sizeLine := by simp only [List.size_toArray, ← mine.length, ← more.length]; exact hz
  have short : ¬ (!its.toArray.isEmpty && Builtin.List.listTooLong (its.toArray.size + jts.toArray.size)) = true := fun z => by
    have too := (Bool.and_eq_true_iff.mp z).2
    rw [notLongL fits] at too
    cases too
  have laid : Inv X pins σ (upd H l (.lst (xs ++ zs))) { s with heap := s.heap.update l (Obj.mapSeq fun x => x ++ jts.toArray), toks := s.toks } :=
    I.lset (its' := its ++ jts) hH there (by simp) (mine.append more) (by rw [List.length_append]; exact hz)
  exact call_meets PySem.F.slot_list_extend ⟨_, there, rfl⟩ PySem.F.entry_list_extend (PySem.F.args_list_extend_2 _ _) (ext_tup l its.toArray _ b jts.toArray n2 dd sl short (by omega) (by omega)) ⟨there, ho, .non, _, laid, rfl, q⟩
theorem mt_extT : MtM X "list.extend" (rExtT X.K) := by
  rintro pins s σ H x vs v us Q I rx rv ⟨l, b, xs, zs, rfl, rfl, hH, hB, hz, q⟩
  obtain rfl : v = .ref l := rx
  rw [Vals.ref1 rv]
  exact ext_go I hH hB hz q
def mExtend (o a : ME) : ME := fun δ G => bnd (o δ G) fun x G1 => bnd (a δ G1) fun y G2 => match x, y with
  | .ref h, .tup zs => match G1[h]?, G2[h]? with
    | some (.lst _), some (.lst xs) => if xs.length + zs.length ≤ Mi.big then some (.non, G2.set h (.lst (xs ++ zs))) else none
    | _, _ => none
  | _, _ => none
theorem m_extend (ho : PE X o (tM X.K kx mo)) (ha : PE X a (tM X.K kx ma)) (hbase : attributeBase o "extend" X.env (eval o X.env) = eval o X.env := by rfl)
    (hfew : ((backTo pos (starEach [a] X.env)).all (fun x => !x.1) && (backToKw pos (keywordEach [] X.env)).all (fun x => x.1.isSome) && decide (([a] : List Expr).length + ([] : List Keyword).length + (if ([] : List Keyword).isEmpty then 0 else 1) < 30)) = true := by rfl)
    (hline : (apos.endLine == pos.line) = true := by rfl) (hs : starEach [a] X.env = (false, eval a X.env) :: starEach [] X.env := by rfl) (hplain : (backTo pos (starEach [] X.env)).any (·.1) = false := by rfl) :
    PE X (.Call (.Attribute o "extend" apos) [a] [] pos) (tM X.K kx (mExtend mo ma)) :=
  (pe_bm PySem.F.plainAttrs_list PySem.F.slot_list_extend PySem.F.type_list_extend mt_extT ho (pa_cons ha pa_nil hs) hbase hfew hline hs hplain).imp fun σ H Q ⟨ρ, G, δ, d, G', rl, sr, e, k⟩ => by
  obtain ⟨x, G1, e1, e⟩ := Mi.bnd_eq e
  obtain ⟨y, G2, e2, e⟩ := Mi.bnd_eq e
  refine ⟨ρ, G, δ, x, G1, rl, sr, e1, fun v ρ1 H1 g1 r1 d1 => ?_⟩
  split at e
  · rename_i h zs _
    split at e
    · rename_i z xs eh1 eh2
      split at e
      · rename_i hz
        cases e
        cases d1 with
        | @ref _ ad ea =>
          obtain ⟨vs1, h1, _⟩ := lst_at r1 eh1 ea
          refine ⟨.inl ⟨rfl, _, SqL.of h1⟩, ρ1, G1, δ, _, G2, r1, sr.gr g1, e2, fun w ρ2 H2 g2 r2 d2 => ?_⟩
          obtain ⟨vs, h2, rv⟩ := lst_at r2 eh2 (ref_gr (K := X.K) g2 ea)
          cases d2 with
          | @tup bd us zs hT rT =>
            refine ⟨ad, bd, vs, us, rfl, rfl, h2, hT, by rw [← rv.len, ← rT.len, ← big_line]; exact hz, ?_⟩
            obtain ⟨g3, r3⟩ := r2.wr (o := .lst (vs ++ us)) (m := .lst (xs ++ zs)) (ref_gr (K := X.K) g2 ea) fun g => .lst upd_same ((rv.app rT).gr g)
            exact k .non _ _ ((g1.trans g2).trans g3) r3 .non
      · cases e
    · cases e
  · cases e
end
end Ms

/-! PyC2: a comprehension with two fors. -/
namespace Ms
open PySem PySem.Spec L2 PyProof.Rows
open Mi (Dv MO Sto Sl Rs bnd ME MT MA MS MF Fl MG MGs MI)
open Classical in
noncomputable def mLc2Loop (g : MG) (t : MT) (it1 : MI) (g1 : MG) (t1 : MT) (e : ME) (vs1 : List Nat) (st : Sto → Prop) (δ : Sl) : List Dv → List Dv → Sto → Rs (List Dv)
  | [], acc, G => if st G then some (acc, G) else none
  | d :: ds, acc, G => if st G then match g d δ G with
      | some (δ1, G1) => match t δ1 G1 with
        | some (true, G2) => match it1 δ1 G2 with
          | some ((ds1, st1), G3) => match Mi.mLcLoop g1 t1 e st1 (Mi.wipe δ1 vs1) ds1 acc G3 with
            | some (acc', G4) => mLc2Loop g t it1 g1 t1 e vs1 st δ ds acc' G4
            | none => none
          | none => none
        | some (false, G2) => mLc2Loop g t it1 g1 t1 e vs1 st δ ds acc G2
        | none => none
      | none => none
    else none
/-- [e for g in it if t for g1 in it1 if t1] -/
noncomputable def mLc2 (m : Bool) (it : MI) (g : MG) (t : MT) (it1 : MI) (g1 : MG) (t1 : MT) (e : ME) (vs vs1 : List Nat) : ME := fun δ G => bnd (it δ G) fun p G1 => bnd (mLc2Loop g t it1 g1 t1 e vs1 p.2 (Mi.wipe δ vs) p.1 [] G1) fun xs G2 => some (Mi.mkL m xs G2)
theorem gr_lift {r r' xs : List Addr} {D : Addr} {Ha Hb : Hp} (hr : D ∉ r) (hu : ∃ us, Ha D = some (.lst us)) (gg : Gr ⟨r, D :: xs⟩ Ha ⟨r', D :: xs⟩ Hb) : Gr ⟨r, D :: xs⟩ (upd Ha D (.lst [])) ⟨r', D :: xs⟩ (upd Hb D (.lst [])) := by
  obtain ⟨us, hu⟩ := hu
  refine ⟨gg.pre, fun z hz => ?_, fun z o ho hz ht => ?_, fun z xs ho => ?_, fun z o u ho => ?_, fun z φ ho => ?_⟩
  · rcases gg.new z hz with q | q
    · exact .inl q
    · exact .inr (nf_upd q (nf_ne q hu fun _ w => nomatch w))
  · by_cases hzD : z = D
    · subst hzD
      rw [upd_same] at ho ⊢
      exact ho
    · rw [upd_ne hzD] at ho ⊢
      exact gg.kp z o ho hz ht
  · have hzD : z ≠ D := fun w => by rw [w, upd_same] at ho; cases ho
    rw [upd_ne hzD] at ho ⊢
    exact gg.tu z xs ho
  · have hzD : z ≠ D := fun w => by rw [w, upd_same] at ho; cases ho
    rw [upd_ne hzD] at ho ⊢
    exact gg.fz z o u ho
  · have hzD : z ≠ D := fun w => by rw [w, upd_same] at ho; cases ho
    rw [upd_ne hzD] at ho ⊢
    exact gg.ex z φ ho
section
variable {X : Cx} {kx : Kx} {mt mt1 : MT} {me : ME} {mi mi1 : MI} {g g1 : MG} {ws ws1 vs vs1 : List Nat}
theorem keepD2 {r r' xs : List Addr} {D : Addr} {Ha Hb : Hp} {us : List V} (hr : D ∉ r) (hu : Ha D = some (.lst us)) (gg : Gr ⟨r, D :: xs⟩ Ha ⟨r', D :: xs⟩ Hb) : Hb D = some (.lst us) := gg.kp D _ hu hr fun _ z => nomatch z
theorem lc2_inner (hw : ∀ i ∈ ws1, i ∈ vs1) {D : Addr} {xs r1 : List Addr} {H1 : Hp} {G1 : Sto} {δ : Sl} {σ : L2.St} {ds : List Dv} {st : Sto → Prop} {acc0 zs : List Dv} {av0 : List V} {Gz : Sto} {J : It}
    (y : Yl X.K kx ⟨r1, D :: xs⟩ H1 J ds st) (rl : Rl X.K kx ⟨r1, D :: xs⟩ G1 H1) (sr : Sr X.K ⟨r1, D :: xs⟩ H1 δ σ) (hD : H1 D = some (.lst av0)) (da0 : DRs X.K ⟨r1, D :: xs⟩ H1 acc0 av0)
    (e2 : Mi.mLcLoop g1 mt1 me st (Mi.wipe δ vs1) ds acc0 G1 = some (zs, Gz)) {Nx : Hp → Prop}
    (fin : ∀ r5 H5 av, Gr ⟨r1, D :: xs⟩ (upd H1 D (.lst [])) ⟨r5, D :: xs⟩ (upd H5 D (.lst [])) → Gw ⟨r1, D :: xs⟩ H1 ⟨r5, D :: xs⟩ H5 → Rl X.K kx ⟨r5, D :: xs⟩ Gz H5 → H5 D = some (.lst av) → DRs X.K ⟨r5, D :: xs⟩ H5 zs av → Nx H5) :
    ∃ W1 : Nat → Nat → Hp → Prop, (∃ m, W1 0 m H1) ∧ ∀ j k H, W1 j k H → (J.stop j H ∧ Nx H) ∨ (J.go j H ∧ ∃ Nx1 : Hp → Prop, (∀ H', Nx1 H' → ∃ k', k' < k ∧ W1 (j + 1) k' H') ∧ ∀ x H', J.yld j H x H' →
      tG X.K kx ws1 g1 x (L2.wipe σ vs1) H' fun σ3 H5 => L2.wipe σ3 vs1 = L2.wipe σ vs1 ∧ tMT X.K kx mt1 σ3 H5 fun b H6 => if b = true then tM X.K kx me σ3 H6 fun y H7 => ∃ acc, H7 D = some (.lst acc) ∧ acc.length < sizeLine ∧ Nx1 (upd H7 D (.lst (acc ++ [y]))) else Nx1 H6) := by
  refine ⟨fun i n H2 => n = ds.length - i ∧ i ≤ ds.length ∧ ∃ (r2 : List Addr) (G2 : Sto) (acc : List Dv) (av : List V), Gr ⟨r1, D :: xs⟩ (upd H1 D (.lst [])) ⟨r2, D :: xs⟩ (upd H2 D (.lst [])) ∧ Gw ⟨r1, D :: xs⟩ H1 ⟨r2, D :: xs⟩ H2 ∧ Rl X.K kx ⟨r2, D :: xs⟩ G2 H2 ∧ H2 D = some (.lst av) ∧ DRs X.K ⟨r2, D :: xs⟩ H2 acc av ∧
    Mi.mLcLoop g1 mt1 me st (Mi.wipe δ vs1) (ds.drop i) acc G2 = some (zs, Gz), ⟨ds.length, by simp, Nat.zero_le _, r1, G1, acc0, av0, Gr.refl, Gw.refl, rl, hD, da0, by simpa using e2⟩, ?_⟩
  rintro i n H2 ⟨rfl, hi, r2, G2, acc, av, g2, w2, q2, hD2, da, el⟩
  have sr2 : Sr X.K ⟨r2, D :: xs⟩ H2 δ σ := sr.gw w2
  by_cases hlt : i < ds.length
  · have ed : ds.drop i = ds[i] :: ds.drop (i + 1) := List.drop_eq_getElem_cons hlt
    rw [ed] at el
    unfold Mi.mLcLoop at el
    split at el
    · rename_i hst
      obtain ⟨hst, hacc⟩ := hst
      split at el
      · rename_i δ3 G3 eg
        refine .inr ⟨y.go i _ G2 H2 w2 q2 hst hlt, fun H' => ∃ n', n' < ds.length - i ∧ (n' = ds.length - (i + 1) ∧ i + 1 ≤ ds.length ∧ ∃ (r2 : List Addr) (G2 : Sto) (acc : List Dv) (av : List V), Gr ⟨r1, D :: xs⟩ (upd H1 D (.lst [])) ⟨r2, D :: xs⟩ (upd H' D (.lst [])) ∧ Gw ⟨r1, D :: xs⟩ H1 ⟨r2, D :: xs⟩ H' ∧ Rl X.K kx ⟨r2, D :: xs⟩ G2 H' ∧ H' D = some (.lst av) ∧ DRs X.K ⟨r2, D :: xs⟩ H' acc av ∧
          Mi.mLcLoop g1 mt1 me st (Mi.wipe δ vs1) (ds.drop (i + 1)) acc G2 = some (zs, Gz)), fun _ h => h, fun x H' hy => ?_⟩
        obtain ⟨gy, ry, dy⟩ := y.yld i ds[i] _ G2 H2 x H' w2 q2 hst (List.getElem?_eq_getElem hlt) hy
        have hDr : D ∉ r2 := (q2.xt D (List.mem_cons_self ..)).2
        refine ⟨_, G2, Mi.wipe δ vs1, ds[i], δ3, G3, ry, (sr2.gr gy).wipe vs1, dy, eg, fun ρ3 σ3 H3 g3 r3 s3 l3 n3 => ⟨?_, ?_⟩⟩
        · refine wipe_eq (by rw [l3, L2.wipe_length]) (fun j hj => n3 j fun z => hj (hw j z)) (L2.wipe_length σ vs1)
        obtain ⟨r3', x3⟩ := ρ3
        obtain rfl : x3 = D :: xs := g3.pre.2
        have gA := gy.trans g3
        split at el
        · rename_i G4 et
          refine ⟨_, G3, δ3, true, G4, r3, s3, et, fun ρ4 H4 g4 r4 => ?_⟩
          dsimp only
          rw [if_pos rfl]
          obtain ⟨r4', x4⟩ := ρ4
          obtain rfl : x4 = D :: xs := g4.pre.2
          split at el
          · rename_i yv G5 ey
            refine ⟨_, G4, δ3, yv, G5, r4, s3.gr g4, ey, fun v ρ5 H5 g5 r5 d5 => ?_⟩
            obtain ⟨r5', x5⟩ := ρ5
            obtain rfl : x5 = D :: xs := g5.pre.2
            have gB := (gA.trans g4).trans g5
            have hD5 := keepD2 hDr hD2 gB
            refine ⟨av, hD5, by rw [← (da.len), ← big_line]; exact hacc, _, by omega, rfl, hlt, r5', G5, acc ++ [yv], av ++ [v], ?_⟩
            obtain ⟨gm, rm⟩ := r5.more (av ++ [v]) (List.mem_cons_self ..) hD5
            refine ⟨?_, (w2.trans gB.w).trans gm, rm, upd_same, ((da.gr gB).gw gm).app (.cons (d5.gw gm) .nil), el⟩
            rw [upd_upd]
            exact g2.trans (gr_lift hDr ⟨av, hD2⟩ gB)
          · cases el
        · rename_i G4 et
          refine ⟨_, G3, δ3, false, G4, r3, s3, et, fun ρ4 H4 g4 r4 => ?_⟩
          dsimp only
          rw [if_neg (fun z => Bool.false_ne_true z)]
          obtain ⟨r4', x4⟩ := ρ4
          obtain rfl : x4 = D :: xs := g4.pre.2
          have gB := gA.trans g4
          exact ⟨_, by omega, rfl, hlt, r4', G4, acc, av, g2.trans (gr_lift hDr ⟨av, hD2⟩ gB), w2.trans gB.w, r4, keepD2 hDr hD2 gB, da.gr gB, el⟩
        · cases el
      · cases el
    · cases el
  · have ed : ds.drop i = [] := List.drop_eq_nil_of_le (by omega)
    rw [ed] at el
    unfold Mi.mLcLoop at el
    split at el
    · rename_i hst
      cases el
      have hi' : i = ds.length := by omega
      subst hi'
      exact .inl ⟨y.stop _ _ H2 w2 q2 hst, fin r2 H2 av g2 w2 q2 hD2 da⟩
    · cases el
theorem lc2_go {m : Bool} {σ : L2.St} {H : Hp} {Q : VK} (hw : ∀ i ∈ ws, i ∈ vs) (hw1 : ∀ i ∈ ws1, i ∈ vs1) (h : tM X.K kx (mLc2 m mi g mt mi1 g1 mt1 me vs vs1) σ H Q) :
    tLc2 (tI X.K kx mi) (tG X.K kx ws g) (tMT X.K kx mt) (tI X.K kx mi1) (tG X.K kx ws1 g1) (tMT X.K kx mt1) (tM X.K kx me) vs vs1 σ H Q := by
  obtain ⟨ρ, G, δ, d, G', rl, sr, e, k⟩ := h
  obtain ⟨⟨ds, st⟩, G1, e1, e⟩ := Mi.bnd_eq e
  obtain ⟨zs, Gz, e2, e⟩ := Mi.bnd_eq e
  dsimp only at e2 e
  refine ⟨ρ, G, δ, ds, st, G1, rl, sr, e1, fun J ρ1 H1 g1' r1 y D hD => ?_⟩
  obtain ⟨gf, rf⟩ := r1.fill [] hD
  have nD : D ∉ ρ1.x := (r1.free hD).2
  refine ⟨fun i n H2 => n = ds.length - i ∧ i ≤ ds.length ∧ ∃ (r2 : List Addr) (G2 : Sto) (acc : List Dv) (av : List V), Gr ⟨ρ1.r, D :: ρ1.x⟩ (upd H1 D (.lst [])) ⟨r2, D :: ρ1.x⟩ (upd H2 D (.lst [])) ∧ Gw ⟨ρ1.r, D :: ρ1.x⟩ (upd H1 D (.lst [])) ⟨r2, D :: ρ1.x⟩ H2 ∧ Rl X.K kx ⟨r2, D :: ρ1.x⟩ G2 H2 ∧ H2 D = some (.lst av) ∧ DRs X.K ⟨r2, D :: ρ1.x⟩ H2 acc av ∧
    mLc2Loop g mt mi1 g1 mt1 me vs1 st (Mi.wipe δ vs) (ds.drop i) acc G2 = some (zs, Gz), ⟨ds.length, by simp, Nat.zero_le _, ρ1.r, G1, [], [], by rw [upd_upd]; exact Gr.refl, Gw.refl, rf, upd_same, .nil, by simpa using e2⟩, ?_⟩
  rintro i n H2 ⟨rfl, hi, r2, G2, acc, av, g2, w2, q2, hD2, da, el⟩
  have sr2 : Sr X.K ⟨r2, D :: ρ1.x⟩ H2 δ σ := ((sr.gr g1').gw gf).gw w2
  by_cases hlt : i < ds.length
  · have ed : ds.drop i = ds[i] :: ds.drop (i + 1) := List.drop_eq_getElem_cons hlt
    rw [ed] at el
    unfold mLc2Loop at el
    split at el
    · rename_i hst
      split at el
      · rename_i δ3 G3 eg
        refine .inr ⟨y.go i _ G2 H2 (gf.trans w2) q2 hst hlt, fun H' => ∃ n', n' < ds.length - i ∧ (n' = ds.length - (i + 1) ∧ i + 1 ≤ ds.length ∧ ∃ (r2 : List Addr) (G2 : Sto) (acc : List Dv) (av : List V), Gr ⟨ρ1.r, D :: ρ1.x⟩ (upd H1 D (.lst [])) ⟨r2, D :: ρ1.x⟩ (upd H' D (.lst [])) ∧ Gw ⟨ρ1.r, D :: ρ1.x⟩ (upd H1 D (.lst [])) ⟨r2, D :: ρ1.x⟩ H' ∧ Rl X.K kx ⟨r2, D :: ρ1.x⟩ G2 H' ∧ H' D = some (.lst av) ∧ DRs X.K ⟨r2, D :: ρ1.x⟩ H' acc av ∧
          mLc2Loop g mt mi1 g1 mt1 me vs1 st (Mi.wipe δ vs) (ds.drop (i + 1)) acc G2 = some (zs, Gz)), fun _ h => h, fun x H' hy => ?_⟩
        obtain ⟨gy, ry, dy⟩ := y.yld i ds[i] _ G2 H2 x H' (gf.trans w2) q2 hst (List.getElem?_eq_getElem hlt) hy
        have hDr : D ∉ r2 := (q2.xt D (List.mem_cons_self ..)).2
        refine ⟨_, G2, Mi.wipe δ vs, ds[i], δ3, G3, ry, (sr2.gr gy).wipe vs, dy, eg, fun ρ3 σ3 H3 g3 r3 s3 l3 n3 => ⟨?_, ?_⟩⟩
        · refine wipe_eq (by rw [l3, L2.wipe_length]) (fun j hj => n3 j fun z => hj (hw j z)) (L2.wipe_length σ vs)
        obtain ⟨r3', x3⟩ := ρ3
        obtain rfl : x3 = D :: ρ1.x := g3.pre.2
        have gA := gy.trans g3
        split at el
        · rename_i G4 et
          refine ⟨_, G3, δ3, true, G4, r3, s3, et, fun ρ4 H4 g4 r4 => ?_⟩
          dsimp only
          rw [if_pos rfl]
          obtain ⟨r4', x4⟩ := ρ4
          obtain rfl : x4 = D :: ρ1.x := g4.pre.2
          split at el
          · rename_i ds1 st1 G5 ey
            refine ⟨_, G4, δ3, ds1, st1, G5, r4, s3.gr g4, ey, fun J1 ρ5 H5 g5 r5 y1 => ?_⟩
            obtain ⟨r5', x5⟩ := ρ5
            obtain rfl : x5 = D :: ρ1.x := g5.pre.2
            have gB := (gA.trans g4).trans g5
            have hD5 := keepD2 hDr hD2 gB
            split at el
            · rename_i acc' G6 ei
              exact lc2_inner hw1 y1 r5 ((s3.gr g4).gr g5) hD5 (da.gr gB) ei fun r6 H6 av6 ga gb rc hD6 da6 => ⟨_, by omega, rfl, hlt, r6, G6, acc', av6, (g2.trans (gr_lift hDr ⟨av, hD2⟩ gB)).trans ga, (w2.trans gB.w).trans gb, rc, hD6, da6, el⟩
            · cases el
          · cases el
        · rename_i G4 et
          refine ⟨_, G3, δ3, false, G4, r3, s3, et, fun ρ4 H4 g4 r4 => ?_⟩
          dsimp only
          rw [if_neg (fun z => Bool.false_ne_true z)]
          obtain ⟨r4', x4⟩ := ρ4
          obtain rfl : x4 = D :: ρ1.x := g4.pre.2
          have gB := gA.trans g4
          exact ⟨_, by omega, rfl, hlt, r4', G4, acc, av, g2.trans (gr_lift hDr ⟨av, hD2⟩ gB), w2.trans gB.w, r4, keepD2 hDr hD2 gB, da.gr gB, el⟩
        · cases el
      · cases el
    · cases el
  · have ed : ds.drop i = [] := List.drop_eq_nil_of_le (by omega)
    rw [ed] at el
    unfold mLc2Loop at el
    split at el
    · rename_i hst
      cases el
      have hi' : i = ds.length := by omega
      subst hi'
      refine .inl ⟨y.stop _ _ H2 (gf.trans w2) q2 hst, ?_⟩
      have hDr : D ∉ r2 := (q2.xt D (List.mem_cons_self ..)).2
      have e' := Option.some.inj e
      -- the growth from ahead of the list
      have base : ∀ r' : List Addr, (∃ t, r' = ρ1.r ++ t) → (∀ z ∈ r', z ∈ r2 ∨ z = D) → Gr ρ1 H1 ⟨r', ρ1.x⟩ H2 := fun r' hp hs => by
        refine ⟨⟨hp, rfl⟩, fun z hz => ?_, fun z o ho hz ht => ?_, fun z xs ho => ?_, fun z o u ho => ?_, fun z φ ho => ?_⟩
        · rcases hs z hz with q | q
          · rcases g2.new z q with w | w
            · exact .inl w
            · by_cases hzD : z = D
              · rw [hzD]; exact .inr (nf_none hD)
              · exact .inr (nf_of w hzD)
          · rw [q]; exact .inr (nf_none hD)
        · have hzD : z ≠ D := ne_of_none ho hD
          have := g2.kp z o (by rw [upd_ne hzD]; exact ho) hz ht
          rw [upd_ne hzD] at this
          exact this
        · have hzD : z ≠ D := ne_of_none ho hD
          have := g2.tu z xs (by rw [upd_ne hzD]; exact ho)
          rw [upd_ne hzD] at this
          exact this
        · have hzD : z ≠ D := ne_of_none ho hD
          have := g2.fz z o u (by rw [upd_ne hzD]; exact ho)
          rw [upd_ne hzD] at this
          exact this
        · have hzD : z ≠ D := ne_of_none ho hD
          have := g2.ex z φ (by rw [upd_ne hzD]; exact ho)
          rw [upd_ne hzD] at this
          exact this
      obtain ⟨t2, ht2⟩ := g2.pre.1
      have ht2' : r2 = ρ1.r ++ t2 := ht2
      cases m with
      | false =>
        obtain ⟨gw, rw'⟩ := q2.full
        cases e'
        exact k _ ⟨r2, ρ1.x⟩ H2 (g1'.trans (base r2 ⟨t2, ht2'⟩ fun z hz => .inl hz)) rw' (.fls hD2 ⟨hDr, nD⟩ (da.gw gw))
      | true =>
        obtain ⟨gw, rw'⟩ := q2.fullM nD hD2 da
        cases e'
        refine k _ ⟨r2 ++ [D], ρ1.x⟩ H2 (g1'.trans (base (r2 ++ [D]) ⟨t2 ++ [D], by rw [ht2']; simp⟩ fun z hz => ?_)) rw' (.ref ?_)
        · rcases List.mem_append.mp hz with q | q
          · exact .inl q
          · exact .inr (by simpa using q)
        · show (r2 ++ [D])[Gz.length]? = some D
          have hl : r2.length = Gz.length := q2.len
          rw [← hl, List.getElem?_append_right (Nat.le_refl _)]
          simp
    · cases el
theorem m_lc2 (m : Bool) {elt it tg it1 tg1 : Expr} {ifs ifs1 : List Expr} {scope : Scope} {own : List (Str × Nat)} {pos : Pos} (hc : X.calm = true) (hN : X.N.Nodup) (hi : PI X tg it (tI X.K kx mi)) (ok : BlkOk X.N X.env.scope scope own) (hw : ∀ i ∈ ws, i ∈ own.map (·.2)) (hw1 : ∀ i ∈ ws1, i ∈ vs1) (hv : ∀ i ∈ vs1, i ∈ own.map (·.2))
    (hg : ∀ (s : Shared) (H : Hp) (C : Addr) (cl : List (Str × Addr)) (fp : List Addr), PG (X.blk s H scope (compEnvC scope cl C X.env) fp) tg (tG X.K kx ws g)) (ht : ∀ (s : Shared) (H : Hp) (C : Addr) (cl : List (Str × Addr)) (fp : List Addr), PTs (X.blk s H scope (compEnvC scope cl C X.env) fp) ifs (tMT X.K kx mt))
    (hi1 : ∀ (s : Shared) (H : Hp) (C : Addr) (cl : List (Str × Addr)) (fp : List Addr), PI (X.blk s H scope (compEnvC scope cl C X.env) fp) tg1 it1 (tI X.K kx mi1))
    (hg1 : ∀ (s : Shared) (H : Hp) (C : Addr) (cl : List (Str × Addr)) (fp : List Addr), PG (X.blk s H scope (compEnvC scope cl C X.env) fp) tg1 (tG X.K kx ws1 g1)) (ht1 : ∀ (s : Shared) (H : Hp) (C : Addr) (cl : List (Str × Addr)) (fp : List Addr), PTs (X.blk s H scope (compEnvC scope cl C X.env) fp) ifs1 (tMT X.K kx mt1))
    (he : ∀ (s : Shared) (H : Hp) (C : Addr) (cl : List (Str × Addr)) (fp : List Addr), PE (X.blk s H scope (compEnvC scope cl C X.env) fp) elt (tM X.K kx me)) (hfs : ∀ x, foldedSetIterable it X.env x = pure x := by intro _; rfl) (hfs1 : ∀ env x, foldedSetIterable it1 env x = pure x := by intro _ _; rfl) :
    PE X (.ListComp elt [⟨tg, it, ifs, 0⟩, ⟨tg1, it1, ifs1, 0⟩] scope pos) (tM X.K kx (mLc2 m mi g mt mi1 g1 mt1 me (own.map (·.2)) vs1)) :=
  (pe_lc2 hc hN hi ok hv hg ht hi1 hg1 ht1 he (hs := hfs) (hs1 := hfs1)).imp fun σ H Q h => lc2_go hw hw1 h
theorem s_setLc2 (i : Nat) (m : Bool) {y : Str} {py spos : Pos} {elt it tg it1 tg1 : Expr} {ifs ifs1 : List Expr} {scope : Scope} {own : List (Str × Nat)} {pos : Pos} (hc : X.calm = true) (hN : X.N.Nodup) (hy : X.N[i]? = some y) (hyl : X.env.scope.names.lookup y = some .local) (hsw : swapsWith (.ListComp elt [⟨tg, it, ifs, 0⟩, ⟨tg1, it1, ifs1, 0⟩] scope pos) (some (.Name y py)) spos.line X.env = pure true)
    (hi : PI X tg it (tI X.K kx mi)) (ok : BlkOk X.N X.env.scope scope own) (hw : ∀ i ∈ ws, i ∈ own.map (·.2)) (hw1 : ∀ i ∈ ws1, i ∈ vs1) (hv : ∀ i ∈ vs1, i ∈ own.map (·.2))
    (hg : ∀ (s : Shared) (H : Hp) (C : Addr) (cl : List (Str × Addr)) (fp : List Addr), PG (X.blk s H scope (compEnvC scope cl C X.env) fp) tg (tG X.K kx ws g)) (ht : ∀ (s : Shared) (H : Hp) (C : Addr) (cl : List (Str × Addr)) (fp : List Addr), PTs (X.blk s H scope (compEnvC scope cl C X.env) fp) ifs (tMT X.K kx mt))
    (hi1 : ∀ (s : Shared) (H : Hp) (C : Addr) (cl : List (Str × Addr)) (fp : List Addr), PI (X.blk s H scope (compEnvC scope cl C X.env) fp) tg1 it1 (tI X.K kx mi1))
    (hg1 : ∀ (s : Shared) (H : Hp) (C : Addr) (cl : List (Str × Addr)) (fp : List Addr), PG (X.blk s H scope (compEnvC scope cl C X.env) fp) tg1 (tG X.K kx ws1 g1)) (ht1 : ∀ (s : Shared) (H : Hp) (C : Addr) (cl : List (Str × Addr)) (fp : List Addr), PTs (X.blk s H scope (compEnvC scope cl C X.env) fp) ifs1 (tMT X.K kx mt1))
    (he : ∀ (s : Shared) (H : Hp) (C : Addr) (cl : List (Str × Addr)) (fp : List Addr), PE (X.blk s H scope (compEnvC scope cl C X.env) fp) elt (tM X.K kx me)) (hfs : ∀ x, foldedSetIterable it X.env x = pure x := by intro _; rfl) (hfs1 : ∀ env x, foldedSetIterable it1 env x = pure x := by intro _ _; rfl) :
    PS X (.Assign [.Name y py] (.ListComp elt [⟨tg, it, ifs, 0⟩, ⟨tg1, it1, ifs1, 0⟩] scope pos) spos) (sM X.K kx (Mi.mAsg (mLc2 m mi g mt mi1 g1 mt1 me (own.map (·.2)) vs1) (Mi.gNm i))) :=
  (ps_setLc2 (i := i) hc hN hy hyl hsw hi ok hv hg ht hi1 hg1 ht1 he (hs := hfs) (hs1 := hfs1)).imp fun D σ H ⟨ρ, G, δ, f, δ', G', rl, sr, e, k⟩ => by
  unfold Mi.mAsg at e
  split at e
  · rename_i d G1 e1
    cases e
    exact lc2_go hw hw1 ⟨ρ, G, δ, d, _, rl, sr, e1, fun v ρ1 H1 g1 r1 d1 => k ρ1 _ H1 g1 r1 ((sr.gr g1).set i d1)⟩
  · cases e
end
end Ms

/-! PyU: a list is unpacked. -/
namespace Ms
open PySem PySem.Spec L2 PyProof.Rows
open Mi (Dv MO Sto Sl Rs bnd ME MT MA MS MF Fl MG MGs MI)
def gUnL (n : Nat) (g : MGs) : MG := fun d δ G => match Mi.lstOf G d with
  | some xs => if xs.length = n then g xs δ G else none
  | none => none
section
variable {X : Cx} {kx : Kx} {es : List Expr} {pos : Pos}
theorem g_unl {ws : List Nat} {gs : MGs} {n : Nat} {kk : Nat} (hc : X.calm = true) (h : PGs X es (tGs X.K kx ws gs)) (hn : (assignEach es X.env).length = n := by rfl) (hst : (assignEach es X.env).findIdx? (·.1) = none := by rfl) : PG X (.Tuple es kk pos) (tG X.K kx ws (gUnL n gs)) :=
  (pg_unl hc h hn hst).imp fun v σ H Q ⟨ρ, G, δ, d, δ', G', rl, sr, dr, e, k⟩ => by
  unfold gUnL at e
  split at e
  · rename_i xs hx
    split at e
    · rename_i hz
      obtain ⟨a, vs, e1, h1, q⟩ := lstOf_at rl hx dr
      exact ⟨a, vs, e1, h1, by rw [← q.len]; exact hz, ρ, G, δ, _, δ', G', rl, sr, q, e, k⟩
    · cases e
  · cases e
end
end Ms

/-! PyR: a repr is kept. -/
namespace Ms
open PySem PySem.Spec L2 PyProof.Rows
open Mi (Dv MO Sto Sl Rs bnd ME MT MA MS MF Fl MG MGs MI)
open Classical in
noncomputable def txt (d : PyData) : String := if h : ∃ s : String, Str.ofString s = d.shown then h.choose else ""
theorem txt_ok {d : PyData} (h : ∃ s : String, Str.ofString s = d.shown) : Str.ofString (txt d) = d.shown := by
  unfold txt
  rw [dif_pos h]
  exact h.choose_spec
open Classical in
noncomputable def mReprK (a : ME) : ME := fun δ G => bnd (a δ G) fun x G1 => match Mi.pyT G1 x with
  | some d => if Mi.okR d ∧ Str.ofString (txt d) = d.shown then some (.str (txt d), G1) else none
  | none => none
section
variable {X : Cx} {kx : Kx} {e a b c o : Expr} {ma mb mc me mo : ME} {pos p apos : Pos}
theorem m_reprK {p : Pos} (hG : X.A.guards = some []) (hu : X.A.units + 64 < cLine) (hm : X.mg "repr" = none) (ha : PE X a (tM X.K kx ma)) (hg : Gl X "repr" := by rfl) (he : starEach [a] X.env = (false, eval a X.env) :: starEach [] X.env := by rfl) (hpl : (backTo pos (starEach [] X.env)).any (·.1) = false := by rfl) :
    PE X (.Call (.Name "repr" p) [a] [] pos) (tM X.K kx (mReprK ma)) := (pe_repr hG hu hm ha hg he hpl).imp fun σ H Q ⟨ρ, G, δ, d, G', rl, sr, e, k⟩ => by
  obtain ⟨x, G1, e1, e⟩ := Mi.bnd_eq e
  split at e
  · rename_i pd p1
    split at e
    · rename_i hz
      cases e
      refine ⟨ρ, G, δ, x, _, rl, sr, e1, fun v ρ1 H1 g1 r1 d1 => ⟨v, pd, rfl, pyT_dp r1 p1 d1, hz.1, ?_⟩⟩
      rw [← hz.2]
      exact k _ ρ1 H1 g1 r1 (.str _)
    · cases e
  · cases e
end
end Ms

/-! PyZt: zip of two tuples, by the library's own rule (RZ.pi_zipA). -/
namespace Ms
open PySem L2 PyProof.Rows
open Mi (Dv MO Sto Sl Rs bnd ME MT MA MS MF Fl MG MGs MI)
def mZipT (a b : ME) : MI := fun δ G => bnd (a δ G) fun x G1 => bnd (b δ G1) fun y G2 => match x, y with
  | .tup xs, .tup ys => some ((List.zipWith (fun p q => .tup [p, q]) xs ys, fun _ => True), G2)
  | _, _ => none
theorem i_zipT {X : Cx} {kx : Kx} {a b : Expr} {ma mb : ME} {elts : List Expr} {kk : Nat} {tpos p pos : Pos} (hm : X.mg "zip" = none) (ha : PE X a (tM X.K kx ma)) (hb : PE X b (tM X.K kx mb)) (hg : Gl X "zip" := by rfl)
    (hs : Es X a [b] := by rfl) (hs2 : Es X b [] := by rfl) (hpl : Np X pos [b] := by rfl) :
    PI X (.Tuple elts kk tpos) (.Call (.Name "zip" p) [a, b] [] pos) (tI X.K kx (mZipT ma mb)) :=
  (RZ.pi_zipA hg hm (pa_cons ha (pa_cons hb pa_nil hs2) hs) hs hpl).imp fun σ H R ⟨ρ, G, δ, ds, st, G', rl, sr, e, k⟩ => by
  obtain ⟨x, G1, e1, e⟩ := Mi.bnd_eq e
  obtain ⟨y, G2, e2, e⟩ := Mi.bnd_eq e
  refine ⟨ρ, G, δ, x, G1, rl, sr, e1, fun v ρ1 H1 g1 r1 d1 => ⟨ρ1, G1, δ, y, G2, r1, sr.gr g1, e2, fun w ρ2 H2 g2 r2 d2 => ?_⟩⟩
  split at e
  · rename_i xs ys _
    cases e
    cases d1.gr g2 with
    | @tup ad vs _ hS rS =>
    cases d2 with
    | @tup bd ws _ hT rT =>
      refine ⟨ad, bd, vs, ws, rfl, .inr ⟨hS, hT, k _ ρ2 H2 (g1.trans g2) r2 ?_⟩⟩
      refine ⟨fun ρ G H g r s => ?_, fun i ρ G H g r s hi => ?_, fun i d ρ G H z H' g r s hd hy => ?_⟩
      · have h := SqT.gw g hS
        have dr := rS.gw g
        refine ⟨vs, ws, h, SqT.gw g hT, ?_⟩
        rw [List.length_zipWith, dr.len, rT.len]
        omega
      · have h := SqT.gw g hS
        have dr := rS.gw g
        rw [List.length_zipWith, dr.len, rT.len] at hi
        have i1 : i < vs.length := by omega
        have i2 : i < ws.length := by omega
        exact ⟨vs, ws, vs[i], ws[i], h, SqT.gw g hT, List.getElem?_eq_getElem i1, List.getElem?_eq_getElem i2⟩
      · obtain ⟨T, u1, u2, ev, hN, eH, f1, f2⟩ := hy
        subst ev eH
        have h := SqT.gw g hS
        have dr := rS.gw g
        obtain ⟨p1, q1, hp, hq, rfl⟩ := zw_get xs ys i d hd
        obtain ⟨v1, hv1, dv1⟩ := dr.get hp
        obtain ⟨v2, hv2, dv2⟩ := (rT.gw g).get hq
        have t1 := f1 vs h
        rw [hv1] at t1
        cases t1
        have t2 := f2 ws (SqT.gw g hT)
        rw [hv2] at t2
        cases t2
        obtain ⟨g3, r3⟩ := r.side (.tup [u1, u2]) hN
        exact ⟨g3, r3, .tup (SqT.of upd_same) (.cons (dv1.gr g3) (.cons (dv2.gr g3) .nil))⟩
  · cases e
end Ms

/-! PyI: in, not in; xs.pop(i); sorted; list(range(n)); max of a tuple of whole numbers. -/
namespace Ms
open PySem PySem.Spec L2 PyProof.Rows
open Mi (Dv MO Sto Sl Rs bnd ME MT MA MS MF Fl MG MGs MI)
/-! ### x in xs -/
def bIn (neg : Bool) : Mi.B2
  | .int i, y, G => match Mi.seqOf G y with
    | some xs => match Mi.intsOf xs with
      | some zs => some (.bl (decide (i ∈ zs) != neg), G)
      | none => none
    | none => none
  | _, _, _ => none
theorem inV_int (i : Int) : ∀ zs : List Int, inV (.int i) (zs.map V.int) = decide (i ∈ zs)
  | [] => by simp [inV]
  | z :: zs => by
    have h := inV_int i zs
    unfold inV at h ⊢
    rw [List.map_cons, List.any_cons, h]
    by_cases c : z = i
    · subst c
      simp [eqV]
    · have c' : ¬ i = z := fun q => c q.symm
      simp [eqV, c, c']
theorem b_in {X : Cx} {kx : Kx} (neg : Bool) : B2ok X kx (bIn neg) (rIn X.K neg) := by
  intro x y G d G' ρ H v w Q e rl dx dy k
  unfold bIn at e
  split at e
  · rename_i i
    split at e
    · rename_i xs hx
      split at e
      · rename_i zs hz
        cases e
        cases dx
        obtain ⟨a, vs, ew, hs, dr⟩ := seqOf_at rl hx dy
        have ev := ints_of hz dr
        subst ev
        refine ⟨a, zs.map V.int, ew, hs, rfl, by rw [List.all_map]; exact List.all_eq_true.mpr fun z _ => rfl, ?_⟩
        rw [inV_int]
        have := k (.bl (decide (i ∈ zs) != neg)) ρ H Gr.refl rl (.bl _)
        cases neg
        · simpa using this
        · simpa using this
      · cases e
    · cases e
  · cases e
/-! ### sorted -/
def srt (ns : List Int) : List Int := ns.mergeSort fun a b => decide (a ≤ b)
theorem srt_perm (ns : List Int) : (srt ns).Perm ns := List.mergeSort_perm ns _
theorem srt_pw (ns : List Int) : (srt ns).Pairwise (· ≤ ·) := by
  have := List.pairwise_mergeSort (le := fun a b : Int => decide (a ≤ b)) (fun a b c h1 h2 => by simp at h1 h2 ⊢; omega) (fun a b => by simp; omega) ns
  exact this.imp fun h => by simpa using h
theorem srt_uniq {ns ms : List Int} (p : ms.Perm ns) (w : ms.Pairwise (· ≤ ·)) : ms = srt ns :=
  List.Perm.eq_of_pairwise (fun a b _ _ h1 h2 => Int.le_antisymm h1 h2) w (srt_pw ns) (p.trans (srt_perm ns).symm)
def fSorted (m : Bool) : List Dv → Sto → Rs Dv
  | [x], G => match Mi.lstOf G x with
    | some xs => match Mi.intsOf xs with
      | some ns => some (Mi.mkL m ((srt ns).map Dv.int) G)
      | none => none
    | none => none
  | _, _ => none
theorem drs_ints {K : PySem.W.Frag} {ρ : Rh} {H : Hp} : ∀ ns : List Int, DRs K ρ H (ns.map Dv.int) (ns.map V.int)
  | [] => .nil
  | n :: ns => .cons (.int n) (drs_ints ns)
theorem f_sorted {X : Cx} {kx : Kx} (m : Bool) : Bok X kx (fSorted m) (rSortedI X.K) := by
  intro xs G d G' ρ H vs Q e rl ds k
  unfold fSorted at e
  split at e
  · rename_i x
    split at e
    · rename_i ys hy
      split at e
      · rename_i ns hn
        have e' := Option.some.inj e
        cases ds with
        | cons a b =>
          cases b
          obtain ⟨p, us, ev, hs, dr⟩ := lstOf_at rl hy a
          have eu := ints_of hn dr
          subst ev eu
          refine ⟨p, ns, rfl, hs, fun ns' q pm pw hq => ?_⟩
          rw [srt_uniq pm pw]
          refine mkL_ok (m := m) rl (drs_ints (srt ns)) ?_ q hq
          rw [e']
          exact fun z ρ' H' g r w => k z ρ' H' g r w
      · cases e
    · cases e
  · cases e
/-! ### max of a tuple of whole numbers -/
def fMaxTI : List Dv → Sto → Rs Dv
  | [.tup xs], G => match Mi.intsOf xs with
    | some (n :: ns) => some (.int (ns.foldl max n), G)
    | _ => none
  | _, _ => none
def rMaxTI (K : PySem.W.Frag) : List V → Hp → VK → Prop := fun vs H Q => ∃ (a : Addr) (n : Int) (ns : List Int), vs = [V.ref a] ∧ SqT K H a ((n :: ns).map V.int) ∧ Q (.int (ns.foldl max n)) H
theorem reads_is {h : Heap} : ∀ {vs : List Value} {ns : List Int}, IntsAre vs ns → ReadsAll h vs (ns.map PyData.int) []
  | [], [], _ => .nil
  | _ :: _, _ :: _, hi => by
    cases hi
    rename_i h
    exact .cons (.int _ _) (reads_is h)
theorem cr_maxTI {X : Cx} {k : Nat} (hc : X.calm = true) (hr : Room k X.A) : CallR X (.builtin "max") (rMaxTI X.K) := by
  rintro pins s σ H _ us Q I r ⟨a, n, ns, rfl, ha, q⟩
  have ⟨its, r1, p1, _⟩ := I.tuple ha
  rw [Vals.ref1 r]
  have hi := r1.ints
  have hu : X.A.units + 1 + PyData.depthAll (.int n :: ns.map PyData.int) < cLine := by
    have h0 : ∀ ns : List Int, PyData.depthAll (ns.map PyData.int) = 0 := fun ns => by
      induction ns with
      | nil => simp [PyData.depthAll]
      | cons n ns ih => simp [PyData.depthAll, PyData.depth, ih]
    have := h0 (n :: ns)
    rw [List.map_cons] at this
    rw [this]
    have := hr.un
    omega
  have ra := reads_is (h := s.heap) hi
  refine PySem.W.max_tuple_data (I.ok.hd hc) p1 (x := .int n) (xs := ns.map PyData.int) ra ⟨fun x hx y hy => ?_, fun x hx => ?_⟩ hu fun i v h' tk bs hv rd kp => ?_
  · have one : ∀ {z : PyData}, z ∈ (PyData.int n :: ns.map PyData.int) → ∃ m, z = .int m := fun {z} hz => by
      have w : z ∈ (n :: ns).map PyData.int := hz
      obtain ⟨m, _, em⟩ := List.mem_map.mp w
      exact ⟨m, em.symm⟩
    obtain ⟨m1, rfl⟩ := one hx
    obtain ⟨m2, rfl⟩ := one hy
    rfl
  · rcases List.mem_cons.mp hx with rfl | hx
    · exact fun z => nomatch z
    · obtain ⟨m, _, rfl⟩ := List.mem_map.mp hx
      exact fun z => nomatch z
  · rw [PySem.W.maxD_ints] at rd
    cases rd with
    | int _ t => exact ⟨.int _, H, I.kept (t' := tk) kp, ⟨_, rfl⟩, q⟩
theorem f_maxTI {X : Cx} {kx : Kx} : Bok X kx fMaxTI (rMaxTI X.K) := by
  intro xs G d G' ρ H vs Q e rl ds k
  unfold fMaxTI at e
  split at e
  · rename_i ys
    split at e
    · rename_i n ns hn
      cases e
      cases ds with
      | cons a b =>
        cases b
        cases a with
        | @tup ad ws _ hT rT =>
          have ev := ints_of hn rT
          subst ev
          exact ⟨_, n, ns, rfl, hT, k _ ρ H Gr.refl rl (.int _)⟩
    · cases e
  · cases e
/-! ### int(flag) -/
def fIntB : List Dv → Sto → Rs Dv
  | [.bl b], G => some (.int (if b then 1 else 0), G)
  | _, _ => none
theorem f_intB {X : Cx} {kx : Kx} : Bok X kx fIntB (fun xs H Q => (∃ i, xs = [.int i] ∧ Q (.int i) H) ∨ ∃ k, xs = [.bl k] ∧ Q (.int (if k then 1 else 0)) H) := by
  intro xs G d G' ρ H vs Q e rl ds k
  unfold fIntB at e
  split at e
  · cases e
    cases ds with
    | cons a b =>
      cases b
      cases a
      exact .inr ⟨_, rfl, k _ ρ H Gr.refl rl (.int _)⟩
  · cases e
/-! ### xs.pop(i), list(range(n)) -/
def mPopAt (o a : ME) : ME := fun δ G => bnd (o δ G) fun x G1 => bnd (a δ G1) fun y G2 => match x, y with
  | .ref h, .int i => match G1[h]?, G2[h]? with
    | some (.lst _), some (.lst xs) => match Mi.ixN xs.length i with
      | some k => match xs[k]? with
        | some z => if xs.length ≤ Mi.big then some (z, G2.set h (.lst (xs.eraseIdx k))) else none
        | none => none
      | none => none
    | _, _ => none
  | _, _ => none
theorem six {n : Nat} {i : Int} {k : Nat} (hn : n ≤ Mi.big) (h : Mi.ixN n i = some k) : seqIndex? i n = some k ∧ -(2 ^ 63) ≤ i ∧ i < 2 ^ 63 := by
  unfold Mi.ixN at h
  have hb : Mi.big = 16777216 := rfl
  rw [hb] at hn
  split at h
  · split at h
    · rename_i h1 h2
      cases h
      refine ⟨?_, by omega, by omega⟩
      unfold seqIndex?
      simp only [show ¬ i < 0 by omega, if_false]
      rw [if_pos (by simp; omega)]
    · cases h
  · split at h
    · rename_i h1 h2
      cases h
      refine ⟨?_, by omega, by omega⟩
      unfold seqIndex?
      simp only [show i < 0 by omega, if_true]
      rw [if_pos (by simp; omega)]
    · cases h
section
variable {X : Cx} {kx : Kx} {e a b c o : Expr} {ma mb mc me mo : ME} {pos p apos : Pos}
theorem m_popAt (ho : PE X o (tM X.K kx mo)) (ha : PE X a (tM X.K kx ma)) (hbase : attributeBase o "pop" X.env (eval o X.env) = eval o X.env := by rfl)
    (hfew : ((backTo pos (starEach [a] X.env)).all (fun x => !x.1) && (backToKw pos (keywordEach [] X.env)).all (fun x => x.1.isSome) && decide (([a] : List Expr).length + ([] : List Keyword).length + (if ([] : List Keyword).isEmpty then 0 else 1) < 30)) = true := by rfl)
    (hline : (apos.endLine == pos.line) = true := by rfl) (hs : starEach [a] X.env = (false, eval a X.env) :: starEach [] X.env := by rfl) (hplain : (backTo pos (starEach [] X.env)).any (·.1) = false := by rfl) :
    PE X (.Call (.Attribute o "pop" apos) [a] [] pos) (tM X.K kx (mPopAt mo ma)) :=
  (pe_bm PySem.F.plainAttrs_list PySem.F.slot_list_pop PySem.F.type_list_pop mt_popAt ho (pa_cons ha pa_nil hs) hbase hfew hline hs hplain).imp fun σ H Q ⟨ρ, G, δ, d, G', rl, sr, e, k⟩ => by
  obtain ⟨x, G1, e1, e⟩ := Mi.bnd_eq e
  obtain ⟨y, G2, e2, e⟩ := Mi.bnd_eq e
  refine ⟨ρ, G, δ, x, G1, rl, sr, e1, fun v ρ1 H1 g1 r1 d1 => ?_⟩
  split at e
  · rename_i h i _
    split at e
    · rename_i z xs eh1 eh2
      split at e
      · rename_i kk hk
        split at e
        · rename_i y ey
          split at e
          · rename_i hb
            cases e
            cases d1 with
            | @ref _ ad ea =>
              obtain ⟨vs1, h1, _⟩ := lst_at r1 eh1 ea
              refine ⟨.inl ⟨rfl, _, SqL.of h1⟩, ρ1, G1, δ, _, G2, r1, sr.gr g1, e2, fun w ρ2 H2 g2 r2 d2 => ?_⟩
              obtain ⟨vs, h2, rv⟩ := lst_at r2 eh2 (ref_gr (K := X.K) g2 ea)
              cases d2
              obtain ⟨u, hu, du⟩ := rv.get ey
              obtain ⟨q1, q2, q3⟩ := six hb hk
              refine ⟨ad, vs, i, kk, u, rfl, rfl, h2, q2, q3, by rw [← rv.len]; exact q1, hu, ?_⟩
              have rd : DRs X.K ρ2 H2 (xs.eraseIdx kk) (vs.eraseIdx kk) := by
                rw [List.eraseIdx_eq_take_drop_succ, List.eraseIdx_eq_take_drop_succ]
                exact (rv.take _).app (rv.drop _)
              obtain ⟨g3, r3⟩ := r2.wr (o := .lst (vs.eraseIdx kk)) (m := .lst (xs.eraseIdx kk)) (ref_gr (K := X.K) g2 ea) fun g => .lst upd_same (rd.gr g)
              exact k u _ _ ((g1.trans g2).trans g3) r3 (du.gr g3)
          · cases e
        · cases e
      · cases e
    · cases e
  · cases e
theorem m_listR1 (m : Bool) {p p2 pos2 : Pos} (hc : X.calm = true) (hm : X.mg "list" = none) (hm2 : X.mg "range" = none) (ha : PE X a (tM X.K kx ma)) (hg : Gl X "list" := by rfl) (hg2 : Gl X "range" := by rfl)
    (na : starEach [a] X.env = (false, eval a X.env) :: starEach [] X.env := by rfl) (nr : starEach [Expr.Call (.Name "range" p2) [a] [] pos2] X.env = (false, eval (Expr.Call (.Name "range" p2) [a] [] pos2) X.env) :: starEach [] X.env := by rfl) :
    PE X (.Call (.Name "list" p) [.Call (.Name "range" p2) [a] [] pos2] [] pos) (tM X.K kx (Mi.m1 (Mi.uListR m) ma)) :=
  (pe_listRg hc hg hm (prg_1 hg2 hm2 ha na) nr).imp fun σ H Q ⟨ρ, G, δ, d, G', rl, sr, e, k⟩ => by
  obtain ⟨x, G1, e1, e⟩ := Mi.bnd_eq e
  refine ⟨ρ, G, δ, x, G1, rl, sr, e1, fun v ρ1 H1 g1 r1 d1 => ?_⟩
  unfold Mi.uListR at e
  split at e
  · split at e
    · rename_i hz
      obtain ⟨z3, z4, z5⟩ := hz
      have e' := Option.some.inj e
      cases d1
      refine ⟨_, rfl, ⟨by decide, by decide, z3, z4, by simpa using z5⟩, mkL_ok (m := m) r1 rng_ok ?_⟩
      rw [e']
      exact fun z ρ' H' g r q => k z ρ' H' (g1.trans g) r q
    · cases e
  · cases e
end
end Ms

/-! PyEn: enumerate of a tuple, by the library's enumerate over anything that begins (Begins) and draws (Draws). -/
namespace PySem
/-- enumerate(v) without a start is enumerate(v, 0), as far as its __new__ goes -/
theorem enumB_meets {v : Value} {o : Obj} {Hv : Heap → Prop} (B : Begins v o Hv) :
    Meets (Builtin.«enumerate.__new__» ⟨[.type "enumerate", v], []⟩) (fun _ R s => Hv s.heap ∧
      R (.ok (.ret (.ref (s.heap.push o).objs.size))) { s with heap := (s.heap.push o).push { cls := .type "enumerate", data := .fields #[.none, .bool false, .ref s.heap.objs.size, rawInt 0, .none, .none] } }) :=
  .of_wp fun prog w A R s both => by
    have ⟨begun, fin⟩ := both
    cases s with | mk hp g d tk os =>
    have is_sub := sub_enumerate
    have first : ∀ {A' : Around} {Q E : Value → Shared → Prop}, Q (.ref hp.objs.size) ⟨hp.push o, g, d, tk, os⟩ → wpAny (model prog w) A' (pyIter v) Q E ⟨hp, g, d, tk, os⟩ := B.iter _ _ _ _ _ _ begun
    wp_walk using first
    exact wpAny_stack_any fun st => wpAny_pure (by
      split
      · rename_i c _ _ _ _ _
        cases (c == Value.type "enumerate") <;> (wp_walk using first; exact ⟨_, rfl, fin⟩)
      · wp_walk using first
        exact ⟨_, rfl, fin⟩)
theorem enumB_call {prog : Program} {w : World} {A : Around} {E Q : Value → Shared → Prop} {s : Shared} {v : Value} {o : Obj} {Hv : Heap → Prop} (B : Begins v o Hv) (begun : Hv s.heap)
    (then_ : ∀ h', IsEnum h' (s.heap.objs.size + 1) s.heap.objs.size 0 .none → h'.get? s.heap.objs.size = some o → (∀ b ob, s.heap.get? b = some ob → h'.get? b = some ob) → Q (.ref (s.heap.objs.size + 1)) { s with heap := h' }) :
    wpAny (model prog w) A (call (.type "enumerate") [v]) Q E s := by
  have end_ : (s.heap.push o).objs.size = s.heap.objs.size + 1 := Heap.size_push ..
  have made : IsEnum ((s.heap.push o).push ⟨.type "enumerate", none, .fields #[.none, .bool false, .ref s.heap.objs.size, rawInt 0, .none, .none], #[]⟩) (s.heap.objs.size + 1) s.heap.objs.size 0 .none := end_ ▸ Heap.get?_push_size (s.heap.push o) rfl
  refine callType_new F.called_enumerate (by decide) (F.typeCall_enumerate_1 _) (F.newCall_enumerate_1 _) (fun obj => F.args_object_init_2 obj _) F.entry_enumerate_new (enumB_meets B) ⟨begun, ?_⟩
  rw [show (Value.ref (s.heap.push o).objs.size) = .ref (s.heap.objs.size + 1) by rw [end_]]
  exact ⟨⟨_, made, rfl⟩, then_ _ made (Heap.get?_push_of_some _ (Heap.get?_push_size _ B.free)) fun b ob q => Heap.get?_push_of_some _ (Heap.get?_push_of_some _ q)⟩
end PySem
namespace Ms
open PySem PySem.Spec L2 PyProof.Rows
open Mi (Dv MO Sto Sl Rs bnd ME MT MA MS MF Fl MG MGs MI)
/-- the tuple at a stands still, each item in a new pair with its number -/
def Ien (K : PySem.W.Frag) (a : Addr) : It :=
  ItW (fun i H => ∃ (xs : List V) (x : V), SqT K H a xs ∧ xs[i]? = some x)
    (fun i H vs => ∃ x, vs = [.int (i : Nat), x] ∧ ∀ xs, SqT K H a xs → xs[i]? = some x)
    (fun i H => ∃ xs : List V, SqT K H a xs ∧ xs.length = i)
/-- its two cells -/
def Est (e it a : Addr) (i : Nat) (h : Heap) : Prop := (∃ old, IsEnum h e it (0 + (i : Int)) old) ∧ h.IsTupleIter it a i
theorem Est.walk {P : Program} {w : World} {A : Around} {a e it : Addr} {i : Nat} {h : Heap} {its : Array Value} (no : A.in1.handled = none) (ne : e ≠ it) (na : a ≠ it) (nae : a ≠ e) (st : Est e it a i h) (p : h.IsTuple a its) :
    AtW P w A e [e, it] (Est e it a) h i its.size fun i vals => ∃ t x, its[i]? = some x ∧ vals = #[.int (0 + (i : Int)) t, x] :=
  ⟨_, _, _, _, WalksT.enumFrom 0 (Draws.tuple no it a na its) e ne (by simp only [List.mem_cons, List.not_mem_nil, or_false]; exact fun q => q.elim ne (Ne.symm nae)) (List.mem_cons_self ..), fun _ q => q, ⟨st.1, st.2, p⟩, fun j h' z => ⟨z.1, z.2.1⟩⟩
theorem turn_enT {P : Program} {w : World} {K : PySem.W.Frag} {elts : List Expr} {kk : Nat} {tpos : Pos} (a e it : Addr) (ne : e ≠ it) (na : a ≠ it) (nae : a ≠ e) : Turn P w K (.Tuple elts kk tpos) (Ien K a) [e, it] e (Est e it a) := by
  refine turn_of_walks (List.mem_cons_self ..) ?_ ?_ (fun _ _ _ _ _ st q => wpAny_pyIter_enum st.1.choose_spec q) ?_ ?_
  · rintro i h ⟨⟨old, ce⟩, o, co, _, fs⟩ b hb
    have here : b = e ∨ b = it := by simpa using hb
    cases here with
    | inl q => exact ⟨_, q ▸ ce, fun v z => by cases z⟩
    | inr q => exact ⟨o, q ▸ co, fun v z => by rw [fs] at z; cases z⟩
  · rintro i h h' ⟨⟨old, ce⟩, ci⟩ k
    exact ⟨⟨old, k e (List.mem_cons_self ..) _ ce⟩, ci.at (k it (List.mem_cons_of_mem _ (List.mem_cons_self ..)))⟩
  · rintro X rfl rfl rfl no i pins σ H s I st ⟨xs, x, qx, hx⟩
    obtain ⟨its, rx, px, _⟩ := I.tuple qx
    obtain ⟨u, eu, ru⟩ := rx.get hx
    refine ⟨_, _, Est.walk no ne na nae st px, by rw [List.size_toArray]; exact (List.getElem?_eq_some_iff.mp eu).1, ?_⟩
    rintro vals ⟨t, y, ey, rfl⟩
    rw [item_at eu ey]
    exact ⟨[.int (i : Nat), x], ⟨x, rfl, fun l q => I.tuple_inj q qx ▸ hx⟩, two_line, .cons ⟨t, by rw [Int.zero_add]⟩ (.cons ru .nil)⟩
  · rintro X rfl rfl rfl no i pins σ H s I st ⟨xs, qx, ends⟩
    obtain ⟨its, rx, px, _⟩ := I.tuple qx
    have W := Est.walk (P := X.prog) (w := X.w) (A := X.A) no ne na nae st px
    rw [List.size_toArray, ← rx.length, ends] at W
    exact ⟨_, W⟩
def iEnT (K : PySem.W.Frag) (ta : TA) : TI := fun σ H R => ta σ H fun vs H1 => ∃ a xs, vs = [.ref a] ∧ SqT K H1 a xs ∧ R (Ien K a) H1
/-- enumerate of this tuple, just called -/
theorem enum_new {X : Cx} {tg : List Expr × Nat × Pos} {pins : List (Addr × Obj)} {σ : L2.St} {H : Hp} {s : Shared} {R : It → Hp → Prop} {a : Addr} {xs : List V} {E : Value → Shared → Prop} (I : Inv X pins σ H s) (qx : SqT X.K H a xs) (r : R (Ien X.K a) H) :
    wpAny (model X.prog X.w) X.A (call (.type "enumerate") [.ref a]) (fun v s1 => wpAny (model X.prog X.w) X.A (pyIter v) (PIE X pins σ (.Tuple tg.1 tg.2.1 tg.2.2) R) E s1) E s := by
  obtain ⟨its, _, px, _⟩ := I.tuple qx
  have la : a < s.heap.objs.size := Heap.lt_size px.choose_spec.1
  refine enumB_call (begins_tuple a its.toArray) px fun h' ce ci kp => wpAny_pyIter_enum ce ?_
  refine ⟨_, _, _, _, H, rfl, I.kept (t' := s.toks) kp, turn_enT a _ s.heap.objs.size (Nat.succ_ne_self _) (Nat.ne_of_lt la) (Nat.ne_of_lt (Nat.lt_succ_of_lt la)), ⟨⟨_, ce⟩, _, ci, rfl, rfl⟩, fresh_ch I ?_, r⟩
  simp only [List.forall_mem_cons, List.not_mem_nil, false_implies, implies_true, and_true]
  exact ⟨Nat.le_succ _, Nat.le_refl _⟩
theorem pi_enT {X : Cx} {e : Expr} {ta : TA} {p pos tpos : Pos} {elts : List Expr} {kk : Nat} (hg : Gl X "enumerate") (hm : X.mg "enumerate" = none) (ha : PA X [e] ta) (hs : Es X e [] := by rfl) :
    PI X (.Tuple elts kk tpos) (.Call (.Name "enumerate" p) [e] [] pos) (iEnT X.K ta) :=
  ⟨fun pins s σ H R I h => Call_ (ld_blt I hg hm boot_enumerate (PyProof.Rows.callWith_type1 (thn (ha.run pos pins s σ H _ I h) fun us s1 ⟨vs, H1, I1, r1, a, xs, ev, qx, q⟩ => by
    subst ev
    rw [Vals.ref1 r1]
    exact enum_new (tg := ⟨elts, kk, tpos⟩) I1 qx q) hs rfl))⟩
def iEnumT (a : ME) : MI := fun δ G => bnd (a δ G) fun x G1 => match x with
  | .tup xs => some ((Mi.enumD 0 xs, fun _ => True), G1)
  | _ => none
theorem i_enumT {X : Cx} {kx : Kx} {a : Expr} {ma : ME} {elts : List Expr} {kk : Nat} {tpos p pos : Pos} (hm : X.mg "enumerate" = none) (ha : PE X a (tM X.K kx ma)) (hg : Gl X "enumerate" := by rfl) (hs : Es X a [] := by rfl) : PI X (.Tuple elts kk tpos) (.Call (.Name "enumerate" p) [a] [] pos) (tI X.K kx (iEnumT ma)) :=
  (pi_enT hg hm (pa_cons ha pa_nil hs) hs).imp fun σ H R ⟨ρ, G, δ, ds, st, G', rl, sr, e, k⟩ => by
  obtain ⟨x, G1, e1, e⟩ := Mi.bnd_eq e
  refine ⟨ρ, G, δ, x, G1, rl, sr, e1, fun v ρ1 H1 g1 r1 d1 => ?_⟩
  split at e
  · rename_i xs
    cases e
    cases d1 with
    | @tup ad vs _ hT rT =>
    refine ⟨ad, vs, rfl, hT, k _ ρ1 H1 g1 r1 ?_⟩
    refine ⟨fun ρ G H g r s => ?_, fun i ρ G H g r s hi => ?_, fun i d ρ G H v H' g r s hd hy => ?_⟩
    · refine ⟨vs, SqT.gw g hT, ?_⟩
      rw [enumD_len, rT.len]
    · rw [enumD_len, rT.len] at hi
      exact ⟨vs, vs[i], SqT.gw g hT, List.getElem?_eq_getElem hi⟩
    · obtain ⟨T, us, ev, hT', eH, w, eu, hv⟩ := hy
      subst eu ev eH
      have h := SqT.gw g hT
      have dr := rT.gw g
      rw [enumD_get] at hd
      cases ex : xs[i]? with
      | none => rw [ex] at hd; cases hd
      | some d0 =>
        rw [ex] at hd
        cases hd
        obtain ⟨w', hw, dw⟩ := dr.get ex
        have t1 := hv vs h
        rw [hw] at t1
        cases t1
        obtain ⟨g3, r3⟩ := r.side (.tup [.int (i : Nat), w]) hT'
        refine ⟨g3, r3, .tup (SqT.of upd_same) (.cons ?_ (.cons (dw.gr g3) .nil))⟩
        have e0 : ((0 + i : Nat) : Int) = (i : Nat) := by rw [Nat.zero_add]
        first
        | exact .int _
        | (rw [e0]; exact .int _)
  · cases e
end Ms

/-! PySw: an item of a list as a target among others. -/
namespace Ms
open PySem PySem.Spec L2 PyProof.Rows
open Mi (Dv MO Sto Sl Rs bnd ME MT MA MS MF Fl MG MGs MI)
def gSubI (o i : ME) : MG := fun d δ G => match o δ G with
  | some (.ref h, G2) => match i δ G2 with
    | some (.int k, G3) => match G3[h]? with
      | some (.lst xs) => match Mi.ixN xs.length k with
        | some j => some (δ, G3.set h (.lst (xs.set j d)))
        | none => none
      | _ => none
    | _ => none
  | _ => none
/-- two lists by their handles, one behind the other -/
def bAddL (m : Bool) : Mi.B2
  | .ref h, .ref h2, G => match G[h]?, G[h2]? with
    | some (.lst a), some (.lst b) => if a.length + b.length ≤ Mi.big then some (Mi.mkL m (a ++ b) G) else none
    | _, _ => none
  | _, _, _ => none
theorem b_addL {X : Cx} {kx : Kx} (m : Bool) : B2ok X kx (bAddL m) (rAdds X.K) := by
  intro x y G d G' ρ H v w Q e rl dx dy k
  unfold bAddL at e
  split at e
  · split at e
    · rename_i a b ha hb
      split at e
      · rename_i hz
        have e' := Option.some.inj e
        cases dx with
        | ref ea =>
          cases dy with
          | ref eb =>
            obtain ⟨vs, h1, r1⟩ := lst_at rl ha ea
            obtain ⟨us, h2, r2⟩ := lst_at rl hb eb
            refine .inr (.inr ⟨_, _, _, _, rfl, rfl, h1, h2, ?_, ?_⟩)
            · rw [← r1.len, ← r2.len, ← big_line]
              exact hz
            · refine mkL_ok (m := m) rl (r1.app r2) ?_
              rw [e']
              exact k
      · cases e
    · cases e
  · cases e
section
variable {X : Cx} {kx : Kx} {o i : Expr} {mo mi : ME} {pos' : Pos}
theorem g_subI (ho : PE X o (tM X.K kx mo)) (hi : PE X i (tM X.K kx mi))
    (ha : ∀ v, assign (.Subscript o i pos') X.env v = (do let ov ← holding [v] (eval o X.env); let iv ← holding [v, ov] (eval i X.env); standAt pos'; holding [v, ov, iv] (setItem ov iv v); release [v, ov, iv] []) := by intro _; rfl) : PG X (.Subscript o i pos') (tG X.K kx [] (gSubI mo mi)) :=
  (pg_sub ho hi set_list ha).imp fun w σ H Q ⟨ρ, G, δ, y, δ', G', rl, sr, d1, e, k⟩ => by
  unfold gSubI at e
  split at e
  · rename_i h G2 e2
    split at e
    · rename_i kk G3 e3
      split at e
      · rename_i xs eh
        split at e
        · rename_i j ej
          cases e
          refine ⟨ρ, G, δ, _, G2, rl, sr, e2, fun v ρ2 H2 g2 r2 d2 => ⟨ρ2, G2, δ, _, G3, r2, sr.gr g2, e3, fun u ρ3 H3 g3 r3 d3 => ?_⟩⟩
          cases d3
          cases d2 with
          | ref ea =>
            have ea3 := ref_gr (K := X.K) g3 ea
            obtain ⟨vs, h3, rv⟩ := lst_at r3 eh ea3
            obtain ⟨g4, r4⟩ := r3.wr (o := .lst (vs.set j w)) (m := .lst (xs.set j y)) ea3 fun g => .lst upd_same ((rv.set j (d1.gr (g2.trans g3))).gr g)
            exact ⟨_, vs, _, j, rfl, rfl, h3, by rw [← ixN_dr rv]; exact ej, k _ σ _ ((g2.trans g3).trans g4) r4 (sr.gr ((g2.trans g3).trans g4)) rfl fun _ _ => rfl⟩
        · cases e
      · cases e
    · cases e
  · cases e
end
end Ms

/-! PyDc: a copy of a dict. -/
namespace Ms
open PySem PySem.Spec L2 PyProof.Rows
open Mi (Dv MO Sto Sl Rs bnd ME MT MA MS MF Fl MG MGs MI)
def fDict : List Dv → Sto → Rs Dv
  | [.ref h], G => match G[h]? with
    | some (.dct kvs) => some (.ref G.length, G ++ [.dct kvs])
    | _ => none
  | _, _ => none
theorem f_dict {X : Cx} {kx : Kx} : Bok X kx fDict (fun xs H Q => ∃ (a : Addr) (kvs : List (L2.Key × V)), xs = [.ref a] ∧ Rd H a (.dK kvs) ∧ ∀ p, H p = none → Q (.ref p) (upd H p (.dK kvs))) := by
  intro xs G d G' ρ H vs Q e rl ds k
  unfold fDict at e
  split at e
  · rename_i h
    split at e
    · rename_i kvs eh
      cases e
      cases ds with
      | cons a b =>
        cases b
        cases a with
        | ref ea =>
          obtain ⟨ks, h1, kr⟩ := dct_at rl eh ea
          refine ⟨_, ks, rfl, .of h1, fun p hp => ?_⟩
          obtain ⟨g, r⟩ := rl.grow (p := p) (o := .dK ks) (m := .dct kvs) hp fun g => .dct upd_same (kr.imp fun _ _ q => ⟨q.1, q.2.gr g⟩)
          refine k (.ref p) _ _ g r (.ref ?_)
          rw [← rl.len, List.getElem?_append_right (Nat.le_refl _)]
          simp
    · cases e
  · cases e
end Ms

/-! PyRz: raise C(e), C a class below another one below Exception, whose __init__ keeps its one argument. -/
namespace PySem
namespace Xz
open PySem.W PySem.Calls PyProof.Rows PySem.HandSPX Builtin Builtin.ObjectAttr
variable {prog : Program} {w : World} {A : Around} {R : Result → Shared → Prop} {hp : Heap} {g : Array GenState} {d : Drawn} {t : Nat} {os : OsState}
/-- what stands behind a class of the program that is below T, which is below Exception -/
abbrev tail2 (T : Addr) : List Value := .ref T :: ESX.exTail
theorem store_first {K : W.Frag} {name : Str} {tk : Tok} {v : Value} {x C T : Addr} {fv : Array Value} {cd : ClassData} (inK : K.In hp) (there : hp.get? x = some { cls := .ref C, data := .fields fv }) (known : W.clsIn K C = some cd) (order : cd.mro = .ref C :: tail2 T) (roomy : cd.hasDict = true) (free : W.findIn K (.ref C) name = some none)
    (go : ∀ h' tk' dx, (∀ b o, b ≠ x → hp.get? b = some o → h'.get? b = some o) → hp.objs.size ≤ dx → dx ≠ x → h'.get? x = some { cls := .ref C, dict := some dx, data := .fields fv } → h'.Ns1 dx (fun y => if y = name then some v else none) → R (.ok (.ret .none)) ⟨h', g, d, tk', os⟩) :
    codeAny (model prog w) A (.call (.builtin "object.__setattr__") (⟨[.ref x, .str name tk, v], []⟩)) R ⟨hp, g, d, t, os⟩ := by
  have at_ : W.InstAt hp x { cls := .ref C, data := .fields fv } C none := ⟨there, rfl, rfl, trivial⟩
  have below : W.mroIn K C (.type "object") = some true := by
    unfold W.mroIn
    rw [known, Option.bind_some, order]
    rfl
  have is_object : W.Looks (model prog w) hp (isInstance (.ref x) (.type "object")) true := at_.type.andThen (W.looks_mroIn inK below)
  have rule := F.store_object
  have apart : x ≠ hp.objs.size := Nat.ne_of_lt (Heap.lt_size there)
  have the_mro : W.Looks (model prog w) hp (mroOf (.ref C)) cd.mro := W.Looks.andThen (W.looks_clsIn inK known) .now
  have passes : refuseLoop (.ref x) "__setattr__" cd.mro = pure () := by
    rw [order, refuseLoop_ref, refuseLoop_ref, F.store_Exception.passes]
  have the_class : W.Looks (model prog w) hp (classData C) cd := W.looks_clsIn inK known
  refine codeAny_call_builtin rule.slot.plain rule.entry (@W.check_slot (model prog w) _ _ ⟨hp, g, d, t, os⟩ "object.__setattr__" "object" "__setattr__" (.ref x) [.str name tk, v] [] _ rule.kind rule.split is_object (rule.args (.ref x) (.str name tk) v) ?_)
  rw [W.osa_eq, refuse_eq]
  apply wpAny_bind; apply wpAny_bind; apply at_.type.at; apply wpAny_bind; apply the_mro.at
  rw [passes]
  apply wpAny_pure; apply wpAny_bind; apply at_.type.at; apply wpAny_bind; apply (W.looks_findIn inK free).at; apply wpAny_bind
  apply (show W.Looks (model prog w) hp (storeTaker? none) none from .now).at
  change wpAny _ _ (storeInOwnDict (.ref x) (.ref C) (.str name tk) name v false) _ _ _
  have ⟨nm, bs, mro, ns, qn, hd, sn, sb, ab, col, del⟩ := cd
  cases (show hd = true from roomy)
  unfold storeInOwnDict; unfold ownDictForStores
  repeat (first | with_reducible refine HandSPX.store_in_new ?fresh ?done | with_reducible refine wpAny_loadPart_at there ?_ | with_reducible refine the_class.at ?_ | wp_step)
  case fresh => exact ⟨_, #[], _, (Heap.get?_update_ne _ _ _ _ (Ne.symm apart)).trans (Heap.get?_push_at rfl rfl), rfl, (fun e he => absurd he (by simp)), fun _ => rfl⟩
  case done =>
    intro h' tk' written same
    have x1 := Heap.get?_push_of_some { cls := .type "dict", data := .dict #[] } there
    refine go h' tk' hp.objs.size (fun b o hb ho => ?_) (Nat.le_refl _) (Ne.symm apart) ?_ written
    · rw [same.2 b (Nat.ne_of_lt (Heap.lt_size ho)), Heap.get?_update_ne _ _ _ _ hb]
      exact (Heap.get?_push_of_some _ ho)
    · rw [same.2 x apart]
      exact Heap.get?_update_self _ x1 rfl
end Xz
end PySem
namespace Ms
open PySem PySem.Spec L2 PyProof.Rows
open Mi (Dv MO Sto Sl Rs bnd ME MT MA MS MF Fl MG MGs MI)
/-- C is such a class, named x, its __init__ the def st, which keeps its argument as f -/
structure Xv (K : PySem.W.Frag) (mg : Str → Option Value) (C : Addr) (x f qual : Str) (st : Stmt) : Prop where
  g : mg x = some (.ref C)
  cls : ∃ (T : Addr) (nm q : Str) (N : Addr) (bs : List Value) (sn : List Str) (sub : List Value) (ab : Bool) (col : Option Bool) (dd : Option Addr) (k0 k1 k2 k3 k5 : Option Value), K.lookup C = some (excClassObj nm q C N bs (PySem.Xz.tail2 T) true sn sub ab col dd k0 k1 k2 k3 k5 "Exception.__new__")
  sa : PySem.W.findIn K (.ref C) "__setattr__" = some (some (Value.builtin "object.__setattr__"))
  no : PySem.W.findIn K (.ref C) f = some none
  k : PySem.W.keepIn K (.ref C) = true
  s : PySem.W.subIn K (.ref C) (.type "BaseException") = some true
  t : PySem.W.typeIn K (.ref C) = some (.type "type")
  m : PySem.W.exmOne K (.ref C) (.ref C) = some true
  init : ∃ fI fd, Fun K "__init__" qual st fI fd ∧ PySem.W.findIn K (.ref C) "__init__" = some (some (.ref fI)) ∧ PySem.W.typeIn K (.ref fI) = some (.type "function")
theorem xv_clsIn {K : PySem.W.Frag} {mg : Str → Option Value} {C : Addr} {x f qual : Str} {st : Stmt} (T : Xv K mg C x f qual st) : ∃ cd T0, PySem.W.clsIn K C = some cd ∧ cd.mro = .ref C :: PySem.Xz.tail2 T0 ∧ cd.hasDict = true := by
  obtain ⟨T0, nm, q, N, bs, sn, sub, ab, col, dd, k0, k1, k2, k3, k5, hC⟩ := T.cls
  refine ⟨{ name := nm, bases := bs, mro := .ref C :: PySem.Xz.tail2 T0, ns := N, qualname := q, hasDict := true, slotNames := sn, subclasses := sub, abstract := ab, collection := col, hasDel := false }, T0, ?_, rfl, rfl⟩
  unfold PySem.W.clsIn
  rw [hC] <;> rfl
section
variable {X : Cx} {pins : List (Addr × Obj)} {σ : L2.St} {H : Hp} {s : Shared} {a C : Addr} {f x qual : Str} {y : V} {u : Value} {st : Stmt} {A : Around} {E : Value → Shared → Prop} {Q : Unit → Shared → Prop}
/-- the exception that is being made gets its dict -/
theorem set_first (T : Xv X.K X.mg C x f qual st) (I : Inv X pins σ H s) (is : H a = some (exo a C none)) (ry : RelV y u)
    (go : ∀ dx s', H dx = none → dx ≠ a → Inv X pins σ (upd (upd H dx (exd dx [(f, y)])) a (exo a C (some dx))) s' → Q () s') : wpAny (model X.prog X.w) A (setAttr (.ref a) f u) Q E s := by
  obtain ⟨cd, T0, known, order, roomy⟩ := xv_clsIn T
  have ⟨t1, there⟩ := exo_at I.hok is
  rcases s with ⟨hp, gs, dr, tk, os⟩
  apply PySem.W.set_plain I.kIn (od := none) ⟨there, rfl, rfl, trivial⟩ T.sa
  refine PySem.Xz.store_first I.kIn there known order roomy T.no fun h' tk' dx keep above apart now dict => ?_
  have new : H dx = none := I.hok.fresh above
  have under : ∀ {b : Addr} {o : Obj}, hp.get? b = some o → b ≠ dx := fun e => Nat.ne_of_lt (Nat.lt_of_lt_of_le (Heap.lt_size e) above)
  have other : ∀ {b : Addr}, H b = none → b ≠ a := fun {b} n z => by
    rw [z, is] at n
    exact nomatch n
  have at' : ∀ {b : Addr}, b ≠ a → b ≠ dx → upd (upd H dx (exd dx [(f, y)])) a (exo a C (some dx)) b = H b := fun n1 n2 => (upd_ne n1).trans (upd_ne n2)
  have hold : ∀ {b : Addr} {o : HO}, H b = some o → exo a C none ≠ o → upd (upd H dx (exd dx [(f, y)])) a (exo a C (some dx)) b = some o := fun e n => (at' (at_ne is e n) (ne_of_none e new)).trans e
  have U : Un X.fs [] H (upd (upd H dx (exd dx [(f, y)])) a (exo a C (some dx))) hp h' := by
    constructor
    · exact fun b o e n _ _ => keep b o (other n) e
    · exact fun b o e n _ _ => ⟨_, keep b o (other n) e⟩
    · exact fun b o e n _ => (at' (other n) (under e)).trans n
    · intro b o e _
      by_cases z : b = a
      · subst z
        exact ⟨_, now⟩
      · exact ⟨_, keep b o z e⟩
    · exact fun b xs e => hold e exo_tup
    · exact fun b o v e => hold e exo_frz
    · exact fun b ps e => ⟨#[], by rw [Array.append_empty]; exact hold e exo_tbl⟩
  refine go dx _ new apart (I.un (t' := tk') U fun b o e => ?_)
  by_cases z : b = a
  · subst z
    rw [upd_same] at e
    cases e
    exact exo_ok now
  · rw [upd_ne z] at e
    by_cases z2 : b = dx
    · subst z2
      rw [upd_same] at e
      cases e
      exact exd_ok dict (relO_put (fs := []) ry fun _ => trivial)
    · rw [upd_ne z2] at e
      exact (I.hok b o e).stay (fun c v hc q => keep c v (hc.elim (fun w => w ▸ z) fun w => at_ne is w exo_own) q) (fun c hc => hold hc exo_own) fun c xs hc => hold hc exo_tup
/-- self.f = e, the first one -/
theorem ps_first {o e : Expr} {to te : TE} {p' pos : Pos} (T : Xv X.K X.mg C x f qual st) (ho : PE X o to) (he : PE X e te) (hs : swapsWith e (some (.Attribute o f p')) pos.line X.env = pure false := by rfl) :
    PS X (.Assign [.Attribute o f p'] e pos) (fun D σ H => te σ H fun y H1 => to σ H1 fun v H2 => ∃ a, v = .ref a ∧ H2 a = some (exo a C none) ∧ ∀ dx, H2 dx = none → dx ≠ a → D.nx σ (upd (upd H2 dx (exd dx [(f, y)])) a (exo a C (some dx)))) := by
  constructor
  intro pins s σ H D I h
  refine plainObj_wpAny_Assign_Attribute (thn (he.run pins s σ H _ I h) fun v s1 ⟨y, H1, I1, r1, q1⟩ => thn (ho.run pins s1 σ H1 _ I1 q1) fun u s2 ⟨z, H2, I2, r2, a, ez, is, q⟩ => ?_) hs
  subst ez
  cases (show u = Value.ref a from r2)
  exact set_first T I2 is r1 fun dx s' n ne J => ⟨σ, _, J, q dx n ne⟩
end
section
variable {X : Cx} {C : Addr} {f x qual : Str} {st : Stmt} {e : Expr} {te : TE} {k : Nat} {a : Str} {p pos q1 q2 q3 q4 : Pos}
/-- C(e) -/
theorem pmk_v (T : Xv X.K X.mg C x f qual st) (S : FnScope ["self", a] ["self", a] (defScope st)) (hbody : defBody st = [.Assign [.Attribute (.Name "self" q1) f q2] (.Name a q3) q4])
    (hb : Bp "__init__" qual st ["self", a])
    (hv1 : Vis (defScope st) "self") (hv2 : Vis (defScope st) a) (hd : (a == ("__debug__" : Str)) = false) (hcd : (a == ("__classdict__" : Str)) = false)
    (hr : Room (k + 2) X.A) (he : PE X e te) (hg : Gl X x := by rfl) (hdb : (x == ("__debug__" : Str)) = false := by decide) (hst : starEach [e] X.env = (false, eval e X.env) :: starEach [] X.env := by rfl) :
    PMk X (.Call (.Name x p) [e] [] pos) (fun σ H Q => te σ H fun v H1 => ∀ dd, H1 dd = none → Q (.ref C) (some dd) (upd H1 dd (.xd [(f, v)]))) := by
  intro pins s σ H Q I h
  obtain ⟨T0, nm, q, N, bs, sn, sub, ab, col, dd, k0, k1, k2, k3, k5, hC⟩ := T.cls
  obtain ⟨fI, fd, F, iC, tI⟩ := T.init
  refine called_by I hg T.g hdb ?_
  refine PySem.W.callWith_K (h₀ := X.base) I.ok.mod.kin T.k (thn ((pa_cons he pa_nil hst).run pos pins s σ H (fun vs H1 => match vs with | [v] => ∀ dd, H1 dd = none → Q (.ref C) (some dd) (upd H1 dd (.xd [(f, v)])) | _ => False) I h) fun us s1 ⟨vs, H1, I1, r1, q1⟩ => ⟨I1.kIn, ?_⟩) hst
  match vs, r1, q1 with
  | [v], .cons (b := u) ru .nil, q1 =>
  change wpAny _ _ (call (.ref C) [u]) _ _ _
  rcases s1 with ⟨hp, gs, dr, tk, os⟩
  have size : hp.objs.size ≤ hp.objs.size + 1 := Nat.le_succ _
  have new : H1 (hp.objs.size + 1) = none := I1.hok.fresh size
  have keep : ∀ b o, hp.get? b = some o → ((hp.push (PySem.W.kdv_tup [u])).push (PySem.HandSPX.excO C hp.objs.size)).get? b = some o := fun b o e => Heap.get?_push_of_some _ (Heap.get?_push_of_some _ e)
  have there : ((hp.push (PySem.W.kdv_tup [u])).push (PySem.HandSPX.excO C hp.objs.size)).get? (hp.objs.size + 1) = some (PySem.HandSPX.excO C hp.objs.size) := by heap_get
  have I2 : Inv X pins σ (upd H1 (hp.objs.size + 1) (exo (hp.objs.size + 1) C none)) ⟨(hp.push (PySem.W.kdv_tup [u])).push (PySem.HandSPX.excO C hp.objs.size), gs, dr, tk, os⟩ := I1.laid (t' := tk) keep size (exo_ok there)
  have rr : Vals [V.ref (hp.objs.size + 1), v] [Value.ref (hp.objs.size + 1), u] := .cons rfl (.cons ru .nil)
  have short : [u].length ≤ sizeLine := by rw [sizeLine_eq]; exact (by decide : (1 : Nat) ≤ 16777216)
  have heads : ∀ Y : String, (PySem.Xz.tail2 T0).contains (.type Y) = PySem.ESX.exTail.contains (.type Y) := fun Y => by
    show (Value.type Y == Value.ref T0 || PySem.ESX.exTail.contains (.type Y)) = _
    rfl
  refine wpAny_call (PySem.HandSPX.call_own PySem.F.excBase_Exception heads (I1.kIn _ _ hC) (PySem.W.looks_findIn I1.kIn iC) (fun self => PySem.W.bind_fn I1.kIn self tI) short ?_)
  have body : ∀ (cdv : Value) (A : Around) (outer : List Env) (s : Shared) (H : Hp) (E : XK), PSs (cxOf CX0 X.prog X.w X.K X.mg X.base ["self", a] qual (defScope st) fI cdv A outer s H E) (defBody st) _ := fun cdv A outer s H E => by
    rw [hbody]
    exact pss_one (ps_first (X := cxOf CX0 X.prog X.w X.K X.mg X.base ["self", a] qual (defScope st) fI cdv A outer s H E) (C := C) (x := x) (f := f) (qual := qual) (st := st) T (pe_var (i := 0) rfl hv1 (by decide) (by decide)) (pe_var (i := 1) rfl hv2 hd hcd))
  have ran := entered (E := E0) (N := ["self", a]) (ps := ["self", a]) (us := [.ref (hp.objs.size + 1), u]) (Q := fun v' H2 => v' = V.non ∧ ∃ d, H1 d = none ∧ d ≠ hp.objs.size + 1 ∧ H2 = upd (upd (upd H1 (hp.objs.size + 1) (exo (hp.objs.size + 1) C none)) d (exd d [(f, v)])) (hp.objs.size + 1) (exo (hp.objs.size + 1) C (some d))) F S (hr.make C [u] []) (I2.env0.make C [u] []) (by simpa using F.binds hb _ [Value.ref (hp.objs.size + 1), u] I2.kIn rfl) rr rfl (fun cdv _ => body cdv _ _ _ _ _) ?_
  · refine codeAny_mono ran fun r s' out => ?_
    match r, out with
    | .ok (.ret u'), ⟨v', H2, os2, bare2, un2, hok2, rv, ev, d, n1, n2, eH⟩ =>
      subst ev
      rcases s' with ⟨h2, g2, d2, t2, os'⟩
      have ne : hp.objs.size + 1 ≠ d := Ne.symm n2
      refine ⟨rv, mk_end (a := hp.objs.size + 1) (d := d) (fs := [(f, v)]) (raises_own T.s T.t) I1 size keep un2 hok2 os2 bare2 (by rw [eH, upd_same]) (by rw [eH, upd_ne n2, upd_same]) n1 ?_⟩
      have same : upd (del H2 (hp.objs.size + 1)) d (.xd [(f, v)]) = upd H1 d (.xd [(f, v)]) := by
        funext b
        by_cases z : b = d
        · rw [z, upd_same, upd_same]
        · rw [upd_ne z, upd_ne z]
          by_cases z2 : b = hp.objs.size + 1
          · rw [z2, del_same, new]
          · rw [del_ne z2, eH, upd_ne z2, upd_ne z, upd_ne z2]
      rw [same]
      exact q1 d n1
  · refine ⟨v, rfl, .ref (hp.objs.size + 1), rfl, hp.objs.size + 1, rfl, upd_same, fun d n1 n2 => ⟨rfl, d, ?_, n2, rfl⟩⟩
    rw [upd_ne n2] at n1
    exact n1
end
end Ms

/-! PyXv: defs that may raise, exceptions that bear a value, try with several clauses, with names. -/
namespace Ms
open PySem L2 PyProof.Rows
open Mi (Dv MO Sto Sl Rs bnd ME MT MA MS MF Fl MG MGs MI)
/-- an end: a statement's own, or an exception of the class c -/
inductive Fx where
  | fl (f : Fl)
  | ex (c : Nat) (o : Option Nat)
inductive Rx where
  | ok (d : Dv)
  | ex (c : Nat) (o : Option Nat)
abbrev MSX := Sl → Sto → Option (Fx × Sl × Sto)
abbrev MEX := Sl → Sto → Option (Rx × Sto)
abbrev MFX := List Dv → Sto → Option (Rx × Sto)
def xLift (m : MS) : MSX := fun δ G => match m δ G with
  | some (f, δ', G') => some (.fl f, δ', G')
  | none => none
def xSeq (a b : MSX) : MSX := fun δ G => match a δ G with
  | some (.fl .nx, δ1, G1) => b δ1 G1
  | r => r
def xIf (t : MT) (a b : MSX) : MSX := fun δ G => match t δ G with
  | some (true, G1) => a δ G1
  | some (false, G1) => b δ G1
  | none => none
def xRaise (c : Nat) : MSX := fun δ G => some (.ex c none, δ, G)
/-- raise C(e): the exception's dict is a handle -/
def xRaiseV (c : Nat) (f : String) (e : ME) : MSX := fun δ G => match e δ G with
  | some (d, G1) => some (.ex c (some G1.length), δ, G1 ++ [.xd [(f, d)]])
  | none => none
def xExpr (e : MEX) : MSX := fun δ G => match e δ G with
  | some (.ok _, G1) => some (.fl .nx, δ, G1)
  | some (.ex c o, G1) => some (.ex c o, δ, G1)
  | none => none
def xRet (e : MEX) : MSX := fun δ G => match e δ G with
  | some (.ok d, G1) => some (.fl (.rt d), δ, G1)
  | some (.ex c o, G1) => some (.ex c o, δ, G1)
  | none => none
def xMeth (c : Nat) (m : String) (f : MFX) (o : ME) (a : MA) : MEX := fun δ G => match o δ G with
  | some (.ref h, G1) => match G1[h]? with
    | some (.ins c' fs) => if c' = c ∧ fs.lookup m = none then (match a δ G1 with
      | some (xs, G2) => f (.ref h :: xs) G2
      | none => none) else none
    | _ => none
  | _ => none
def xMethK (c : Nat) (m : String) (f : MFX) (ix : List Nat) (o : ME) (kw : MA) : MEX := fun δ G => match o δ G with
  | some (.ref h, G1) => match G1[h]? with
    | some (.ins c' fs) => if c' = c ∧ fs.lookup m = none then (match kw δ G1 with
      | some (ys, G2) => f (ix.map fun i => (.ref h :: ys).getD i .non) G2
      | none => none) else none
    | _ => none
  | _ => none
def xDef (n l : Nat) (b : MSX) : MFX := fun xs G => if xs.length = n then match b (xs.map some ++ List.replicate l none) G with
  | some (.fl .nx, _, G') => some (.ok .non, G')
  | some (.fl (.rt d), _, G') => some (.ok d, G')
  | some (.ex c o, _, G') => some (.ex c o, G')
  | _ => none else none
/-- where the exception's dict lies -/
def ExD (ρ : Rh) : Option Nat → Option Addr → Prop
  | none, d => d = none
  | some h, d => ∃ a, ρ.r[h]? = some a ∧ d = some a
/-! ### readings -/
def KoX (K : PySem.W.Frag) (kx : Kx) (ρ : Rh) (H : Hp) (r : Fx) (δ' : Sl) (G' : Sto) (W : WX) (D : Ends) : Prop := match r with
  | .fl f => Ko K kx ρ H f δ' G' D
  | .ex c o => ∀ ρ' σ' H' da, Gr ρ H ρ' H' → Rl K kx ρ' G' H' → Sr K ρ' H' δ' σ' → ExD ρ' o da → W (.ref (kx.ca c)) da σ' H'
theorem KoX.gr {K : PySem.W.Frag} {kx : Kx} {ρ ρ1 : Rh} {H H1 : Hp} {r : Fx} {δ' : Sl} {G' : Sto} {W : WX} {D : Ends} (g : Gr ρ H ρ1 H1) (k : KoX K kx ρ H r δ' G' W D) : KoX K kx ρ1 H1 r δ' G' W D := by
  cases r with
  | fl f => exact Ko.gr g k
  | ex c o => exact fun ρ' σ' H' da g' r s => k ρ' σ' H' da (g.trans g') r s
def sX (K : PySem.W.Frag) (kx : Kx) (W : WX) (m : MSX) : TS := fun D σ H => ∃ (ρ : Rh) (G : Sto) (δ : Sl) (r : Fx) (δ' : Sl) (G' : Sto), Rl K kx ρ G H ∧ Sr K ρ H δ σ ∧ m δ G = some (r, δ', G') ∧ KoX K kx ρ H r δ' G' W D
def KeX (K : PySem.W.Frag) (kx : Kx) (ρ : Rh) (H : Hp) (r : Rx) (G' : Sto) (Q : VK) (E : XK) : Prop := match r with
  | .ok d => ∀ v ρ' H', Gr ρ H ρ' H' → Rl K kx ρ' G' H' → DR K ρ' H' d v → Q v H'
  | .ex c o => ∀ ρ' H' da, Gr ρ H ρ' H' → Rl K kx ρ' G' H' → ExD ρ' o da → E (.ref (kx.ca c)) da H'
theorem KeX.gr {K : PySem.W.Frag} {kx : Kx} {ρ ρ1 : Rh} {H H1 : Hp} {r : Rx} {G' : Sto} {Q : VK} {E : XK} (g : Gr ρ H ρ1 H1) (q : KeX K kx ρ H r G' Q E) : KeX K kx ρ1 H1 r G' Q E := by
  cases r with
  | ok d => exact fun v ρ' H' g' r d => q v ρ' H' (g.trans g') r d
  | ex c o => exact fun ρ' H' da g' r => q ρ' H' da (g.trans g') r
def tX (K : PySem.W.Frag) (kx : Kx) (W : WX) (m : MEX) : TE := fun σ H Q => ∃ (ρ : Rh) (G : Sto) (δ : Sl) (r : Rx) (G' : Sto), Rl K kx ρ G H ∧ Sr K ρ H δ σ ∧ m δ G = some (r, G') ∧ KeX K kx ρ H r G' Q (WE W σ)
/-- the def at f does what the mirror's function mf does, or raises what that raises -/
structure FnX (P : Program) (w : World) (K : PySem.W.Frag) (kx : Kx) (mg : Str → Option Value) (base : Heap) (k : Nat) (f : Addr) (fd : FuncData) (ps : List Str) (mf : MFX) : Prop where
  ar : ∀ ds G r, mf ds G = some r → ds.length = ps.length
  run : ∀ (A : Around) (outer : List Env) (s : Shared) (H : Hp) (args : Args) (us : List Value) (vs : List V) (Q : VK) (E : XK) (ρ : Rh) (G : Sto) (ds : List Dv) (r : Rx) (G' : Sto), A.guards = some [] → Room k A → Env0 P w K mg base A outer s H →
    BindsTo s fd args (ps.zip us) → Vals vs us → Rl K kx ρ G H → DRs K ρ H ds vs → mf ds G = some (r, G') → KeX K kx ρ H r G' Q E →
    codeAny (model P w) A (.call (.ref f) args) (CR (L2.CX P w) outer P w H s Q E) s
theorem FnX.mono {P : Program} {w : World} {K : PySem.W.Frag} {kx : Kx} {mg : Str → Option Value} {base : Heap} {j k : Nat} {f : Addr} {fd : FuncData} {ps : List Str} {mf : MFX} (F : FnX P w K kx mg base j f fd ps mf) (h : j ≤ k) : FnX P w K kx mg base k f fd ps mf :=
  ⟨F.ar, fun A outer s H args us vs Q E ρ G ds d G' hG hr => F.run A outer s H args us vs Q E ρ G ds d G' hG (hr.mono h)⟩
/-- a statement that lets nothing out does so in a context that would take something -/
theorem _root_.L2.PS.nox {X : Cx} {st : Stmt} {t : TS} (h : PS X.nox st t) : PS X st t := by
  constructor
  intro pins s σ H D inv read
  have ran := h.run pins s σ H D (inv.wish fun _ _ => False) read
  apply wpAny_mono ran
  · intro flow after ended
    exact ended.unwish
  · intro _ _ impossible
    exact impossible.elim
/-- a class of the text that is an exception's is met by an except clause that names it -/
theorem exm_self {K : PySem.W.Frag} {S : Addr} (below : PySem.W.subIn K (.ref S) (.type "BaseException") = some true) (own : (PySem.W.clsIn K S).isSome = true) (kind : PySem.W.typeIn K (.ref S) = some (.type "type")) (itself : PySem.W.subIn K (.ref S) (.ref S) = some true) : PySem.W.exmOne K (.ref S) (.ref S) = some true := by
  simp only [PySem.W.exmOne, PySem.W.kitCls, PySem.W.kitOne, below, own, kind, itself, beq_self_eq_true, Bool.and_self, if_true, Bool.true_and]
section
variable {X : Cx} {W : WX} {kx : Kx} {e a b c o : Expr} {ma mb mc me mo : ME} {mt : MT} {pos p apos pos' : Pos} {st : Stmt} {rest es : List Expr} {mas mks : MA} {ms : MS} {m1 m2 : MSX} {mx : MEX} {bs ta tb : List Stmt} {k cn : Nat} {f : Addr} {fd : FuncData} {ps : List Str} {mf : MFX} {x : Str}
/-! ### statements -/
theorem x_lift (h : PS X.nox st (sM X.K kx ms)) : PS X st (sX X.K kx W (xLift ms)) := h.nox.imp fun D σ H ⟨ρ, G, δ, r, δ', G', rl, sr, e, k⟩ => by
  unfold xLift at e
  split at e
  · rename_i f δ1 G1 e1
    cases e
    exact ⟨ρ, G, δ, f, _, _, rl, sr, e1, k⟩
  · cases e
theorem xs_lift (h : PSs X.nox bs (sM X.K kx ms)) : PSs X bs (sX X.K kx W (xLift ms)) := h.nox.imp fun D σ H ⟨ρ, G, δ, r, δ', G', rl, sr, e, k⟩ => by
  unfold xLift at e
  split at e
  · rename_i f δ1 G1 e1
    cases e
    exact ⟨ρ, G, δ, f, _, _, rl, sr, e1, k⟩
  · cases e
theorem x_one (h : PS X st (sX X.K kx W m1)) : PSs X [st] (sX X.K kx W m1) := pss_one h
theorem x_seq (h1 : PS X st (sX X.K kx W m1)) (h2 : PSs X bs (sX X.K kx W m2)) : PSs X (st :: bs) (sX X.K kx W (xSeq m1 m2)) := (pss_cons h1 h2).imp fun D σ H ⟨ρ, G, δ, f, δ', G', rl, sr, e, k⟩ => by
  unfold xSeq at e
  split at e
  · rename_i δ1 G1 ea
    exact ⟨ρ, G, δ, .fl .nx, δ1, G1, rl, sr, ea, fun ρ1 σ1 H1 g r s => ⟨ρ1, G1, δ1, f, δ', G', r, s, e, k.gr g⟩⟩
  · rename_i hne
    refine ⟨ρ, G, δ, f, δ', G', rl, sr, e, ?_⟩
    cases f with
    | ex c o => exact k
    | fl f =>
      intro ρ1 σ1 H1 g r s
      have := k ρ1 σ1 H1 g r s
      cases f with
      | nx => exact absurd e (hne δ' G')
      | rt d => exact this
      | bk => exact this
      | ct => exact this
theorem x_if (hc : PT X.nox c (tMT X.K kx mt)) (ha : PSs X ta (sX X.K kx W m1)) (hb : PSs X tb (sX X.K kx W m2)) : PS X (.If c ta tb pos) (sX X.K kx W (xIf mt m1 m2)) := (ps_if hc.nox ha hb).imp fun D σ H ⟨ρ, G, δ, f, δ', G', rl, sr, e, k⟩ => by
  unfold xIf at e
  split at e
  · rename_i G1 e1
    refine ⟨ρ, G, δ, true, G1, rl, sr, e1, fun ρ1 H1 g1 r1 => ?_⟩
    dsimp only
    rw [if_pos rfl]
    exact ⟨ρ1, G1, δ, f, δ', G', r1, sr.gr g1, e, k.gr g1⟩
  · rename_i G1 e1
    refine ⟨ρ, G, δ, false, G1, rl, sr, e1, fun ρ1 H1 g1 r1 => ?_⟩
    dsimp only
    rw [if_neg (fun z => Bool.false_ne_true z)]
    exact ⟨ρ1, G1, δ, f, δ', G', r1, sr.gr g1, e, k.gr g1⟩
  · cases e
theorem x_expr (he : PE X e (tX X.K kx W mx)) (hs : swapsWith e none pos.line X.env = pure false := by rfl) : PS X (.Expr e pos) (sX X.K kx W (xExpr mx)) := (ps_expr he hs).imp fun D σ H ⟨ρ, G, δ, f, δ', G', rl, sr, e, k⟩ => by
  unfold xExpr at e
  split at e
  · rename_i d G1 e1
    cases e
    exact ⟨ρ, G, δ, .ok d, _, rl, sr, e1, fun v ρ1 H1 g1 r1 d1 => k ρ1 σ H1 g1 r1 (sr.gr g1)⟩
  · rename_i c o G1 e1
    cases e
    exact ⟨ρ, G, δ, .ex c o, _, rl, sr, e1, fun ρ1 H1 da g1 r1 => k ρ1 σ H1 da g1 r1 (sr.gr g1)⟩
  · cases e
theorem x_ret (he : PE X e (tX X.K kx W mx)) : PS X (.Return (some e) pos) (sX X.K kx W (xRet mx)) := (ps_ret he).imp fun D σ H ⟨ρ, G, δ, f, δ', G', rl, sr, e, k⟩ => by
  unfold xRet at e
  split at e
  · rename_i d G1 e1
    cases e
    exact ⟨ρ, G, δ, .ok d, _, rl, sr, e1, fun v ρ1 H1 g1 r1 d1 => k ρ1 σ H1 g1 r1 (sr.gr g1) v d1⟩
  · rename_i c o G1 e1
    cases e
    exact ⟨ρ, G, δ, .ex c o, _, rl, sr, e1, fun ρ1 H1 da g1 r1 => k ρ1 σ H1 da g1 r1 (sr.gr g1)⟩
  · cases e
/-! ### raise C() -/
def bmExc : List Value := [.type "Exception", .type "BaseException", .type "object"]
/-- C is an exception class of the program without own __init__, below Exception -/
structure Xc (K : PySem.W.Frag) (mg : Str → Option Value) (C : Addr) (x : Str) : Prop where
  g : mg x = some (.ref C)
  q : PySem.W.excIn K C bmExc "Exception.__new__" = true
  k : PySem.W.keepIn K (.ref C) = true
  s : PySem.W.subIn K (.ref C) (.type "BaseException") = some true
  t : PySem.W.typeIn K (.ref C) = some (.type "type")
  m : PySem.W.exmOne K (.ref C) (.ref C) = some true
theorem pmk_own0 {C : Addr} (T : Xc X.K X.mg C x) (hg : Gl X x) (hdb : (x == ("__debug__" : Str)) = false := by decide) : PMk X (.Call (.Name x p) [] [] pos) (fun _ H Q => Q (.ref C) none H) := by
  intro pins s σ H Q I h
  refine called_by I hg T.g hdb ?_
  refine PySem.W.callWith_K0 I.kIn T.k ?_
  show wpAny _ _ (call (.ref C) []) _ _ _
  obtain ⟨bm, N, nm, qn, bs, hdct, sn, sub, ab, col, dd, k0, k1, k2, k3, k5, mN, hC, hN, hni, TT⟩ := exc_obj I.kIn T.q
  refine wpAny_call_exc_subT PySem.F.excBase_Exception TT hC hN hni (fun h' e hm => ?_) (Nat.zero_le _)
  exact mk_of I hm (raises_own T.s T.t) h (I.hok.gone hm.new)
theorem x_raise (hc : X.calm = true) (tk : Takes X W) (T : Xc X.K X.mg (kx.ca cn) x) (hg : Gl X x := by rfl) (hdb : (x == ("__debug__" : Str)) = false := by decide) : PS X (.Raise (some (.Call (.Name x p) [] [] pos)) none pos') (sX X.K kx W (xRaise cn)) :=
  (ps_raise hc tk (pmk_own0 T hg hdb)).imp fun D σ H ⟨ρ, G, δ, f, δ', G', rl, sr, e, k⟩ => by
  cases e
  exact k ρ σ H none Gr.refl rl sr rfl
/-! ### calls of methods that may raise -/
theorem run_x {pins : List (Addr × Obj)} {σ : L2.St} {H : Hp} {s : Shared} {Q : VK} {us : List Value} {vs : List V} {kw : List (Str × Value)} {ws : List Value} {ρ : Rh} {G : Sto} {ds : List Dv} {r : Rx} {G' : Sto} (F : FnX X.prog X.w X.K kx X.mg X.base k f fd ps mf) (hG : X.A.guards = some []) (hr : Room k X.A) (tk : Takes X W)
    (I : Inv X pins σ H s) (hb : BindsTo s fd ⟨us, kw⟩ (ps.zip ws)) (rv : Vals vs ws) (rl : Rl X.K kx ρ G H) (dr : DRs X.K ρ H ds vs) (e : mf ds G = some (r, G'))
    (q : KeX X.K kx ρ H r G' Q (WE W σ)) :
    wpAny (model X.prog X.w) X.A (call (.ref f) us kw) (EP X pins σ Q) X.xe s := by
  refine wpAny_call (codeAny_mono (F.run X.A X.stack s H ⟨us, kw⟩ ws vs Q (WE W σ) ρ G ds r G' hG hr I.env0 hb rv rl dr e q) fun res s' h => ?_)
  match res, h with
  | .error e, out => exact passAt tk σ pins H s e s' I out
  | .ok (.ret u), back => exact I.after back
theorem x_meth {m : String} {pl : Sem Bool} (ho : PE X.nox o (tM X.K kx mo)) (hc : Cls X.K (kx.ca cn)) (hm : Meth X.K (kx.ca cn) (Str.ofString m) f) (F : FnX X.prog X.w X.K kx X.mg X.base k f fd ps mf) (hG : X.A.guards = some []) (hr : Room k X.A) (tk : Takes X W) (hb : Binds X.K fd ps []) (ha : PA X (e :: es) (tMA X.K kx mas))
    (hst : Es X e es := by rfl) (hpl : Np X pos es := by rfl)
    (ht : eval (.Call (.Attribute o (Str.ofString m) apos) (e :: es) [] pos) X.env = (do let ov ← eval o X.env; standAt apos.atName; let (f, first) ← holding [ov] (getMethod ov (Str.ofString m) pl); callWith pos f first (backTo pos (starEach (e :: es) X.env)) (backToKw pos (keywordEach [] X.env))) := by rfl) :
    PE X (.Call (.Attribute o (Str.ofString m) apos) (e :: es) [] pos) (tX X.K kx W (xMeth cn m mf mo mas)) := ⟨fun pins s σ H Q I h => by
  obtain ⟨ρ, G, δ, d, G', rl, sr, e0, q⟩ := h
  unfold xMeth at e0
  split at e0
  · rename_i h G1 e1
    refine PySem.W.methodCall_KW (pl := pl) (thn (ho.nox.run pins s σ H (fun v H1 => ∃ ρ1, Gr ρ H ρ1 H1 ∧ Rl X.K kx ρ1 G1 H1 ∧ DR X.K ρ1 H1 (.ref h) v) I ⟨ρ, G, δ, _, G1, rl, sr, e1, fun v ρ1 H1 g r d => ⟨ρ1, g, r, d⟩⟩) fun u s1 ⟨v, H1, I1, rx, ρ1, g1, r1, d1⟩ => ?_) ht
    split at e0
    · rename_i c' fs eh
      split at e0
      · rename_i hz
        obtain ⟨hz1, hz2⟩ := hz
        subst hz1
        split at e0
        · rename_i ds G2 e3
          cases d1 with
          | @ref _ ad ea =>
            obtain ⟨dx, fs', h1, fr⟩ := ins_at r1 eh ea
            obtain rfl : u = Value.ref ad := rx
            refine getmeth_ok I1 h1 hc hm ((flook_ok fr).2 hz2) ?_
            refine PySem.W.callWith_K (first := [.ref ad]) (h₀ := X.base) I.ok.mod.kin hm.kp (thn (ha.run pos pins s1 σ H1 (fun vs H2 => ∃ ρ2, Gr ρ1 H1 ρ2 H2 ∧ Rl X.K kx ρ2 G2 H2 ∧ DRs X.K ρ2 H2 ds vs) I1 ⟨ρ1, G1, δ, ds, G2, r1, sr.gr g1, e3, fun vs ρ2 H2 g r d => ⟨ρ2, g, r, d⟩⟩) fun us s2 ⟨vs, H2, I2, r, ρ2, g2, r2, d2⟩ => ⟨I2.kIn, ?_⟩) hst hpl
            have dd : DRs X.K ρ2 H2 (.ref h :: ds) (.ref ad :: vs) := .cons ((DR.ref ea).gr g2) d2
            have rr : Vals (V.ref ad :: vs) (Value.ref ad :: us) := .cons rfl r
            have hb' := hb s2 (Value.ref ad :: us) I2.kIn (lenOf (F.ar _ _ _ e0) dd rr)
            rw [List.append_nil] at hb'
            exact run_x F hG hr tk I2 hb' rr r2 dd e0 (q.gr (g1.trans g2))
        · cases e0
      · cases e0
    · cases e0
  · cases e0⟩
theorem x_meth0 {m : String} {pl : Sem Bool} (ho : PE X.nox o (tM X.K kx mo)) (hc : Cls X.K (kx.ca cn)) (hm : Meth X.K (kx.ca cn) (Str.ofString m) f) (F : FnX X.prog X.w X.K kx X.mg X.base k f fd ps mf) (hG : X.A.guards = some []) (hr : Room k X.A) (tk : Takes X W) (hb : Binds X.K fd ps [])
    (ht : eval (.Call (.Attribute o (Str.ofString m) apos) [] [] pos) X.env = (do let ov ← eval o X.env; standAt apos.atName; let (f, first) ← holding [ov] (getMethod ov (Str.ofString m) pl); callWith pos f first (backTo pos (starEach [] X.env)) (backToKw pos (keywordEach [] X.env))) := by rfl) :
    PE X (.Call (.Attribute o (Str.ofString m) apos) [] [] pos) (tX X.K kx W (xMeth cn m mf mo Mi.mNil)) := ⟨fun pins s σ H Q I h => by
  obtain ⟨ρ, G, δ, d, G', rl, sr, e0, q⟩ := h
  unfold xMeth at e0
  split at e0
  · rename_i h G1 e1
    refine PySem.W.methodCall_KW (pl := pl) (thn (ho.nox.run pins s σ H (fun v H1 => ∃ ρ1, Gr ρ H ρ1 H1 ∧ Rl X.K kx ρ1 G1 H1 ∧ DR X.K ρ1 H1 (.ref h) v) I ⟨ρ, G, δ, _, G1, rl, sr, e1, fun v ρ1 H1 g r d => ⟨ρ1, g, r, d⟩⟩) fun u s1 ⟨v, H1, I1, rx, ρ1, g1, r1, d1⟩ => ?_) ht
    split at e0
    · rename_i c' fs eh
      split at e0
      · rename_i hz
        obtain ⟨hz1, hz2⟩ := hz
        subst hz1
        have e4 : mf [.ref h] G1 = some (d, G') := e0
        cases d1 with
        | @ref _ ad ea =>
          obtain ⟨dx, fs', h1, fr⟩ := ins_at r1 eh ea
          obtain rfl : u = Value.ref ad := rx
          refine getmeth_ok I1 h1 hc hm ((flook_ok fr).2 hz2) ?_
          have dd : DRs X.K ρ1 H1 [.ref h] [.ref ad] := .cons (.ref ea) .nil
          have rr : Vals [V.ref ad] [Value.ref ad] := .cons rfl .nil
          have hb' := hb s1 [Value.ref ad] I1.kIn (lenOf (F.ar _ _ _ e4) dd rr)
          exact PySem.W.callWith_K0 (first := [.ref ad]) I1.kIn hm.kp (run_x (us := [.ref ad]) F hG hr tk I1 hb' rr r1 dd e4 (q.gr g1))
      · cases e0
    · cases e0
  · cases e0⟩
/-- o.m(k = v, ..) -/
theorem x_methK0 {kws : List Keyword} {ks : List Str} {ix : List Nat} {m : String} {pl : Sem Bool} (ho : PE X.nox o (tM X.K kx mo)) (hc : Cls X.K (kx.ca cn)) (hm : Meth X.K (kx.ca cn) (Str.ofString m) f) (F : FnX X.prog X.w X.K kx X.mg X.base k f fd ps mf) (hG : X.A.guards = some []) (hr : Room k X.A) (tk : Takes X W) (hb : KBm fd ps ks 1 ix) (hl : Len mks ks.length) (hkw : PK X kws (tMA X.K kx mks))
    (hall : Ka X pos kws := by rfl) (hks : Ks X pos kws ks := by rfl)
    (hpl : ((backTo pos (starEach [] X.env)).any (·.1) || (backToKw pos (keywordEach kws X.env)).any (·.1.isNone)) = false := by rfl)
    (ht : eval (.Call (.Attribute o (Str.ofString m) apos) [] kws pos) X.env = (do let ov ← eval o X.env; standAt apos.atName; let (f, first) ← holding [ov] (getMethod ov (Str.ofString m) pl); callWith pos f first (backTo pos (starEach [] X.env)) (backToKw pos (keywordEach kws X.env))) := by rfl) :
    PE X (.Call (.Attribute o (Str.ofString m) apos) [] kws pos) (tX X.K kx W (xMethK cn m mf ix mo mks)) := ⟨fun pins s σ H Q I h => by
  obtain ⟨ρ, G, δ, d, G', rl, sr, e0, q⟩ := h
  unfold xMethK at e0
  split at e0
  · rename_i h G1 e1
    refine PySem.W.methodCall_KW (pl := pl) (thn (ho.nox.run pins s σ H (fun v H1 => ∃ ρ1, Gr ρ H ρ1 H1 ∧ Rl X.K kx ρ1 G1 H1 ∧ DR X.K ρ1 H1 (.ref h) v) I ⟨ρ, G, δ, _, G1, rl, sr, e1, fun v ρ1 H1 g r d => ⟨ρ1, g, r, d⟩⟩) fun u s1 ⟨v, H1, I1, rx, ρ1, g1, r1, d1⟩ => ?_) ht
    split at e0
    · rename_i c' fs eh
      split at e0
      · rename_i hz
        obtain ⟨hz1, hz2⟩ := hz
        subst hz1
        split at e0
        · rename_i ds G2 e3
          cases d1 with
          | @ref _ ad ea =>
            obtain ⟨dx, fs', h1, fr⟩ := ins_at r1 eh ea
            obtain rfl : u = Value.ref ad := rx
            refine getmeth_ok I1 h1 hc hm ((flook_ok fr).2 hz2) ?_
            refine PySem.W.callWith_KW0 (first := [.ref ad]) (h₀ := X.base) I.ok.mod.kin hm.kp hall (thn (hkw.run pos pins s1 σ H1 (fun vs H2 => ∃ ρ2, Gr ρ1 H1 ρ2 H2 ∧ Rl X.K kx ρ2 G2 H2 ∧ DRs X.K ρ2 H2 ds vs) I1 ⟨ρ1, _, δ, ds, G2, r1, sr.gr g1, e3, fun vs ρ2 H2 g r d => ⟨ρ2, g, r, d⟩⟩) fun us s2 ⟨vs, H2, I2, r, ρ2, g2, r2, d2⟩ => ⟨I2.kIn, ?_⟩) hpl
            rw [hks]
            have hlen : us.length = ks.length := by rw [← r.length, ← d2.len]; exact hl _ _ _ _ e3
            have dd : DRs X.K ρ2 H2 (.ref h :: ds) (.ref ad :: vs) := .cons ((DR.ref ea).gr g2) d2
            have rr : Vals (V.ref ad :: vs) (Value.ref ad :: us) := .cons rfl r
            have hb' := hb s2 [Value.ref ad] us rfl hlen
            exact run_x (us := [.ref ad]) F hG hr tk I2 hb' (pick_vals rr ix) r2 (pick_dr dd ix) e0 (q.gr (g1.trans g2))
        · cases e0
      · cases e0
    · cases e0
  · cases e0⟩
end
/-- the same of a mirror's def that may raise -/
theorem xdef_args {n l : Nat} {mb : MSX} {ds : List Dv} {G : Sto} {r : Rx × Sto} (e : xDef n l mb ds G = some r) : ds.length = n := by
  unfold xDef at e
  exact Decidable.byContradiction fun z => by rw [if_neg z] at e; cases e
theorem xdef_body {n l : Nat} {mb : MSX} {ds : List Dv} {G G' : Sto} {r : Rx} (e : xDef n l mb ds G = some (r, G')) :
    ∃ fx δ', mb (ds.map some ++ List.replicate l none) G = some (fx, δ', G') ∧ ((fx = .fl .nx ∧ r = .ok .non) ∨ (∃ d, fx = .fl (.rt d) ∧ r = .ok d) ∨ ∃ c o, fx = .ex c o ∧ r = .ex c o) := by
  have z := xdef_args e
  unfold xDef at e
  rw [if_pos z] at e
  split at e
  · rename_i δ' G2 eb
    cases e
    exact ⟨_, δ', eb, .inl ⟨rfl, rfl⟩⟩
  · rename_i d δ' G2 eb
    cases e
    exact ⟨_, δ', eb, .inr (.inl ⟨d, rfl, rfl⟩)⟩
  · rename_i c o δ' G2 eb
    cases e
    exact ⟨_, δ', eb, .inr (.inr ⟨c, o, rfl, rfl⟩)⟩
  · cases e
/-- a def (or method) of the text that may raise -/
theorem fn_x {P : Program} {w : World} {K : PySem.W.Frag} {kx : Kx} {mg : Str → Option Value} {base : Heap} {k l : Nat} {x qual : Str} {st : Stmt} {f : Addr} {fd : FuncData} {N ps : List Str} {mb : MSX} (F : Fun K x qual st f fd) (S : FnScope N ps (defScope st)) (hN : N.length = ps.length + l)
    (hbody : ∀ (cdv : Value) (A : Around) (outer : List Env) (s : Shared) (H : Hp) (E : XK), Room k (A.deeper (envOfC qual (defScope st) s.heap.objs.size f cdv)) → A.guards = some [] →
      Takes (cxOf (L2.CX P w) P w K mg base N qual (defScope st) f cdv A outer s H E) (fun cls d _ H => E cls d H) →
      PSs (cxOf (L2.CX P w) P w K mg base N qual (defScope st) f cdv A outer s H E) (defBody st) (sX K kx (fun cls d _ H => E cls d H) mb)) :
    FnX P w K kx mg base (k + 1) f fd ps (xDef ps.length l mb) := by
  refine ⟨fun _ _ _ e => xdef_args e, fun A outer s H args us vs Q E ρ G ds r G' quiet hr env hb rv rl dr e q => ?_⟩
  have hl : vs.length = ps.length := dr.len ▸ xdef_args e
  obtain ⟨fx, δ', eb, out⟩ := xdef_body e
  refine entered F S hr env hb rv hl (fun cdv deep => hbody cdv A outer s H E deep quiet (takes_of rfl rfl rfl rfl)) ⟨ρ, G, _, fx, δ', G', rl, sr_start dr (by rw [hN, hl]), eb, ?_⟩
  rcases out with ⟨rfl, rfl⟩ | ⟨d, rfl, rfl⟩ | ⟨c, o, rfl, rfl⟩
  · exact fun ρ' σ' H' g r' _ => q _ ρ' H' g r' .non
  · exact fun ρ' σ' H' g r' _ v dv => q v ρ' H' g r' dv
  · exact fun ρ' σ' H' da g r' _ => q ρ' H' da g r'
/-! ### bundles -/
structure MetX (P : Program) (w : World) (K : PySem.W.Frag) (kx : Kx) (mg : Str → Option Value) (base : Heap) (k cn : Nat) (m qual : Str) (st : Stmt) (ps : List Str) (mf : MFX) : Prop where
  ex : ∃ f fd, Fun K m qual st f fd ∧ Cls K (kx.ca cn) ∧ Meth K (kx.ca cn) m f ∧ FnX P w K kx mg base k f fd ps mf ∧ Binds K fd ps []
abbrev BdyX (P : Program) (w : World) (K : PySem.W.Frag) (kx : Kx) (mg : Str → Option Value) (base : Heap) (k : Nat) (N : List Str) (qual : Str) (st : Stmt) (mb : MSX) : Prop :=
  ∀ (f : Addr) (cdv : Value) (A : Around) (outer : List Env) (s : Shared) (H : Hp) (E : XK), Room k (A.deeper (envOfC qual (defScope st) s.heap.objs.size f cdv)) → A.guards = some [] →
    Takes (cxOf (L2.CX P w) P w K mg base N qual (defScope st) f cdv A outer s H E) (fun cls d _ H => E cls d H) →
    PSs (cxOf (L2.CX P w) P w K mg base N qual (defScope st) f cdv A outer s H E) (defBody st) (sX K kx (fun cls d _ H => E cls d H) mb)
theorem mex_of {P : Program} {w : World} {K : PySem.W.Frag} {kx : Kx} {mg : Str → Option Value} {base : Heap} {k l cn : Nat} {m qual : Str} {st : Stmt} {N ps : List Str} {mb : MSX} (c : Cls K (kx.ca cn)) (D : Dfm K (kx.ca cn) m qual st) (S : FnScope N ps (defScope st)) (hN : N.length = ps.length + l) (hb : Bp m qual st ps)
    (b : BdyX P w K kx mg base k N qual st mb) : MetX P w K kx mg base (k + 1) cn m qual st ps (xDef ps.length l mb) := by
  obtain ⟨f, fd, F, hm⟩ := D.ex
  exact ⟨f, fd, F, c, hm, fn_x F S hN (b f), F.binds hb⟩
section
variable {X : Cx} {W : WX} {kx : Kx} {e o : Expr} {mo : ME} {pos p apos : Pos} {es : List Expr} {mas mks : MA} {k cn : Nat} {st : Stmt} {ps : List Str} {mf : MFX} {qual : Str}
theorem x_mt {m : String} {pl : Sem Bool} (c : MetX X.prog X.w X.K kx X.mg X.base k cn (Str.ofString m) qual st ps mf) (hG : X.A.guards = some []) (hr : Room k X.A) (tk : Takes X W) (ho : PE X.nox o (tM X.K kx mo)) (ha : PA X (e :: es) (tMA X.K kx mas))
    (hst : Es X e es := by rfl) (hpl : Np X pos es := by rfl)
    (ht : eval (.Call (.Attribute o (Str.ofString m) apos) (e :: es) [] pos) X.env = (do let ov ← eval o X.env; standAt apos.atName; let (f, first) ← holding [ov] (getMethod ov (Str.ofString m) pl); callWith pos f first (backTo pos (starEach (e :: es) X.env)) (backToKw pos (keywordEach [] X.env))) := by rfl) :
    PE X (.Call (.Attribute o (Str.ofString m) apos) (e :: es) [] pos) (tX X.K kx W (xMeth cn m mf mo mas)) := by
  obtain ⟨f, fd, F, hc, hm, G, b⟩ := c.ex
  exact x_meth ho hc hm G hG hr tk b ha hst hpl ht
theorem x_mt0 {m : String} {pl : Sem Bool} (c : MetX X.prog X.w X.K kx X.mg X.base k cn (Str.ofString m) qual st ps mf) (hG : X.A.guards = some []) (hr : Room k X.A) (tk : Takes X W) (ho : PE X.nox o (tM X.K kx mo))
    (ht : eval (.Call (.Attribute o (Str.ofString m) apos) [] [] pos) X.env = (do let ov ← eval o X.env; standAt apos.atName; let (f, first) ← holding [ov] (getMethod ov (Str.ofString m) pl); callWith pos f first (backTo pos (starEach [] X.env)) (backToKw pos (keywordEach [] X.env))) := by rfl) :
    PE X (.Call (.Attribute o (Str.ofString m) apos) [] [] pos) (tX X.K kx W (xMeth cn m mf mo Mi.mNil)) := by
  obtain ⟨f, fd, F, hc, hm, G, b⟩ := c.ex
  exact x_meth0 ho hc hm G hG hr tk b ht
theorem x_mtK0 {kws : List Keyword} {ks : List Str} {ix : List Nat} {m : String} {pl : Sem Bool} (c : MetX X.prog X.w X.K kx X.mg X.base k cn (Str.ofString m) qual st ps mf) (hG : X.A.guards = some []) (hr : Room k X.A) (tk : Takes X W) (hb : Bk (Str.ofString m) qual st ps ks 1 ix) (hl : Len mks ks.length) (ho : PE X.nox o (tM X.K kx mo)) (hkw : PK X kws (tMA X.K kx mks))
    (hall : Ka X pos kws := by rfl) (hks : Ks X pos kws ks := by rfl)
    (hpl : ((backTo pos (starEach [] X.env)).any (·.1) || (backToKw pos (keywordEach kws X.env)).any (·.1.isNone)) = false := by rfl)
    (ht : eval (.Call (.Attribute o (Str.ofString m) apos) [] kws pos) X.env = (do let ov ← eval o X.env; standAt apos.atName; let (f, first) ← holding [ov] (getMethod ov (Str.ofString m) pl); callWith pos f first (backTo pos (starEach [] X.env)) (backToKw pos (keywordEach kws X.env))) := by rfl) :
    PE X (.Call (.Attribute o (Str.ofString m) apos) [] kws pos) (tX X.K kx W (xMethK cn m mf ix mo mks)) := by
  obtain ⟨f, fd, F, hc, hm, G, b⟩ := c.ex
  exact x_methK0 ho hc hm G hG hr tk (F.kbm hb) hl hkw hall hks hpl ht
end
end Ms

/-! PyEq: a == b, instances of a class without an __eq__ of its own. -/
namespace Ms
open PySem L2 PyProof.Rows
open Mi (Dv MO Sto Sl Rs bnd ME MT MA MS MF Fl MG MGs MI)
/-- the class at C: right under object, without an __eq__ or a __ne__ of its own -/
structure EqC (K : PySem.W.Frag) (C : Addr) : Prop where
  ex : ∃ (nm q : Str) (N : Addr) (bs : List Value) (sn : List Str) (sub : List Value) (ab : Bool) (col : Option Bool) (dd : Option Addr) (k0 k1 k2 k3 k5 : Option Value),
    K.lookup C = some (excClassObj nm q C N bs [.type "object"] true sn sub ab col dd k0 k1 k2 k3 k5 "object.__new__") ∧ PySem.W.nsOkIn K N = true ∧ PySem.W.nsIn K N "__eq__" = some none ∧ PySem.W.nsIn K N "__ne__" = some none
theorem EqC.inst {K : PySem.W.Frag} {C x dx : Addr} {h : Heap} {mA : Str → Option Value} (c : EqC K C) (k : K.In h) (o : ObjM h x dx C mA) : h.CmpInst x C [.type "object"] := by
  rcases c.ex with ⟨nm, q, N, bs, sn, sub, ab, col, dd, k0, k1, k2, k3, k5, at_, ok, noEq, noNe⟩
  exact ⟨_, nm, q, N, bs, true, sn, sub, ab, col, dd, k0, k1, k2, k3, k5, _, _, o.obj, rfl, k _ _ at_, .of_isNs (PySem.W.isNs_of_in k ok), PySem.W.nsMap_none_of_in k ok noEq, PySem.W.nsMap_none_of_in k ok noNe⟩
/-- two instances of the class c -/
def bEqO (c : Nat) : Mi.B2 := fun x y G => match x, y with
  | .ref a, .ref b => match G[a]?, G[b]? with
    | some (.ins c1 _), some (.ins c2 _) => if c1 = c ∧ c2 = c then some (.bl (decide (a = b)), G) else none
    | _, _ => none
  | _, _ => none
def rEqO (C : Addr) : R2 := fun x y H Q => ∃ a b dx fs dy fs', x = .ref a ∧ y = .ref b ∧ H a = some (.ins C dx fs) ∧ H b = some (.ins C dy fs') ∧ Q (.bl (decide (a = b))) H
section
variable {X : Cx} {kx : Kx}
theorem op_eqO {C : Addr} (c : EqC X.K C) (hu : X.A.units + 64 < cLine) : OpR X (compareOp .Eq) (rEqO C) := fun pins s σ H x y v u Q inv rx ry ⟨a, b, dx, fs, dy, fs', ex, ey, ha, hb, done⟩ => by
  subst ex ey
  cases rx
  cases ry
  rcases ins_get inv.hok ha with ⟨_, oa, _⟩
  rcases ins_get inv.hok hb with ⟨_, ob, _⟩
  have ca := c.inst inv.kIn oa
  have cb := c.inst inv.kIn ob
  rcases s with ⟨hp, gs, dr, tk, os⟩
  by_cases same : a = b
  · subst same
    rw [decide_eq_true rfl] at done
    exact compareOp_eq_same PySem.F.cmp_object ca (by omega) ⟨.bl true, H, inv, rfl, done⟩
  · rw [decide_eq_false same] at done
    exact compareOp_eq_other PySem.F.cmp_object PySem.F.cmp_object ca cb same (by omega) ⟨.bl false, H, inv, rfl, done⟩
theorem b_eqO (c : Nat) : B2ok X kx (bEqO c) (rEqO (kx.ca c)) := by
  intro x y G d G' ρ H v w Q e rl dx dy k
  cases x with
  | ref a =>
    cases y with
    | ref b =>
      unfold bEqO at e
      dsimp only at e
      split at e
      · rename_i c1 f1 c2 f2 e1 e2
        split at e
        · rename_i hc
          obtain ⟨hc1, hc2⟩ := hc
          subst hc1
          subst hc2
          cases e
          cases dx with
          | @ref _ p ea =>
            cases dy with
            | @ref _ p2 eb =>
              obtain ⟨d1, g1, h1, _⟩ := ins_at rl e1 ea
              obtain ⟨d2, g2, h2, _⟩ := ins_at rl e2 eb
              refine ⟨p, p2, d1, g1, d2, g2, rfl, rfl, h1, h2, ?_⟩
              have q := k (.bl (decide (a = b))) ρ H Gr.refl rl (.bl _)
              have z : decide (p = p2) = decide (a = b) := by
                by_cases ab : a = b
                · subst ab
                  rw [ea] at eb
                  cases eb
                  rw [decide_eq_true rfl, decide_eq_true rfl]
                · rw [decide_eq_false ab, decide_eq_false]
                  intro pp
                  subst pp
                  exact ab ((List.getElem?_inj (List.getElem?_eq_some_iff.mp ea).1 rl.nd).mp (ea.trans eb.symm))
              rw [z]
              exact q
        · exact absurd e (fun z => nomatch z)
      · exact absurd e (fun z => nomatch z)
    | _ => exact absurd e (fun z => nomatch z)
  | _ => exact absurd e (fun z => nomatch z)
end
end Ms

/-! PyZl: zip of two lists that stay as they are. -/
namespace Ms
open PySem L2
open Mi (Dv MO Sto Sl Rs bnd ME MT MA MS MF Fl MG MGs MI)
def mZipL (a b : ME) : MI := fun δ G => bnd (a δ G) fun x G1 => bnd (b δ G1) fun y G2 => match Mi.lstOf G2 x, Mi.lstOf G2 y with
  | some xs, some ys => some ((List.zipWith (fun p q => .tup [p, q]) xs ys, fun G' => Mi.lstOf G' x = some xs ∧ Mi.lstOf G' y = some ys), G2)
  | _, _ => none
theorem i_zipL {X : Cx} {kx : Kx} {a b : Expr} {ma mb : ME} {elts : List Expr} {kk : Nat} {tpos p pos : Pos} (hm : X.mg "zip" = none) (ha : PE X a (tM X.K kx ma)) (hb : PE X b (tM X.K kx mb)) (hg : Gl X "zip" := by rfl)
    (hs : starEach [a, b] X.env = (false, eval a X.env) :: starEach [b] X.env := by rfl) (hs2 : starEach [b] X.env = (false, eval b X.env) :: starEach [] X.env := by rfl) (hpl : (backTo pos (starEach [b] X.env)).any (·.1) = false := by rfl) :
    PI X (.Tuple elts kk tpos) (.Call (.Name "zip" p) [a, b] [] pos) (tI X.K kx (mZipL ma mb)) :=
  (RZ.pi_zipA hg hm (pa_cons ha (pa_cons hb pa_nil hs2) hs) hs hpl).imp fun σ H R ⟨ρ, G, δ, ds, st, G', rl, sr, e, k⟩ => by
  obtain ⟨x, G1, e1, e⟩ := Mi.bnd_eq e
  obtain ⟨y, G2, e2, e⟩ := Mi.bnd_eq e
  refine ⟨ρ, G, δ, x, G1, rl, sr, e1, fun v ρ1 H1 g1 r1 d1 => ⟨ρ1, G1, δ, y, G2, r1, sr.gr g1, e2, fun w ρ2 H2 g2 r2 d2 => ?_⟩⟩
  split at e
  · rename_i xs ys el el2
    cases e
    obtain ⟨ad, vs, ev, h, r⟩ := lstOf_at r2 el (d1.gr g2)
    subst ev
    obtain ⟨bd, ws, ev2, h2, rT⟩ := lstOf_at r2 el2 d2
    subst ev2
    refine ⟨ad, bd, vs, ws, rfl, .inl ⟨h, h2, k _ ρ2 H2 (g1.trans g2) r2 ?_⟩⟩
    have dx := d1.gr g2
    have rx : ∀ ρ G H, Gw ρ2 H2 ρ H → Rl X.K kx ρ G H → Mi.lstOf G x = some xs → ∃ vs, SqL X.K H ad vs ∧ DRs X.K ρ H xs vs := fun ρ G H g r s => by
      obtain ⟨a, vs, e, h, q⟩ := lstOf_at r s (dx.gw g)
      cases e
      exact ⟨vs, h, q⟩
    have ry : ∀ ρ G H, Gw ρ2 H2 ρ H → Rl X.K kx ρ G H → Mi.lstOf G y = some ys → ∃ vs, SqL X.K H bd vs ∧ DRs X.K ρ H ys vs := fun ρ G H g r s => by
      obtain ⟨a, vs, e, h, q⟩ := lstOf_at r s (d2.gw g)
      cases e
      exact ⟨vs, h, q⟩
    refine ⟨fun ρ G H g r s => ?_, fun i ρ G H g r s hi => ?_, fun i d ρ G H z H' g r s hd hy => ?_⟩
    · obtain ⟨vs, h, dr⟩ := rx ρ G H g r s.1
      obtain ⟨ws, h2, dr2⟩ := ry ρ G H g r s.2
      refine ⟨vs, ws, h, h2, ?_⟩
      rw [List.length_zipWith, dr.len, dr2.len]
      omega
    · obtain ⟨vs, h, dr⟩ := rx ρ G H g r s.1
      obtain ⟨ws, h2, dr2⟩ := ry ρ G H g r s.2
      rw [List.length_zipWith, dr.len, dr2.len] at hi
      have i1 : i < vs.length := by omega
      have i2 : i < ws.length := by omega
      exact ⟨vs, ws, vs[i], ws[i], h, h2, List.getElem?_eq_getElem i1, List.getElem?_eq_getElem i2⟩
    · obtain ⟨T, u1, u2, ev, hN, eH, f1, f2⟩ := hy
      subst ev eH
      obtain ⟨vs, h, dr⟩ := rx ρ G H g r s.1
      obtain ⟨ws, h2, dr2⟩ := ry ρ G H g r s.2
      obtain ⟨p1, q1, hp, hq, rfl⟩ := zw_get xs ys i d hd
      obtain ⟨v1, hv1, dv1⟩ := dr.get hp
      obtain ⟨v2, hv2, dv2⟩ := dr2.get hq
      have t1 := f1 vs h
      rw [hv1] at t1
      cases t1
      have t2 := f2 ws h2
      rw [hv2] at t2
      cases t2
      obtain ⟨g3, r3⟩ := r.side (.tup [u1, u2]) hN
      exact ⟨g3, r3, .tup (SqT.of upd_same) (.cons (dv1.gr g3) (.cons (dv2.gr g3) .nil))⟩
  · cases e
end Ms

/-! PyDcm: dict comprehensions; d.pop(k, x). -/
namespace Ms
open PySem L2
open Mi (Dv MO Sto Sl Rs bnd ME MT MA MS MF Fl MG MGs MI)
noncomputable def mDcLoop (g : MG) (t : MT) (k v : ME) (st : Sto → Prop) (δ : Sl) : List Dv → List (Mi.Key × Dv) → Sto → Rs (List (Mi.Key × Dv)) := open Classical in fun ds => match ds with
  | [] => fun acc G => if st G then some (acc, G) else none
  | d :: ds => fun acc G => if st G ∧ acc.length < Mi.big then match g d δ G with
      | some (δ1, G1) => match t δ1 G1 with
        | some (true, G2) => match k δ1 G2 with
          | some (y, G3) => match v δ1 G3 with
            | some (z, G4) => match Mi.kOf y with
              | some ky => mDcLoop g t k v st δ ds (Mi.put acc ky z) G4
              | none => none
            | none => none
          | none => none
        | some (false, G2) => mDcLoop g t k v st δ ds acc G2
        | none => none
      | none => none
    else none
/-- {k: v for .. in .. if ..} -/
noncomputable def mDc (it : MI) (g : MG) (t : MT) (k v : ME) (vs : List Nat) : ME := fun δ G => bnd (it δ G) fun p G1 => bnd (mDcLoop g t k v p.2 (Mi.wipe δ vs) p.1 [] G1) fun xs G2 => some (.ref G2.length, G2 ++ [.dct xs])
section
variable {K : PySem.W.Frag} {kx : Kx} {ρ ρ' : Rh} {G : Sto} {H H' : Hp}
theorem Rl.fillK (r : Rl K kx ρ G H) {p : Addr} (xs : List (L2.Key × V)) (h : H p = none) : Gw ρ H ⟨ρ.r, p :: ρ.x⟩ (upd H p (.dK xs)) ∧ Rl K kx ⟨ρ.r, p :: ρ.x⟩ G (upd H p (.dK xs)) := by
  have g : Gw ρ H ⟨ρ.r, p :: ρ.x⟩ (upd H p (.dK xs)) := ⟨⟨[], by simp⟩, (fun a ys e n1 n2 => ⟨(by rw [upd_ne (ne_of_none e h)]; exact e), n1, fun z => (List.mem_cons.mp z).elim (ne_of_none e h) n2⟩), (fun a u e => by rw [upd_ne (ne_of_none e h)]; exact e), (fun a u v e => by rw [upd_ne (ne_of_none e h)]; exact e), fun a φ e => by rw [upd_ne (ne_of_none e h)]; exact e⟩
  refine ⟨g, r.len, r.nd, fun i o e => ?_, fun c hc => (r.gl c hc).gw g, fun a ha => ?_, fun c hc => tab_keep (r.tb c hc) (upd_ne (ne_of_none (r.tn hc).2.2.choose_spec h)) g.ex⟩
  · obtain ⟨a, h1, h2⟩ := r.ob i o e
    exact ⟨a, h1, h2.gw g (upd_ne fun z => (r.free h).1 (z ▸ List.mem_of_getElem? h1))⟩
  · rcases List.mem_cons.mp ha with z | z
    · subst z
      exact ⟨⟨_, upd_same, fun _ z => nomatch z⟩, (r.free h).1⟩
    · obtain ⟨⟨o, e, nt⟩, n⟩ := r.xt a z
      exact ⟨⟨o, by rw [upd_ne (ne_of_none e h)]; exact e, nt⟩, n⟩

theorem Rl.moreK (r : Rl K kx ρ G H) {p : Addr} {xs : List (L2.Key × V)} (ys : List (L2.Key × V)) (hp : p ∈ ρ.x) (h : H p = some (.dK xs)) : Gw ρ H ρ (upd H p (.dK ys)) ∧ Rl K kx ρ G (upd H p (.dK ys)) := by
  have g : Gw ρ H ρ (upd H p (.dK ys)) := ⟨⟨[], by simp⟩, (fun a us e n1 n2 => ⟨(upd_ne (b := a) (a := p) (fun z => n2 (by rw [z]; exact hp))).trans e, n1, n2⟩), (fun a u e => (upd_ne (b := a) (a := p) (fun z => by rw [z, h] at e; cases e)).trans e), (fun a u v e => (upd_ne (b := a) (a := p) (fun z => by rw [z, h] at e; cases e)).trans e), fun a φ e => (upd_ne (b := a) (a := p) (fun z => by rw [z, h] at e; cases e)).trans e⟩
  refine ⟨g, r.len, r.nd, fun i o e => ?_, fun c hc => (r.gl c hc).gw g, fun a ha => ?_, fun c hc => tab_keep (r.tb c hc) (upd_ne fun z => (r.tn hc).2.1 (by rw [z]; exact hp)) g.ex⟩
  · obtain ⟨a, h1, h2⟩ := r.ob i o e
    exact ⟨a, h1, h2.gw g (upd_ne fun z => (r.xt p hp).2 (z ▸ List.mem_of_getElem? h1))⟩
  · obtain ⟨⟨o, e, nt⟩, n⟩ := r.xt a ha
    refine ⟨?_, n⟩
    by_cases z : a = p
    · subst z
      exact ⟨_, upd_same, fun _ z => nomatch z⟩
    · exact ⟨o, by rw [upd_ne z]; exact e, nt⟩

theorem Rl.fullK {r0 x0 : List Addr} {p : Addr} {xs : List (L2.Key × V)} {ds : List (Mi.Key × Dv)} (r : Rl K kx ⟨r0, p :: x0⟩ G H) (np : p ∉ x0) (h : H p = some (.dK xs)) (d : KR K ⟨r0, p :: x0⟩ H ds xs) : Gw ⟨r0, p :: x0⟩ H ⟨r0 ++ [p], x0⟩ H ∧ Rl K kx ⟨r0 ++ [p], x0⟩ (G ++ [.dct ds]) H := by
  have hpr : p ∉ r0 := (r.xt p (List.mem_cons_self ..)).2
  have g : Gw ⟨r0, p :: x0⟩ H ⟨r0 ++ [p], x0⟩ H := ⟨⟨[p], rfl⟩, (fun a us e n1 n2 => ⟨e, (fun z => by
      rcases List.mem_append.mp z with z | z
      · exact n1 z
      · exact n2 (by have : a = p := by simpa using z
                     rw [this]; exact List.mem_cons_self ..)), fun z => n2 (List.mem_cons_of_mem _ z)⟩), fun a u e => e, fun a u v e => e, fun a φ e => e⟩
  refine ⟨g, by simp [show r0.length = G.length from r.len], ?_, fun i o e => ?_, fun c hc => (r.gl c hc).gw g, fun a ha => ?_, r.tb⟩
  · show (r0 ++ [p]).Nodup
    rw [List.nodup_append]
    exact ⟨r.nd, by simp, fun a ha b hb z => by
      have e : b = p := by simpa using hb
      exact hpr (by rw [← e, ← z]; exact ha)⟩
  · have hl : r0.length = G.length := r.len
    by_cases hi : i < G.length
    · rw [List.getElem?_append_left hi] at e
      obtain ⟨a, h1, h2⟩ := r.ob i o e
      exact ⟨a, by show (r0 ++ [p])[i]? = _; rw [List.getElem?_append_left (by omega)]; exact h1, h2.gw g rfl⟩
    · have e1 : i = G.length := by
        have := (List.getElem?_eq_some_iff.mp e).1
        simp at this
        omega
      subst e1
      rw [List.getElem?_append_right (Nat.le_refl _)] at e
      simp at e
      subst e
      exact ⟨p, by show (r0 ++ [p])[G.length]? = _; rw [← hl, List.getElem?_append_right (Nat.le_refl _)]; simp, .dct h (d.imp fun _ _ q => ⟨q.1, q.2.gw g⟩)⟩
  · obtain ⟨e, n⟩ := r.xt a (List.mem_cons_of_mem _ ha)
    refine ⟨e, fun z => ?_⟩
    rcases List.mem_append.mp z with z | z
    · exact n z
    · have : a = p := by simpa using z
      exact np (this ▸ ha)
end
section
variable {X : Cx} {kx : Kx} {tg : Expr} {mk mv : ME} {pos : Pos}
/-- the loop of a comprehension; ws: what the target stores -/
theorem dc_go {mi : MI} {g : MG} {mt : MT} {ws vs : List Nat} {σ : St} {H : Hp} {Q : VK} (hw : ∀ i ∈ ws, i ∈ vs) (h : tM X.K kx (mDc mi g mt mk mv vs) σ H Q) : tDc (tI X.K kx mi) (tG X.K kx ws g) (tMT X.K kx mt) (tM X.K kx mk) (tM X.K kx mv) vs σ H Q := by
  obtain ⟨ρ, G, δ, d, G', rl, sr, e, k⟩ := h
  obtain ⟨⟨ds, st⟩, G1, e1, e⟩ := Mi.bnd_eq e
  obtain ⟨zs, Gz, e2, e⟩ := Mi.bnd_eq e
  dsimp only at e2 e
  refine ⟨ρ, G, δ, ds, st, G1, rl, sr, e1, fun J ρ1 H1 g1 r1 y D hD => ?_⟩
  obtain ⟨gf, rf⟩ := r1.fillK [] hD
  have nD : D ∉ ρ1.x := (r1.free hD).2
  refine ⟨fun i n H2 => n = ds.length - i ∧ i ≤ ds.length ∧ ∃ (r2 : List Addr) (G2 : Sto) (acc : List (Mi.Key × Dv)) (av : List (L2.Key × V)), Gr ⟨ρ1.r, D :: ρ1.x⟩ (upd H1 D (.dK [])) ⟨r2, D :: ρ1.x⟩ (upd H2 D (.dK [])) ∧ Gw ⟨ρ1.r, D :: ρ1.x⟩ (upd H1 D (.dK [])) ⟨r2, D :: ρ1.x⟩ H2 ∧ Rl X.K kx ⟨r2, D :: ρ1.x⟩ G2 H2 ∧ H2 D = some (.dK av) ∧ KR X.K ⟨r2, D :: ρ1.x⟩ H2 acc av ∧
    mDcLoop g mt mk mv st (Mi.wipe δ vs) (ds.drop i) acc G2 = some (zs, Gz), ⟨ds.length, by simp, Nat.zero_le _, ρ1.r, G1, [], [], by rw [upd_upd]; exact Gr.refl, Gw.refl, rf, upd_same, .nil, by simpa using e2⟩, ?_⟩
  rintro i n H2 ⟨rfl, hi, r2, G2, acc, av, g2, w2, q2, hD2, da, el⟩
  have sr2 : Sr X.K ⟨r2, D :: ρ1.x⟩ H2 δ σ := ((sr.gr g1).gw gf).gw w2
  by_cases hlt : i < ds.length
  · have ed : ds.drop i = ds[i] :: ds.drop (i + 1) := List.drop_eq_getElem_cons hlt
    rw [ed] at el
    unfold mDcLoop at el
    split at el
    · rename_i hst
      obtain ⟨hst, hacc⟩ := hst
      split at el
      · rename_i δ3 G3 eg
        refine .inr ⟨y.go i _ G2 H2 (gf.trans w2) q2 hst hlt, fun H' => ∃ n', n' < ds.length - i ∧ (n' = ds.length - (i + 1) ∧ i + 1 ≤ ds.length ∧ ∃ (r2 : List Addr) (G2 : Sto) (acc : List (Mi.Key × Dv)) (av : List (L2.Key × V)), Gr ⟨ρ1.r, D :: ρ1.x⟩ (upd H1 D (.dK [])) ⟨r2, D :: ρ1.x⟩ (upd H' D (.dK [])) ∧ Gw ⟨ρ1.r, D :: ρ1.x⟩ (upd H1 D (.dK [])) ⟨r2, D :: ρ1.x⟩ H' ∧ Rl X.K kx ⟨r2, D :: ρ1.x⟩ G2 H' ∧ H' D = some (.dK av) ∧ KR X.K ⟨r2, D :: ρ1.x⟩ H' acc av ∧
          mDcLoop g mt mk mv st (Mi.wipe δ vs) (ds.drop (i + 1)) acc G2 = some (zs, Gz)), fun _ h => h, fun x H' hy => ?_⟩
        obtain ⟨gy, ry, dy⟩ := y.yld i ds[i] _ G2 H2 x H' (gf.trans w2) q2 hst (List.getElem?_eq_getElem hlt) hy
        have hDr : D ∉ r2 := (q2.xt D (List.mem_cons_self ..)).2
        -- growth under the list that is being filled, its content aside
        have lift : ∀ {r r' : List Addr} {Ha Hb : Hp}, D ∉ r → (∃ us, Ha D = some (.dK us)) → Gr ⟨r, D :: ρ1.x⟩ Ha ⟨r', D :: ρ1.x⟩ Hb → Gr ⟨r, D :: ρ1.x⟩ (upd Ha D (.dK [])) ⟨r', D :: ρ1.x⟩ (upd Hb D (.dK [])) := by
          intro r r' Ha Hb hr ⟨us, hu⟩ gg
          refine ⟨gg.pre, fun z hz => ?_, fun z o ho hz ht => ?_, fun z xs ho => ?_, fun z o u ho => ?_, fun z φ ho => ?_⟩
          · rcases gg.new z hz with q | q
            · exact .inl q
            · exact .inr (nf_upd q (nf_ne q hu fun _ w => nomatch w))
          · by_cases hzD : z = D
            · subst hzD
              rw [upd_same] at ho ⊢
              exact ho
            · rw [upd_ne hzD] at ho ⊢
              exact gg.kp z o ho hz ht
          · have hzD : z ≠ D := fun w => by rw [w, upd_same] at ho; cases ho
            rw [upd_ne hzD] at ho ⊢
            exact gg.tu z xs ho
          · have hzD : z ≠ D := fun w => by rw [w, upd_same] at ho; cases ho
            rw [upd_ne hzD] at ho ⊢
            exact gg.fz z o u ho
          · have hzD : z ≠ D := fun w => by rw [w, upd_same] at ho; cases ho
            rw [upd_ne hzD] at ho ⊢
            exact gg.ex z φ ho
        have keepD : ∀ {r r' : List Addr} {Ha Hb : Hp} {us : List (L2.Key × V)}, D ∉ r → Ha D = some (.dK us) → Gr ⟨r, D :: ρ1.x⟩ Ha ⟨r', D :: ρ1.x⟩ Hb → Hb D = some (.dK us) := fun hr hu gg => gg.kp D _ hu hr fun _ z => nomatch z
        refine ⟨_, G2, Mi.wipe δ vs, ds[i], δ3, G3, ry, (sr2.gr gy).wipe vs, dy, eg, fun ρ3 σ3 H3 g3 r3 s3 l3 n3 => ⟨?_, ?_⟩⟩
        · refine wipe_eq (by rw [l3, L2.wipe_length]) (fun j hj => n3 j fun z => hj (hw j z)) (L2.wipe_length σ vs)
        obtain ⟨r3', x3⟩ := ρ3
        obtain rfl : x3 = D :: ρ1.x := g3.pre.2
        have gA := gy.trans g3
        have hD3 := keepD hDr hD2 gA
        have hDr3 : D ∉ r3' := (r3.xt D (List.mem_cons_self ..)).2
        split at el
        · rename_i G4 et
          refine ⟨_, G3, δ3, true, G4, r3, s3, et, fun ρ4 H4 g4 r4 => ?_⟩
          dsimp only
          rw [if_pos rfl]
          obtain ⟨r4', x4⟩ := ρ4
          obtain rfl : x4 = D :: ρ1.x := g4.pre.2
          split at el
          · rename_i yv G5 ey
            refine ⟨_, G4, δ3, yv, G5, r4, s3.gr g4, ey, fun v ρ5 H5 g5 r5 d5 => ?_⟩
            obtain ⟨r5', x5⟩ := ρ5
            obtain rfl : x5 = D :: ρ1.x := g5.pre.2
            split at el
            · rename_i zv G6 ez
              refine ⟨_, G5, δ3, zv, G6, r5, (s3.gr g4).gr g5, ez, fun u ρ6 H6 g6 r6 d6 => ?_⟩
              obtain ⟨r6', x6⟩ := ρ6
              obtain rfl : x6 = D :: ρ1.x := g6.pre.2
              split at el
              · rename_i ky ek
                have gB := ((gA.trans g4).trans g5).trans g6
                have hD6 := keepD hDr hD2 gB
                have ev := kOf_v ek d5
                refine ⟨av, kK ky, ev, hD6, by rw [← (AR.len da), ← big_line]; exact hacc, _, by omega, rfl, hlt, r6', G6, Mi.put acc ky zv, putK av (kK ky) u, ?_⟩
                obtain ⟨gm, rm⟩ := r6.moreK (putK av (kK ky) u) (List.mem_cons_self ..) hD6
                refine ⟨?_, (w2.trans gB.w).trans gm, rm, upd_same, (put_ok (da.imp fun _ _ q => ⟨q.1, q.2.gr gB⟩) d6).imp fun _ _ q => ⟨q.1, q.2.gw gm⟩, el⟩
                rw [upd_upd]
                exact g2.trans (lift hDr ⟨av, hD2⟩ gB)
              · cases el
            · cases el
          · cases el
        · rename_i G4 et
          refine ⟨_, G3, δ3, false, G4, r3, s3, et, fun ρ4 H4 g4 r4 => ?_⟩
          dsimp only
          rw [if_neg (fun z => Bool.false_ne_true z)]
          obtain ⟨r4', x4⟩ := ρ4
          obtain rfl : x4 = D :: ρ1.x := g4.pre.2
          have gB := gA.trans g4
          exact ⟨_, by omega, rfl, hlt, r4', G4, acc, av, g2.trans (lift hDr ⟨av, hD2⟩ gB), w2.trans gB.w, r4, keepD hDr hD2 gB, da.imp (fun _ _ q => ⟨q.1, q.2.gr gB⟩), el⟩
        · cases el
      · cases el
    · cases el
  · have ed : ds.drop i = [] := List.drop_eq_nil_of_le (by omega)
    rw [ed] at el
    unfold mDcLoop at el
    split at el
    · rename_i hst
      cases el
      have hi' : i = ds.length := by omega
      subst hi'
      refine .inl ⟨y.stop _ _ H2 (gf.trans w2) q2 hst, ?_⟩
      have hDr : D ∉ r2 := (q2.xt D (List.mem_cons_self ..)).2
      have e' := Option.some.inj e
      -- the growth from ahead of the list
      have base : ∀ r' : List Addr, (∃ t, r' = ρ1.r ++ t) → (∀ z ∈ r', z ∈ r2 ∨ z = D) → Gr ρ1 H1 ⟨r', ρ1.x⟩ H2 := fun r' hp hs => by
        refine ⟨⟨hp, rfl⟩, fun z hz => ?_, fun z o ho hz ht => ?_, fun z xs ho => ?_, fun z o u ho => ?_, fun z φ ho => ?_⟩
        · rcases hs z hz with q | q
          · rcases g2.new z q with w | w
            · exact .inl w
            · by_cases hzD : z = D
              · rw [hzD]; exact .inr (nf_none hD)
              · exact .inr (nf_of w hzD)
          · rw [q]; exact .inr (nf_none hD)
        · have hzD : z ≠ D := ne_of_none ho hD
          have := g2.kp z o (by rw [upd_ne hzD]; exact ho) hz ht
          rw [upd_ne hzD] at this
          exact this
        · have hzD : z ≠ D := ne_of_none ho hD
          have := g2.tu z xs (by rw [upd_ne hzD]; exact ho)
          rw [upd_ne hzD] at this
          exact this
        · have hzD : z ≠ D := ne_of_none ho hD
          have := g2.fz z o u (by rw [upd_ne hzD]; exact ho)
          rw [upd_ne hzD] at this
          exact this
        · have hzD : z ≠ D := ne_of_none ho hD
          have := g2.ex z φ (by rw [upd_ne hzD]; exact ho)
          rw [upd_ne hzD] at this
          exact this
      obtain ⟨t2, ht2⟩ := g2.pre.1
      have ht2' : r2 = ρ1.r ++ t2 := ht2
      obtain ⟨gw, rw'⟩ := q2.fullK nD hD2 da
      cases e'
      refine k _ ⟨r2 ++ [D], ρ1.x⟩ H2 (g1.trans (base (r2 ++ [D]) ⟨t2 ++ [D], by rw [ht2']; simp⟩ fun z hz => ?_)) rw' (.ref ?_)
      · rcases List.mem_append.mp hz with q | q
        · exact .inl q
        · exact .inr (by simpa using q)
      · show (r2 ++ [D])[Gz.length]? = some D
        have hl : r2.length = Gz.length := q2.len
        rw [← hl, List.getElem?_append_right (Nat.le_refl _)]
        simp
    · cases el
theorem m_dc {kxp vxp it : Expr} {ifs : List Expr} {scope : Scope} {own : List (Str × Nat)} {mi : MI} {g : MG} {mt : MT} {ws : List Nat} (hc : X.calm = true) (hN : X.N.Nodup) (hi : PI X tg it (tI X.K kx mi)) (ok : BlkOk X.N X.env.scope scope own) (hw : ∀ i ∈ ws, i ∈ own.map (·.2))
    (hg : ∀ (s : Shared) (H : Hp) (C : Addr) (cl : List (Str × Addr)) (fp : List Addr), PG (X.blk s H scope (compEnvC scope cl C X.env) fp) tg (tG X.K kx ws g)) (ht : ∀ (s : Shared) (H : Hp) (C : Addr) (cl : List (Str × Addr)) (fp : List Addr), PTs (X.blk s H scope (compEnvC scope cl C X.env) fp) ifs (tMT X.K kx mt))
    (hk : ∀ (s : Shared) (H : Hp) (C : Addr) (cl : List (Str × Addr)) (fp : List Addr), PE (X.blk s H scope (compEnvC scope cl C X.env) fp) kxp (tM X.K kx mk)) (he : ∀ (s : Shared) (H : Hp) (C : Addr) (cl : List (Str × Addr)) (fp : List Addr), PE (X.blk s H scope (compEnvC scope cl C X.env) fp) vxp (tM X.K kx mv))
    (hfs : ∀ x, foldedSetIterable it X.env x = pure x := by intro _; rfl) : PE X (.DictComp kxp vxp [⟨tg, it, ifs, 0⟩] scope pos) (tM X.K kx (mDc mi g mt mk mv (own.map (·.2)))) :=
  (pe_dc hc hN hi ok hg ht hk he (hs := hfs)).imp fun σ H Q h => dc_go hw h
end
end Ms

/-! PySst: sorted(set(t)), t a tuple of ints. -/
namespace Ms
open PySem L2 PyProof.Rows
open Mi (Dv MO Sto Sl Rs bnd ME MT MA MS MF Fl MG MGs MI)
/-- each item once -/
def dd : List Int → List Int
  | [] => []
  | x :: xs => if x ∈ dd xs then dd xs else x :: dd xs
theorem dd_mem {k : Int} : ∀ {xs : List Int}, k ∈ dd xs ↔ k ∈ xs
  | [] => Iff.rfl
  | x :: xs => by
    unfold dd
    split
    · rename_i h
      rw [dd_mem, List.mem_cons]
      constructor
      · exact fun q => .inr q
      · rintro (q | q)
        · rw [q]; exact dd_mem.mp h
        · exact q
    · rw [List.mem_cons, List.mem_cons, dd_mem]
theorem dd_nodup : ∀ xs : List Int, (dd xs).Nodup
  | [] => List.nodup_nil
  | x :: xs => by
    unfold dd
    split
    · exact dd_nodup xs
    · rename_i h
      exact List.nodup_cons.mpr ⟨h, dd_nodup xs⟩
theorem dd_len : ∀ xs : List Int, (dd xs).length ≤ xs.length
  | [] => Nat.le_refl _
  | x :: xs => by
    unfold dd
    have := dd_len xs
    split
    · rw [List.length_cons]; omega
    · rw [List.length_cons, List.length_cons]; omega
/-- sorted(set(t)) -/
def mSortSet (m : Bool) (a : ME) : ME := Mi.m1 (fun x G => match x with
  | .tup xs => match Mi.intsOf xs with
    | some ns => if ns.length < 60 then some (Mi.mkL m ((srt (dd ns)).map Dv.int) G) else none
    | none => none
  | _ => none) a
def rSetTI (K : PySem.W.Frag) (w : World) : List V → Hp → VK → Prop := fun vs H Q => ∃ (l : Addr) (ns : List Int), vs = [V.ref l] ∧ SqT K H l (ns.map V.int) ∧ ns.length < 60 ∧ ∀ p c, H p = none → c ≤ ns.length → Q (.ref p) (upd H p (SetO w p (fun j => decide (j ∈ ns)) c))
section
variable {X : Cx} {kx : Kx}
theorem cr_setTI (hc : X.calm = true) : CallR X (.type "set") (rSetTI X.K X.w) := by
  rintro pins s σ H _ us Q I r ⟨l, ns, rfl, hs, hb, q⟩
  rw [Vals.ref1 r]
  obtain ⟨its, rv, p, _⟩ := I.tuple hs
  have sb : scanBound > 100 := by decide
  refine call_set_tupI ns (I.ok.hd hc) p (by simpa using ints_of_vals rv) (by omega) fun h' tk c R hcl kp => ?_
  exact ⟨.ref _, upd H s.heap.objs.size (SetO X.w s.heap.objs.size (fun j => decide (j ∈ ns)) c), I.laid (t' := tk) kp (Nat.le_refl _) (setO_new R), rfl, q _ _ (I.hok.fresh (Nat.le_refl _)) hcl⟩
theorem m_sortSet (m : Bool) {a : Expr} {ma : ME} {p p2 pos pos2 : Pos} (hc : X.calm = true) (hm : X.mg "sorted" = none) (hm2 : X.mg "set" = none) (ha : PE X a (tM X.K kx ma)) (hg : Gl X "sorted" := by rfl) (hg2 : Gl X "set" := by rfl)
    (he : starEach [a] X.env = (false, eval a X.env) :: starEach [] X.env := by rfl) (hp1 : (backTo pos2 (starEach [] X.env)).any (·.1) = false := by rfl)
    (he2 : starEach [Expr.Call (.Name "set" p2) [a] [] pos2] X.env = (false, eval (Expr.Call (.Name "set" p2) [a] [] pos2) X.env) :: starEach [] X.env := by rfl) (hp2 : (backTo pos (starEach [] X.env)).any (·.1) = false := by rfl) :
    PE X (.Call (.Name "sorted" p) [.Call (.Name "set" p2) [a] [] pos2] [] pos) (tM X.K kx (mSortSet m ma)) :=
  (pe_callB (cr_sortedSet hc) hg hm (by decide +kernel) (pa_cons (pe_callTy (cr_setTI hc) hg2 hm2 (by decide +kernel) (pa_cons ha pa_nil he) (by decide) (by decide) he hp1) pa_nil he2) (by decide) (by decide) he2 hp2).imp fun σ H Q ⟨ρ, G, δ, d, G', rl, sr, e, k⟩ => by
  obtain ⟨x, G1, e1, e⟩ := Mi.bnd_eq e
  refine ⟨ρ, G, δ, x, G1, rl, sr, e1, fun v ρ1 H1 g1 r1 d1 => ?_⟩
  cases x with
  | tup xs =>
    dsimp only at e
    split at e
    · rename_i ns en
      split at e
      · rename_i hb
        have e' := Option.some.inj e
        cases d1 with
        | @tup ad vs _ hS dr =>
          have ev := ints_of en dr
          subst ev
          refine ⟨ad, ns, rfl, hS, hb, fun p c hp hcl => ?_⟩
          obtain ⟨g2, r2⟩ := r1.side (SetO X.w p (fun j => decide (j ∈ ns)) c) hp
          refine ⟨p, _, c, rfl, upd_same, by omega, fun ns' q pw mm hl hq => ?_⟩
          have pm : ns'.Perm (dd ns) := (List.perm_ext_iff_of_nodup (pw.imp fun h => Int.ne_of_lt h) (dd_nodup ns)).mpr fun a => by rw [mm a, dd_mem]; simp
          rw [srt_uniq pm (pw.imp fun h => Int.le_of_lt h)]
          refine mkL_ok (m := m) r2 (drs_ints (srt (dd ns))) (fun z ρ' H' g3 r3 d3 => ?_) q hq
          rw [e'] at r3 d3
          exact k z ρ' H' ((g1.trans g2).trans g3) r3 d3
      · exact absurd e (fun z => nomatch z)
    · exact absurd e (fun z => nomatch z)
  | _ => exact absurd e (fun z => nomatch z)
end
end Ms

/-! PySrt: sorted of a tuple of ints; of a dict with int keys. -/
namespace Ms
open PySem PySem.Spec L2 PyProof.Rows PySem.Calls
open Mi (Dv MO Sto Sl Rs bnd ME MT MA MS MF Fl MG MGs MI)
section
variable {w : World} {prog : Program} {s : Shared} {A : Around}
variable {E : Value → Shared → Prop}
/-- a new list takes in a tuple's items -/
theorem take_in {l t : Addr} {vs : List Value} {R : Shared → Prop} (mine : s.heap.get? l = some (seqObj "list" #[] 0)) (its : s.heap.IsTuple t vs.toArray) (short : vs.length ≤ sizeLine) (r : R { s with heap := s.heap.update l (Obj.mapSeq (· ++ vs.toArray)) }) :
    wpAny (model prog w) A (Builtin.List.listExtendWith (.ref l) (.ref t) (.ref l)) (fun f s' => f = .done (.ret (.ref l)) ∧ R s') E s := by
  have ⟨o, there, cls, n, items⟩ := its
  delta Builtin.List.listExtendWith
  refine wpAny_bind (wpAny_typeOf (T := "tuple") ⟨o, there, cls⟩ ?_)
  rw [if_pos (by simp)]
  refine wpAny_bind (listItems_at there items (wpAny_bind (listItems_at mine rfl ?_)))
  rw [if_neg (by simp)]
  refine wpAny_bind (listUpdate_at mine rfl (wpAny_pure ⟨rfl, r⟩) (Nat.zero_le _) ?_)
  simpa using Nat.le_succ_of_le short
/-- the new list of a tuple's items, as sorted wants it -/
theorem gathered {t : Addr} {vs : List Value} {Q : List Value → Shared → Prop} (its : s.heap.IsTuple t vs.toArray) (short : vs.length ≤ sizeLine)
    (q : Q vs { s with heap := (s.heap.push (seqObj "list" #[] 0)).update s.heap.objs.size (Obj.mapSeq (· ++ vs.toArray)) }) : wpAny (model prog w) A (collect (.ref t)) Q E s := by
  have mine : (s.heap.push (seqObj "list" #[] 0)).get? s.heap.objs.size = some (seqObj "list" #[] 0) := Heap.get?_push_size _ rfl
  have full := get?_update_seq mine (· ++ vs.toArray)
  have body : ∀ (B : Around) (F : Value → Shared → Prop), wpAny (model prog w) B (Builtin.List.listExtendWith (.ref s.heap.objs.size) (.ref t) (.ref s.heap.objs.size))
      (fun f s' => f = .done (.ret (.ref s.heap.objs.size)) ∧ s' = { s with heap := (s.heap.push (seqObj "list" #[] 0)).update s.heap.objs.size (Obj.mapSeq (· ++ vs.toArray)) }) F { s with heap := s.heap.push (seqObj "list" #[] 0) } :=
    fun B F => take_in mine (its.push _) short rfl
  unfold collect
  refine wpAny_bind (wpAny_runValue (codeAny_builtin entry_proto_collect' (wpAny_bind (wpAny_newList (wpAny_pure ⟨Code.quiet_builtin _ (by decide +kernel), codeAny_builtin entry_list_iadd' ?_⟩)))))
  refine wpAny_mono (body _ _) (fun f s' hf => ?_) fun _ _ e => e
  obtain ⟨rfl, rfl⟩ := hf
  exact wpAny_bind (wpAny_load full (wpAny_pure (by simpa using q)))
/-- sorted(t) is list.sort of such a list -/
theorem sorted_tup {t : Addr} {vs : List Value} {ns : List Int} {Q : Value → Shared → Prop} (its : s.heap.IsTuple t vs.toArray) (nums : IntsAre vs ns) (short : vs.length ≤ sizeLine)
    (q : ∀ out ms, IntsAre out ms → ms.Perm ns → ms.Pairwise (· ≤ ·) → Q (.ref (s.heap.objs.size + 1)) { s with heap := sortedAll s.heap vs out.toArray }) : wpAny (model prog w) A (call (.builtin "sorted") [.ref t]) Q E s := by
  have two := PySem.W.copyHeap_at s.heap vs
  have sorts : ∀ F : Value → Shared → Prop, wpAny (model prog w) A.in1.in1 (Builtin.«list.sort» ⟨[.ref (s.heap.objs.size + 1)], []⟩) (fun f s' => f = .done (.ret .none) ∧ Q (.ref (s.heap.objs.size + 1)) s') F { s with heap := PySem.W.copyHeap s.heap vs } :=
    fun F => SrtO.list_sort_ord SrtO.swo_int two short (fun h2 => SrtO.ints_sortable nums h2) fun out up same => by
      obtain ⟨k1, k2, k3⟩ := SrtO.ints_out nums up same
      exact ⟨rfl, q out _ k1 k2 k3⟩
  have end_ : ((s.heap.push (seqObj "list" #[] 0)).update s.heap.objs.size (Obj.mapSeq (· ++ vs.toArray))).objs.size = s.heap.objs.size + 1 := by rw [Heap.size_update, size_push']
  have made : wpAny (model prog w) A.in1 (newList vs) (fun v s' => v = .ref (s.heap.objs.size + 1) ∧ s' = { s with heap := PySem.W.copyHeap s.heap vs }) E { s with heap := (s.heap.push (seqObj "list" #[] 0)).update s.heap.objs.size (Obj.mapSeq (· ++ vs.toArray)) } :=
    wpAny_newList ⟨congrArg Value.ref end_, rfl⟩ short
  have last : wpAny (model prog w) A.in1 (call (.builtin "list.sort") [.ref (s.heap.objs.size + 1)] []) (fun _ s' => Q (.ref (s.heap.objs.size + 1)) s') E { s with heap := PySem.W.copyHeap s.heap vs } :=
    wpAny_call_entry_kw slot_list_sort ⟨_, two, rfl⟩ entry_list_sort (wpAny_mono (sorts _) (fun f s' z => ⟨_, z.1, z.2⟩) fun _ _ e => e) (args_list_sort _)
  have rest : ∀ v s', v = Value.ref (s.heap.objs.size + 1) ∧ s' = { s with heap := PySem.W.copyHeap s.heap vs } → wpAny (model prog w) A.in1 (holding [v] (call (.builtin "list.sort") [v] []) >>= fun _ => ret v) (fun f s' => ∃ u, f = .done (.ret u) ∧ Q u s') E s' := by
    rintro v s' ⟨rfl, rfl⟩
    exact wpAny_bind (wpAny_holding (wpAny_mono last (fun _ s' z => wpAny_pure ⟨_, rfl, z⟩) fun _ _ e => e))
  exact call_function_entry_kw kind_sorted plain_sorted entry_sorted (args_sorted1 _) (wpAny_bind (m := checkCount "sorted" 1 1 _) (wpAny_pure (wpAny_bind (gathered its short (wpAny_bind (wpAny_mono made rest fun _ _ e => e))))))
end
/-! ### over the layer, and in the mirror -/
/-- sorted(t), ints -/
def rSortedTI (K : PySem.W.Frag) : List V → Hp → VK → Prop := fun vs H Q => ∃ (a : Addr) (ns : List Int), vs = [V.ref a] ∧ SqT K H a (ns.map V.int) ∧ ∀ (ms : List Int) (p : Addr), ms.Perm ns → ms.Pairwise (· ≤ ·) → H p = none → Q (.ref p) (upd H p (.lst (ms.map V.int)))
theorem cr_sortedTI {X : Cx} : CallR X (.builtin "sorted") (rSortedTI X.K) := by
  rintro pins s σ H _ us Q I r ⟨a, ns, rfl, hs, q⟩
  have ⟨its, rv, tup, hz⟩ := I.tuple hs
  rw [Vals.ref1 r]
  refine sorted_tup tup rv.ints (by rw [← rv.length]; exact hz) fun out ms k1 k2 k3 => ?_
  obtain ⟨ep, at_⟩ := sortedAll_at s.heap its out.toArray
  have fits : (ms.map V.int).length ≤ sizeLine := by rw [List.length_map, k2.length_eq, ← List.length_map (f := V.int)]; exact hz
  exact ⟨.ref _, _, I.laid (o := .lst (ms.map V.int)) (t' := s.toks) (fun _ _ => sortedAll_old) (Nat.le_succ _) ⟨fits, out, ep, vals_of_ints k1, at_⟩, rfl, q _ _ k2 k3 (I.hok.fresh (Nat.le_succ _))⟩
def fSortedT (m : Bool) : List Dv → Sto → Rs Dv
  | [.tup xs], G => match Mi.intsOf xs with
    | some ns => some (Mi.mkL m ((srt ns).map Dv.int) G)
    | none => none
  | _, _ => none
theorem f_sortedT {X : Cx} {kx : Kx} (m : Bool) : Bok X kx (fSortedT m) (rSortedTI X.K) := by
  intro xs G d G' ρ H vs Q e rl ds k
  unfold fSortedT at e
  split at e
  · rename_i ys
    split at e
    · rename_i ns hn
      cases ds with
      | cons a b =>
        cases b
        cases a with
        | tup hs dr =>
          have eu := ints_of hn dr
          subst eu
          refine ⟨_, ns, rfl, hs, fun ms q pm up hq => ?_⟩
          rw [srt_uniq pm up]
          refine mkL_ok (m := m) rl (drs_ints (srt ns)) ?_ q hq
          rw [Option.some.inj e]
          exact fun z ρ' H' g r w => k z ρ' H' g r w
    · cases e
  · cases e
/-- the int keys of a dict -/
def keyInts : List (Mi.Key × Dv) → Option (List Int)
  | [] => some []
  | (.inl i, _) :: r => (keyInts r).map (i :: ·)
  | _ => none
/-- sorted(d), fewer than 64 keys, all whole numbers -/
def fSortedD (m : Bool) : List Dv → Sto → Rs Dv
  | [.ref h], G => match G[h]? with
    | some (.dct kvs) => match keyInts kvs with
      | some ns => if ns.length < 64 then some (Mi.mkL m ((srt ns).map Dv.int) G) else none
      | none => none
    | _ => none
  | _, _ => none
theorem keyInts_keys {K : PySem.W.Frag} {ρ : Rh} {H : Hp} : ∀ {kvs : List (Mi.Key × Dv)} {ks : List (L2.Key × V)} {ns : List Int}, KR K ρ H kvs ks → keyInts kvs = some ns → ks.map (fun q => q.1) = ns.map Sum.inl
  | _, _, _, .nil, e => by cases e; rfl
  | (.inl i, d) :: r, q :: qs, ns, .cons a b, e => by
    rw [keyInts] at e
    obtain ⟨ms, e1, e2⟩ := Option.map_eq_some_iff.mp e
    rw [← e2, List.map_cons, List.map_cons, keyInts_keys b e1, a.1]
    rfl
  | (.inr _, _) :: _, _, _, .cons _ _, e => by cases e
/-- what a call of the library's asks and gives -/
abbrev relOf {p : Prop} {X : Cx} {f} {R} (_ : p → CallR X f R) := R
theorem f_sortedD {X : Cx} {kx : Kx} (m : Bool) : Bok X kx (fSortedD m) (relOf (call_sortedDI (X := X))) := by
  intro xs G d G' ρ H vs Q e rl ds k
  unfold fSortedD at e
  split at e
  · rename_i h
    split at e
    · rename_i kvs eh
      split at e
      · rename_i ns en
        split at e
        · rename_i short
          cases ds with
          | cons a b =>
            cases b
            cases a with
            | @ref _ ad ea =>
              obtain ⟨ks, h1, kr⟩ := dct_at rl eh ea
              refine ⟨ad, ks, ns, rfl, .inl h1, keyInts_keys kr en, short, fun ms q pm up hq => ?_⟩
              rw [srt_uniq pm up]
              refine mkL_ok (m := m) rl (drs_ints (srt ns)) ?_ q hq
              rw [Option.some.inj e]
              exact fun z ρ' H' g r w => k z ρ' H' g r w
        · cases e
      · cases e
    · cases e
  · cases e
end Ms

/-! PyPop: d.pop(k, x), d.pop(k) of a dict. -/
namespace Ms
open PySem L2
open Mi (Dv MO Sto Sl Rs bnd ME MT MA MS MF Fl MG MGs MI)
def mPopD (o k x : ME) : ME := fun δ G => bnd (o δ G) fun d G1 => bnd (k δ G1) fun y G2 => bnd (x δ G2) fun z G3 => match d with
  | .ref h => match G1[h]?, G3[h]?, Mi.kOf y with
    | some (.dct _), some (.dct kvs), some k => match Mi.look kvs k with
      | some v => some (v, G3.set h (.dct (Mi.drp kvs k)))
      | none => some (z, G3)
    | _, _, _ => none
  | _ => none
def mPopK (o k : ME) : ME := fun δ G => bnd (o δ G) fun d G1 => bnd (k δ G1) fun y G2 => match d with
  | .ref h => match G1[h]?, G2[h]?, Mi.kOf y with
    | some (.dct _), some (.dct kvs), some k => match Mi.look kvs k with
      | some v => some (v, G2.set h (.dct (Mi.drp kvs k)))
      | none => none
    | _, _, _ => none
  | _ => none
theorem drp_ok {K : PySem.W.Frag} {ρ : Rh} {H : Hp} {k : Mi.Key} : ∀ {kvs : List (Mi.Key × Dv)} {ks : List (L2.Key × V)}, KR K ρ H kvs ks → KR K ρ H (Mi.drp kvs k) (dropK ks (kK k))
  | _, _, .nil => .nil
  | (j, x) :: r, (j', v) :: r', .cons ⟨h1, h2⟩ t => by
    have h1' : j' = kK j := h1
    subst h1'
    have ih := drp_ok (k := k) t
    unfold Mi.drp dropK at ih ⊢
    by_cases hj : j = k
    · rw [List.filter_cons_of_neg (by simpa using hj), List.filter_cons_of_neg (by simp [hj])]
      exact ih
    · have hj' : ¬ kK j = kK k := fun z => hj (kK_inj z)
      rw [List.filter_cons_of_pos (by simpa using hj), List.filter_cons_of_pos (by simpa using hj')]
      exact .cons ⟨rfl, h2⟩ ih
theorem kr_gr {K : PySem.W.Frag} {ρ ρ' : Rh} {H H' : Hp} (g : Gr ρ H ρ' H') : ∀ {kvs : List (Mi.Key × Dv)} {ks : List (L2.Key × V)}, KR K ρ H kvs ks → KR K ρ' H' kvs ks
  | _, _, .nil => .nil
  | _, _, .cons a b => .cons ⟨a.1, a.2.gr g⟩ (kr_gr g b)
section
variable {X : Cx} {kx : Kx} {o k x : Expr} {mo mk mx : ME} {pos apos : Pos}
theorem m_popD (ho : PE X o (tM X.K kx mo)) (hk : PE X k (tM X.K kx mk)) (hx : PE X x (tM X.K kx mx)) (m : M2 X o "pop" apos k x pos := by exact ⟨rfl, rfl, rfl, rfl⟩) :
    PE X (.Call (.Attribute o "pop" apos) [k, x] [] pos) (tM X.K kx (mPopD mo mk mx)) := (pe_dpop2 ho hk hx m).imp fun σ H Q ⟨ρ, G, δ, d, G', rl, sr, e, q⟩ => by
  obtain ⟨xo, G1, e1, e⟩ := Mi.bnd_eq e
  obtain ⟨y, G2, e2, e⟩ := Mi.bnd_eq e
  obtain ⟨z, G3, e3, e⟩ := Mi.bnd_eq e
  refine ⟨ρ, G, δ, xo, G1, rl, sr, e1, fun v ρ1 H1 g1 r1 d1 => ?_⟩
  cases xo with
  | ref h =>
    dsimp only at e
    split at e
    · rename_i kv1 kvs ky eh1 eh3 ek
      cases d1 with
      | @ref _ ad ea =>
        refine ⟨ad, rfl, kr_isD r1 eh1 ea, ρ1, G1, δ, y, G2, r1, sr.gr g1, e2, fun w ρ2 H2 g2 r2 d2 => ⟨ρ2, G2, δ, z, _, r2, sr.gr (g1.trans g2), e3, fun u ρ3 H3 g3 r3 d3 => ?_⟩⟩
        have ew := kOf_v ek d2
        subst ew
        have ea3 : ρ3.r[h]? = some ad := ref_gr (K := X.K) (g2.trans g3) ea
        obtain ⟨ks, h3, kr⟩ := dct_at r3 eh3 ea3
        obtain ⟨i1, i2⟩ := look_ok (k := ky) kr
        refine ⟨ks, kK ky, h3, rfl, fun vv hv => ?_, fun hv => ?_⟩
        · cases el : Mi.look kvs ky with
          | none => rw [i2 el] at hv; cases hv
          | some dd =>
            obtain ⟨v', hv', rv⟩ := i1 dd el
            rw [hv'] at hv
            cases hv
            rw [el] at e
            obtain ⟨rfl, rfl⟩ := Prod.mk.inj (Option.some.inj e)
            obtain ⟨g4, r4⟩ := r3.wr (o := .dK (dropK ks (kK ky))) (m := .dct (Mi.drp kvs ky)) ea3 fun g => .dct upd_same (kr_gr g (drp_ok kr))
            exact q _ _ _ (((g1.trans g2).trans g3).trans g4) r4 (rv.gr g4)
        · cases el : Mi.look kvs ky with
          | none =>
            rw [el] at e
            cases e
            exact q u ρ3 H3 ((g1.trans g2).trans g3) r3 d3
          | some dd =>
            obtain ⟨v', hv', rv⟩ := i1 dd el
            rw [hv'] at hv
            cases hv
    · cases e
  | _ => cases e
theorem m_popK (ho : PE X o (tM X.K kx mo)) (hk : PE X k (tM X.K kx mk)) (m : M1 X o "pop" apos k pos := by exact ⟨rfl, rfl, rfl, rfl⟩) :
    PE X (.Call (.Attribute o "pop" apos) [k] [] pos) (tM X.K kx (mPopK mo mk)) := (pe_dpop1 ho hk m).imp fun σ H Q ⟨ρ, G, δ, d, G', rl, sr, e, q⟩ => by
  obtain ⟨xo, G1, e1, e⟩ := Mi.bnd_eq e
  obtain ⟨y, G2, e2, e⟩ := Mi.bnd_eq e
  refine ⟨ρ, G, δ, xo, G1, rl, sr, e1, fun v ρ1 H1 g1 r1 d1 => ?_⟩
  cases xo with
  | ref h =>
    dsimp only at e
    split at e
    · rename_i kv1 kvs ky eh1 eh2 ek
      split at e
      · rename_i dd el
        cases e
        cases d1 with
        | @ref _ ad ea =>
          refine ⟨ad, rfl, kr_isD r1 eh1 ea, ρ1, G1, δ, y, _, r1, sr.gr g1, e2, fun w ρ2 H2 g2 r2 d2 => ?_⟩
          have ew := kOf_v ek d2
          subst ew
          have ea2 : ρ2.r[h]? = some ad := ref_gr (K := X.K) g2 ea
          obtain ⟨ks, h2, kr⟩ := dct_at r2 eh2 ea2
          obtain ⟨v', hv', rv⟩ := (look_ok (k := ky) kr).1 _ el
          obtain ⟨g4, r4⟩ := r2.wr (o := .dK (dropK ks (kK ky))) (m := .dct (Mi.drp kvs ky)) ea2 fun g => .dct upd_same (kr_gr g (drp_ok kr))
          exact ⟨ks, kK ky, v', h2, rfl, hv', q v' _ _ ((g1.trans g2).trans g4) r4 (rv.gr g4)⟩
      · cases e
    · cases e
  | _ => cases e
end
/-! ### d[k] as a target among others -/
def gSubK (o i : ME) : MG := fun d δ G => match o δ G with
  | some (.ref h, G2) => match i δ G2 with
    | some (y, G3) => match G3[h]?, Mi.kOf y with
      | some (.dct kvs), some k => if kvs.length < Mi.big then some (δ, G3.set h (.dct (Mi.put kvs k d))) else none
      | _, _ => none
    | _ => none
  | _ => none
theorem g_subK {X : Cx} {kx : Kx} {o i : Expr} {mo mi : ME} {pos' : Pos} (hu : X.A.units + 1 < cLine) (ho : PE X o (tM X.K kx mo)) (hi : PE X i (tM X.K kx mi))
    (ha : ∀ v, assign (.Subscript o i pos') X.env v = (do let ov ← holding [v] (eval o X.env); let iv ← holding [v, ov] (eval i X.env); standAt pos'; holding [v, ov, iv] (setItem ov iv v); release [v, ov, iv] []) := by intro _; rfl) : PG X (.Subscript o i pos') (tG X.K kx [] (gSubK mo mi)) :=
  (pg_sub ho hi (set_dict hu) ha).imp fun w σ H Q ⟨ρ, G, δ, y, δ', G', rl, sr, d1, e, k⟩ => by
  unfold gSubK at e
  split at e
  · rename_i h G2 e2
    split at e
    · rename_i kk G3 e3
      split at e
      · rename_i kvs ky eh ek
        split at e
        · rename_i hz
          cases e
          refine ⟨ρ, G, δ, _, G2, rl, sr, e2, fun v ρ2 H2 g2 r2 d2 => ⟨ρ2, G2, δ, _, G3, r2, sr.gr g2, e3, fun u ρ3 H3 g3 r3 d3 => ?_⟩⟩
          have eu := kOf_v ek d3
          subst eu
          cases d2 with
          | ref ea =>
            have ea3 := ref_gr (K := X.K) g3 ea
            obtain ⟨ks, h3, kr⟩ := dct_at r3 eh ea3
            obtain ⟨g4, r4⟩ := r3.wr (o := .dK (putK ks (kK ky) w)) (m := .dct (Mi.put kvs ky y)) ea3 fun g => .dct upd_same (kr_gr g (put_ok kr (d1.gr (g2.trans g3))))
            exact ⟨_, _, rfl, DPut.k h3 (by rw [← AR.len kr, ← big_line]; exact hz), k _ σ _ ((g2.trans g3).trans g4) r4 (sr.gr ((g2.trans g3).trans g4)) rfl fun _ _ => rfl⟩
        · cases e
      · cases e
    · cases e
  · cases e
end Ms

/-! PyDl: dict(xs) of a list of pairs; k in d. -/
namespace Ms
open PySem L2
open Mi (Dv MO Sto Sl Rs bnd ME MT MA MS MF Fl MG MGs MI)
/-- the pairs (key, value) -/
def prs : List Dv → Option (List (Mi.Key × Dv))
  | [] => some []
  | .tup [k, v] :: r => match Mi.kOf k, prs r with
    | some k, some kvs => some ((k, v) :: kvs)
    | _, _ => none
  | _ => none
def mergeD (kvs : List (Mi.Key × Dv)) : List (Mi.Key × Dv) := kvs.foldl (fun m p => Mi.put m p.1 p.2) []
def fDictL : List Dv → Sto → Rs Dv
  | [x], G => match Mi.lstOf G x with
    | some xs => match prs xs with
      | some kvs => some (.ref G.length, G ++ [.dct (mergeD kvs)])
      | none => none
    | none => none
  | _, _ => none
theorem prs_at {K : PySem.W.Frag} {ρ : Rh} {H : Hp} : ∀ {xs : List Dv} {vs : List V} {kvs : List (Mi.Key × Dv)}, DRs K ρ H xs vs → prs xs = some kvs →
    ∃ (ps : List Addr) (ks : List (L2.Key × V)), vs = ps.map V.ref ∧ Paired (fun p (kv : L2.Key × V) => SqT K H p [kV kv.1, kv.2]) ps ks ∧ KR K ρ H kvs ks
  | _, _, _, .nil, e => by cases e; exact ⟨[], [], rfl, .nil, .nil⟩
  | .tup [k, v] :: r, _, _, .cons a b, e => by
    rw [prs] at e
    split at e
    · rename_i ky kr ek er
      cases e
      obtain ⟨ps, ks, e1, p1, r1⟩ := prs_at b er
      cases a with
      | @tup t _ _ ht dt =>
        cases dt with
        | cons dk dv =>
          cases dv with
          | cons dv dn =>
            cases dn
            have ev := kOf_v ek dk
            subst e1
            subst ev
            exact ⟨t :: ps, (kK ky, _) :: ks, rfl, .cons ht p1, .cons ⟨rfl, dv⟩ r1⟩
    · cases e
theorem merge_kr {K : PySem.W.Frag} {ρ : Rh} {H : Hp} : ∀ {kvs : List (Mi.Key × Dv)} {ks : List (L2.Key × V)} {m : List (Mi.Key × Dv)} {n : List (L2.Key × V)}, KR K ρ H kvs ks → KR K ρ H m n → KR K ρ H (kvs.foldl (fun m p => Mi.put m p.1 p.2) m) (mergeK n ks)
  | _, _, _, _, .nil, q => q
  | (j, x) :: r, (j', v) :: r', _, _, .cons ⟨h1, h2⟩ t, q => by
    have h1' : j' = kK j := h1
    subst h1'
    have step := merge_kr t (put_ok (k := j) q h2)
    exact step
theorem f_dictL {X : Cx} {kx : Kx} : Bok X kx fDictL (relOf (call_dictP (X := X))) := by
  intro xs G d G' ρ H vs Q e rl ds k
  unfold fDictL at e
  split at e
  · split at e
    · rename_i ys hy
      split at e
      · rename_i kvs ek
        cases e
        cases ds with
        | cons a b =>
          cases b
          obtain ⟨ad, us, ev, hs, dr⟩ := lstOf_at rl hy a
          subst ev
          obtain ⟨ps, ks, e1, p1, kr⟩ := prs_at dr ek
          subst e1
          refine ⟨ad, ps, ks, rfl, hs, p1, fun p hp => ?_⟩
          obtain ⟨g, r⟩ := rl.grow (p := p) (o := .dK (mergeK [] ks)) (m := .dct (mergeD kvs)) hp fun g => .dct upd_same (kr_gr g (merge_kr kr .nil))
          refine k (.ref p) _ _ g r (.ref ?_)
          rw [← rl.len, List.getElem?_append_right (Nat.le_refl _)]
          simp
      · cases e
    · cases e
  · cases e
end Ms

/-! PyLd: len of a dict. -/
namespace Ms
open PySem L2
open Mi (Dv MO Sto Sl Rs bnd ME MT MA MS MF Fl MG MGs MI)
def fLenD : List Dv → Sto → Rs Dv
  | [.ref h], G => match G[h]? with
    | some (.dct kvs) => some (.int kvs.length, G)
    | _ => none
  | _, _ => none
theorem f_lenD {X : Cx} {kx : Kx} : Bok X kx fLenD (fun xs H Q => ∃ (a : Addr) (kvs : List (L2.Key × V)), xs = [V.ref a] ∧ H a = some (.dK kvs) ∧ Q (.int kvs.length) H) := by
  intro xs G d G' ρ H vs Q e rl ds k
  unfold fLenD at e
  split at e
  · rename_i h
    split at e
    · rename_i kvs eh
      cases e
      cases ds with
      | cons a b =>
        cases b
        cases a with
        | ref ea =>
          obtain ⟨ks, h1, kr⟩ := dct_at rl eh ea
          have z : kvs.length = ks.length := kr.len
          exact ⟨_, ks, rfl, h1, z ▸ k _ ρ H Gr.refl rl (.int _)⟩
    · cases e
  · cases e
end Ms

/-! PyM3: max of three ints. -/
namespace Ms
open PySem L2
open Mi (Dv MO Sto Sl Rs bnd ME MT MA MS MF Fl MG MGs MI)
def fMax3 : List Dv → Sto → Rs Dv
  | [.int a, .int b, .int c], G => some (.int (max (max a b) c), G)
  | _, _ => none
theorem max3_is (a b c : Int) : nuMax3 (.int a) (.int b) (.int c) = some (.int (max (max a b) c)) := by
  have two : ∀ x y : Int, nuMax2 (.int x) (.int y) = some (.int (max x y)) := fun x y => by
    have lt : nuLt (.int x) (.int y) = some (decide (x < y)) := rfl
    unfold nuMax2
    rw [lt, Option.map_some]
    by_cases h : x < y
    · rw [decide_eq_true h, if_pos rfl, Int.max_eq_right (Int.le_of_lt h)]
    · rw [decide_eq_false h, if_neg Bool.false_ne_true, Int.max_eq_left (by omega)]
  unfold nuMax3
  rw [two]
  exact two _ _
theorem f_max3 {X : Cx} {kx : Kx} : Bok X kx fMax3 (rNuC3 nuMax3) := by
  intro xs G d G' ρ H vs Q e rl ds k
  unfold fMax3 at e
  split at e
  · cases e
    cases ds with
    | cons d1 r1 =>
      cases r1 with
      | cons d2 r2 =>
        cases r2 with
        | cons d3 r3 =>
          cases r3
          cases d1
          cases d2
          cases d3
          exact ⟨_, _, _, _, rfl, max3_is _ _ _, k _ ρ H Gr.refl rl (.int _)⟩
  · cases e
end Ms

/-! PyIn: k in d; list(d) of a dict with int keys. -/
namespace Ms
open PySem L2
open Mi (Dv MO Sto Sl Rs bnd ME MT MA MS MF Fl MG MGs MI)
/-- i in d, i not in d -/
def bInD (neg : Bool) : Mi.B2 := fun x y G => match x, y with
  | .int i, .ref h => match G[h]? with
    | some (.dct kvs) => some (.bl ((Mi.look kvs (.inl i)).isSome != neg), G)
    | some (.fdc kvs) => some (.bl ((Mi.look kvs (.inl i)).isSome != neg), G)
    | _ => none
  | .str z, .ref h => match G[h]? with
    | some (.dct kvs) => some (.bl ((Mi.look kvs (.inr z)).isSome != neg), G)
    | some (.fdc kvs) => some (.bl ((Mi.look kvs (.inr z)).isSome != neg), G)
    | _ => none
  | _, _ => none
theorem look_same {K : PySem.W.Frag} {ρ : Rh} {H : Hp} {kvs : List (Mi.Key × Dv)} {ks : List (L2.Key × V)} (kr : KR K ρ H kvs ks) (k : Mi.Key) : (valV ks (kK k)).isSome = (Mi.look kvs k).isSome := by
  obtain ⟨i1, i2⟩ := look_ok (k := k) kr
  cases el : Mi.look kvs k with
  | none => rw [i2 el]; rfl
  | some d =>
    obtain ⟨u, hu, _⟩ := i1 d el
    rw [hu]
    rfl
def rInDct (neg : Bool) : R2 := fun x y H Q => ∃ (a : Addr) (o : Option V), y = .ref a ∧ DGet H a x o ∧ Q (.bl (o.isSome != neg)) H
theorem op_inDct {X : Cx} (hu : X.A.units + 1 < cLine) : OpR X (compareOp .In) (rInDct false) := by
  rintro pins s σ H x y v u Q I rx ry ⟨a, o, rfl, g, q⟩
  cases (show (u = Value.ref a) from ry)
  refine d_in hu I g rx fun s' I' => ⟨.bl o.isSome, H, I', rfl, ?_⟩
  simpa using q
theorem op_notInDct {X : Cx} (hu : X.A.units + 1 < cLine) : OpR X (compareOp .NotIn) (rInDct true) := by
  rintro pins s σ H x y v u Q I rx ry ⟨a, o, rfl, g, q⟩
  cases (show (u = Value.ref a) from ry)
  refine d_notIn hu I g rx fun s' I' => ⟨.bl (!o.isSome), H, I', rfl, ?_⟩
  simpa using q
theorem b_inDct {X : Cx} {kx : Kx} (neg : Bool) : B2ok X kx (bInD neg) (rInDct neg) := by
  intro x y G d G' ρ H v w Q e rl dx dy k
  have go : ∀ (h : Nat) (ad : Addr) (kvs : List (Mi.Key × Dv)) (ky : Mi.Key), ρ.r[h]? = some ad → v = kV (kK ky) → G[h]? = some (.dct kvs) ∨ G[h]? = some (.fdc kvs) → some ((Dv.bl ((Mi.look kvs ky).isSome != neg), G) : Dv × Sto) = some (d, G') → w = .ref ad → rInDct neg v w H Q := by
    rintro h ad kvs ky ea rfl eh e rfl
    cases e
    rcases eh with eh | eh
    · obtain ⟨ks, h1, kr⟩ := dct_at rl eh ea
      refine ⟨ad, _, rfl, DGet.k (k := kK ky) h1, ?_⟩
      rw [look_same kr]
      exact k (.bl _) ρ H Gr.refl rl (.bl _)
    · obtain ⟨ks, o, h1, kr⟩ := fdc_at rl eh ea
      refine ⟨ad, _, rfl, .inl ⟨ks, kK ky, .inr ⟨o, h1⟩, rfl, rfl⟩, ?_⟩
      rw [look_same kr]
      exact k (.bl _) ρ H Gr.refl rl (.bl _)
  unfold bInD at e
  split at e
  · cases dx
    cases dy with
    | ref ea =>
      split at e
      · rename_i eh
        exact go _ _ _ (.inl _) ea rfl (.inl eh) e rfl
      · rename_i eh
        exact go _ _ _ (.inl _) ea rfl (.inr eh) e rfl
      · cases e
  · cases dx
    cases dy with
    | ref ea =>
      split at e
      · rename_i eh
        exact go _ _ _ (.inr _) ea rfl (.inl eh) e rfl
      · rename_i eh
        exact go _ _ _ (.inr _) ea rfl (.inr eh) e rfl
      · cases e
  · cases e
/-- list(d): its keys, all whole numbers -/
def fListD (m : Bool) : List Dv → Sto → Rs Dv
  | [.ref h], G => match G[h]? with
    | some (.dct kvs) => match keyInts kvs with
      | some ns => some (Mi.mkL m (ns.map Dv.int) G)
      | none => none
    | _ => none
  | _, _ => none
theorem f_listD {X : Cx} {kx : Kx} (m : Bool) : Bok X kx (fListD m) (relOf (call_listD (X := X))) := by
  intro xs G d G' ρ H vs Q e rl ds k
  unfold fListD at e
  split at e
  · split at e
    · rename_i kvs eh
      split at e
      · rename_i ns en
        cases ds with
        | cons a b =>
          cases b
          cases a with
          | @ref _ ad ea =>
            obtain ⟨ks, h1, kr⟩ := dct_at rl eh ea
            have kk := keyInts_keys kr en
            have im : ks.map (fun kv => kV kv.1) = ns.map V.int := by
              have := congrArg (List.map kV) kk
              rw [List.map_map, List.map_map] at this
              exact this
            refine ⟨ad, ks, rfl, .inl h1, fun q hq => ?_⟩
            rw [im]
            refine mkL_ok (m := m) rl (drs_ints ns) ?_ q hq
            rw [Option.some.inj e]
            exact fun z ρ' H' g r w => k z ρ' H' g r w
      · cases e
    · cases e
  · cases e
end Ms

/-! PyDi: walks over a dict: it is locked meanwhile. -/
namespace Ms
open PySem L2
open Mi (Dv MO Sto Sl Rs bnd ME MT MA MS MF Fl MG MGs MI)
def keyD : Mi.Key → Dv
  | .inl i => .int i
  | .inr x => .str x
theorem keyD_v {K : PySem.W.Frag} {ρ : Rh} {H : Hp} (k : Mi.Key) : DR K ρ H (keyD k) (kV (kK k)) := by
  cases k with
  | inl i => exact .int i
  | inr x => exact .str x
theorem Sr.gv {K : PySem.W.Frag} {ρ ρ' : Rh} {H H' : Hp} {δ : Sl} {σ : St} (s : Sr K ρ H δ σ) (g : Gv ρ H ρ' H') : Sr K ρ' H' δ σ := ⟨s.len, fun i d e => let ⟨v, h1, h2⟩ := s.at_ i d e; ⟨v, h1, h2.gv g⟩⟩
/-! ### locks -/
open Classical in
/-- the statement s while the dict that a tells is locked -/
noncomputable def mLockS (a : ME) (s : MS) : MS := fun δ G => match a δ G with
  | some (.ref h, _) => match G[h]? with
    | some (.dct kvs) => match s δ (G.set h (.fdc kvs)) with
      | some (f, δ', G') => if G'[h]? = some (.fdc kvs) then some (f, δ', G'.set h (.dct kvs)) else none
      | none => none
    | _ => none
  | _ => none
open Classical in
/-- the expression e while the dict that a tells is locked -/
noncomputable def mLockE (a : ME) (e : ME) : ME := fun δ G => match a δ G with
  | some (.ref h, _) => match G[h]? with
    | some (.dct kvs) => match e δ (G.set h (.fdc kvs)) with
      | some (d, G') => if G'[h]? = some (.fdc kvs) then some (d, G'.set h (.dct kvs)) else none
      | none => none
    | _ => none
  | _ => none
section
variable {K : PySem.W.Frag} {kx : Kx} {ρ ρ' : Rh} {G G' : Sto} {H H' : Hp} {h : Nat} {ad : Addr} {kvs : List (Mi.Key × Dv)} {ks : List (L2.Key × V)} {o : Obj}
/-- what has grown since a lock, told since ahead of it -/
theorem Gr.unlocked (ha : ad ∈ ρ.r) (hd : H ad = some (.dK ks)) (g : Gr ρ (upd H ad (.frz o (.dK ks))) ρ' H') : Gr ρ H ρ' (upd H' ad (.dK ks)) := by
  have ne : ∀ {b : Addr} {u : HO}, H b = some u → (∀ q, u ≠ .dK q) → b ≠ ad := fun e n z => by
    rw [z, hd] at e
    exact n ks (Option.some.inj e).symm
  refine ⟨g.pre, fun b hb => ?_, fun b u e nb nt => ?_, fun b xs e => ?_, fun b p u e => ?_, fun b φ e => ?_⟩
  · rcases g.new b hb with q | q
    · exact .inl q
    · by_cases z : b = ad
      · exact .inl (by rw [z]; exact ha)
      · exact .inr (nf_of q z)
  · have z : b ≠ ad := fun z => nb (by rw [z]; exact ha)
    rw [upd_ne z]
    exact g.kp b u (by rw [upd_ne z]; exact e) nb nt
  · have z := ne e fun q w => nomatch w
    rw [upd_ne z]
    exact g.tu b xs (by rw [upd_ne z]; exact e)
  · have z := ne e fun q w => nomatch w
    rw [upd_ne z]
    exact g.fz b p u (by rw [upd_ne z]; exact e)
  · have z := ne e fun q w => nomatch w
    rw [upd_ne z]
    exact g.ex b φ (by rw [upd_ne z]; exact e)
theorem Rl.unlock (r : Rl K kx ρ G H) (e : ρ.r[h]? = some ad) (eo : G[h]? = some (.fdc kvs)) (hd : H ad = some (.frz o (.dK ks))) : Gv ρ H ρ (upd H ad (.dK ks)) ∧ Rl K kx ρ (G.set h (.dct kvs)) (upd H ad (.dK ks)) := by
  have ha : ad ∈ ρ.r := List.mem_of_getElem? e
  have w : Gv ρ H ρ (upd H ad (.dK ks)) := by
    refine ⟨⟨[], by simp⟩, fun b xs q n1 n2 => ⟨?_, n1, n2⟩, fun b xs q => ?_, fun b p u n q => ?_, fun b φ q => ?_⟩
    · rw [upd_ne fun z => n1 (by rw [z]; exact ha)]
      exact q
    · rw [upd_ne fun z => by rw [z, hd] at q; cases q]
      exact q
    · rw [upd_ne fun z => by rw [z, hd] at q; cases q; exact n _ rfl]
      exact q
    · rw [upd_ne fun z => by rw [z, hd] at q; cases q]
      exact q
  refine ⟨w, by rw [List.length_set]; exact r.len, r.nd, fun i u ei => ?_, fun c hc => (r.gl c hc).gv w, fun a hx => ?_, fun c hc => tab_keep (r.tb c hc) (upd_ne fun z => (r.tn hc).1 (by rw [z]; exact ha)) w.ex⟩
  · by_cases hi : i = h
    · subst hi
      have hl : i < G.length := by rw [← r.len]; exact (List.getElem?_eq_some_iff.mp e).1
      rw [List.getElem?_set_self hl] at ei
      cases ei
      obtain ⟨ks', o', h1, kr⟩ := fdc_at r eo e
      rw [hd] at h1
      cases h1
      exact ⟨ad, e, .dct upd_same (kr.imp fun _ _ q => ⟨q.1, q.2.gv w⟩)⟩
    · rw [List.getElem?_set_ne (Ne.symm hi)] at ei
      obtain ⟨b, h1, h2⟩ := r.ob i u ei
      refine ⟨b, h1, h2.gv w (upd_ne fun z => hi ?_)⟩
      subst z
      obtain ⟨l1, e1⟩ := List.getElem?_eq_some_iff.mp h1
      obtain ⟨l2, e2⟩ := List.getElem?_eq_some_iff.mp e
      exact (List.getElem_inj r.nd).mp (e1.trans e2.symm)
  · obtain ⟨⟨u, q, nt⟩, n⟩ := r.xt a hx
    exact ⟨⟨u, by rw [upd_ne (fun z => n (by rw [z]; exact ha))]; exact q, nt⟩, n⟩
end
section
variable {X : Cx} {kx : Kx} {e a tg : Expr} {ma me : ME} {st : Stmt} {ms : MS}
theorem dk_mut {H : Hp} {ad : Addr} {ks : List (L2.Key × V)} : Mut (some (HO.dK ks)) := trivial
theorem s_lock (h : PS X st (sM X.K kx ms)) : PS X st (sM X.K kx (mLockS ma ms)) := (ps_lock h).imp fun D σ H ⟨ρ, G, δ, f, δ', G', rl, sr, q, k⟩ => by
  unfold mLockS at q
  split at q
  · rename_i hh G0 _
    split at q
    · rename_i kvs eh
      split at q
      · rename_i f1 δ1 G1 es
        split at q
        · rename_i e2
          cases q
          obtain ⟨ad, ea, _⟩ := rl.ob hh _ eh
          obtain ⟨ks, h1, kr⟩ := dct_at rl eh ea
          have ha := List.mem_of_getElem? ea
          refine ⟨ad, .dK ks, h1, trivial, fun od => ?_⟩
          obtain ⟨g0, r0⟩ := rl.wr (o := .frz od (.dK ks)) (m := .fdc kvs) ea (fun g => .fdc upd_same (kr.imp fun _ _ q => ⟨q.1, q.2.gr g⟩)) (fun kv z => by rw [eh] at z; cases z)
          refine ⟨ρ, G.set hh (.fdc kvs), δ, f, δ', G1, r0, sr.gr g0, es, fun ρ2 σ2 H2 g2 r2 s2 => ?_⟩
          have hz : H2 ad = some (.frz od (.dK ks)) := g2.fz ad od _ upd_same
          have ea2 : ρ2.r[hh]? = some ad := ref_gr (K := X.K) g2 ea
          obtain ⟨w, r3⟩ := r2.unlock ea2 e2 hz
          have g3 := g2.unlocked ha h1
          have fin := k ρ2 σ2 _ g3 r3 (s2.gv w)
          cases f with
          | nx => exact ⟨hz, fin⟩
          | bk => exact ⟨hz, fin⟩
          | ct => exact ⟨hz, fin⟩
          | rt d => exact fun v dv => ⟨hz, fin v (dv.gv w)⟩
        · cases q
      · cases q
    · cases q
  · cases q
theorem m_lock (h : PE X e (tM X.K kx me)) : PE X e (tM X.K kx (mLockE ma me)) := (pe_lock h).imp fun σ H Q ⟨ρ, G, δ, d, G', rl, sr, q, k⟩ => by
  unfold mLockE at q
  split at q
  · rename_i hh G0 _
    split at q
    · rename_i kvs eh
      split at q
      · rename_i d1 G1 es
        split at q
        · rename_i e2
          cases q
          obtain ⟨ad, ea, _⟩ := rl.ob hh _ eh
          obtain ⟨ks, h1, kr⟩ := dct_at rl eh ea
          have ha := List.mem_of_getElem? ea
          refine ⟨ad, .dK ks, h1, trivial, fun od => ?_⟩
          obtain ⟨g0, r0⟩ := rl.wr (o := .frz od (.dK ks)) (m := .fdc kvs) ea (fun g => .fdc upd_same (kr.imp fun _ _ q => ⟨q.1, q.2.gr g⟩)) (fun kv z => by rw [eh] at z; cases z)
          refine ⟨ρ, G.set hh (.fdc kvs), δ, d, G1, r0, sr.gr g0, es, fun v ρ2 H2 g2 r2 d2 => ?_⟩
          have hz : H2 ad = some (.frz od (.dK ks)) := g2.fz ad od _ upd_same
          have ea2 : ρ2.r[hh]? = some ad := ref_gr (K := X.K) g2 ea
          obtain ⟨w, r3⟩ := r2.unlock ea2 e2 hz
          exact ⟨hz, k v ρ2 _ (g2.unlocked ha h1) r3 (d2.gv w)⟩
        · cases q
      · cases q
    · cases q
  · cases q
/-! ### what is walked -/
/-- the keys, values, pairs of a locked dict -/
def iDict (f : Mi.Key × Dv → Dv) (a : ME) : MI := fun δ G => bnd (a δ G) fun x G1 => match x with
  | .ref h => match G1[h]? with
    | some (.fdc kvs) => some ((kvs.map f, fun G' => G'[h]? = some (.fdc kvs)), G1)
    | _ => none
  | _ => none
abbrev iKeyL : ME → MI := iDict fun p => keyD p.1
abbrev iValL : ME → MI := iDict fun p => p.2
abbrev iItmL : ME → MI := iDict fun p => .tup [keyD p.1, p.2]
theorem idict_go {f : Mi.Key × Dv → Dv} {σ : St} {H : Hp} {R : It → Hp → Prop} (h : tI X.K kx (iDict f ma) σ H R)
    (J : Addr → Obj → List (L2.Key × V) → It)
    (hJ : ∀ (ρ0 : Rh) (H0 : Hp) (hh : Nat) (ad : Addr) (o : Obj) (ks : List (L2.Key × V)) (kvs : List (Mi.Key × Dv)), ρ0.r[hh]? = some ad → H0 ad = some (.frz o (.dK ks)) → Yl X.K kx ρ0 H0 (J ad o ks) (kvs.map f) (fun G => G[hh]? = some (MO.fdc kvs))) :
    tM X.K kx ma σ H fun x H1 => ∃ d o kvs, x = .ref d ∧ H1 d = some (.frz o (.dK kvs)) ∧ R (J d o kvs) H1 := by
  obtain ⟨ρ, G, δ, ds, st, G', rl, sr, e, k⟩ := h
  obtain ⟨x, G1, e1, e⟩ := Mi.bnd_eq e
  refine ⟨ρ, G, δ, x, G1, rl, sr, e1, fun v ρ1 H1 g1 r1 d1 => ?_⟩
  cases x with
  | ref hh =>
    dsimp only at e
    split at e
    · rename_i kvs eh
      cases e
      cases d1 with
      | @ref _ ad ea =>
        obtain ⟨ks, o, h1, _⟩ := fdc_at r1 eh ea
        exact ⟨ad, o, ks, rfl, h1, k _ ρ1 H1 g1 r1 (hJ ρ1 H1 hh ad o ks kvs ea h1)⟩
    · cases e
  | _ => cases e
/-- while it is locked the dict is what it was -/
theorem fdc_as {ρ0 ρ : Rh} {H0 H : Hp} {G : Sto} {hh : Nat} {ad : Addr} {o : Obj} {ks : List (L2.Key × V)} {kvs : List (Mi.Key × Dv)} (ea : ρ0.r[hh]? = some ad) (h0 : H0 ad = some (.frz o (.dK ks))) (g : Gw ρ0 H0 ρ H) (r : Rl X.K kx ρ G H) (s : G[hh]? = some (.fdc kvs)) : H ad = some (.frz o (.dK ks)) ∧ KR X.K ρ H kvs ks := by
  obtain ⟨t, e⟩ := g.pre
  obtain ⟨ks', o', h1, kr⟩ := fdc_at r s (by rw [e, List.getElem?_append_left (List.getElem?_eq_some_iff.mp ea).1]; exact ea)
  have h2 := g.fz _ _ _ h0
  rw [h2] at h1
  cases h1
  exact ⟨h2, kr⟩
theorem kr_get {K : PySem.W.Frag} {ρ : Rh} {H : Hp} : ∀ {kvs : List (Mi.Key × Dv)} {ks : List (L2.Key × V)} {i : Nat} {p : Mi.Key × Dv}, KR K ρ H kvs ks → kvs[i]? = some p → ∃ q, ks[i]? = some q ∧ q.1 = kK p.1 ∧ DR K ρ H p.2 q.2
  | _, _, i, _, .nil, e => by rw [List.getElem?_nil] at e; cases e
  | _, _, 0, _, .cons a b, e => by
    cases e
    exact ⟨_, rfl, a⟩
  | _, _, i + 1, _, .cons a b, e => kr_get (i := i) b e
theorem i_keyL (ha : PE X a (tM X.K kx ma)) : PI X tg a (tI X.K kx (iKeyL ma)) := (pi_keys ha).imp fun σ H R h => by
  obtain ⟨ρ, G, δ, d, G', rl, sr, e, k⟩ := idict_go h Itk (fun ρ0 H0 hh ad o ks kvs ea h0 => ⟨fun ρ G H g r s => by
      obtain ⟨h1, kr⟩ := fdc_as (X := X) ea h0 g r s
      exact ⟨h1, by rw [List.length_map, AR.len kr]; exact Nat.le_refl _⟩, fun i ρ G H g r s hi => by
      obtain ⟨h1, kr⟩ := fdc_as (X := X) ea h0 g r s
      exact ⟨h1, by rw [List.length_map, AR.len kr] at hi; exact hi⟩, fun i d ρ G H x H' g r s hd hy => by
      obtain ⟨h1, kr⟩ := fdc_as (X := X) ea h0 g r s
      obtain ⟨eH, k, v, ek, ex⟩ := hy
      subst eH ex
      rw [List.getElem?_map] at hd
      cases ep : kvs[i]? with
      | none => rw [ep] at hd; cases hd
      | some p =>
        rw [ep] at hd
        cases hd
        obtain ⟨q, eq, e1, _⟩ := kr_get kr ep
        rw [ek] at eq
        cases eq
        cases e1
        exact ⟨Gr.refl, r, keyD_v _⟩⟩)
  exact ⟨ρ, G, δ, d, G', rl, sr, e, fun v ρ' H' g r dv => by
    obtain ⟨d, o, kvs, h1, h2, h3⟩ := k v ρ' H' g r dv
    exact ⟨d, o, h1, .inl ⟨kvs, h2, h3⟩⟩⟩
theorem i_valL {apos cpos : Pos} (ha : PE X a (tM X.K kx ma)) (hbase : attributeBase a "values" X.env (eval a X.env) = eval a X.env := by rfl) (hline : (apos.endLine == cpos.line) = true := by rfl) : PI X tg (.Call (.Attribute a "values" apos) [] [] cpos) (tI X.K kx (iValL ma)) := (pi_values ha hbase hline).imp fun σ H R h =>
  idict_go h Itd (fun ρ0 H0 hh ad o ks kvs ea h0 => ⟨fun ρ G H g r s => by
      obtain ⟨h1, kr⟩ := fdc_as (X := X) ea h0 g r s
      exact ⟨h1, by rw [List.length_map, AR.len kr]; exact Nat.le_refl _⟩, fun i ρ G H g r s hi => by
      obtain ⟨h1, kr⟩ := fdc_as (X := X) ea h0 g r s
      exact ⟨h1, by rw [List.length_map, AR.len kr] at hi; exact hi⟩, fun i d ρ G H x H' g r s hd hy => by
      obtain ⟨h1, kr⟩ := fdc_as (X := X) ea h0 g r s
      obtain ⟨eH, k, ek⟩ := hy
      subst eH
      rw [List.getElem?_map] at hd
      cases ep : kvs[i]? with
      | none => rw [ep] at hd; cases hd
      | some p =>
        rw [ep] at hd
        cases hd
        obtain ⟨q, eq, e1, dq⟩ := kr_get kr ep
        rw [ek] at eq
        cases eq
        exact ⟨Gr.refl, r, dq⟩⟩)
theorem i_itmL {elts : List Expr} {kk : Nat} {tpos apos cpos : Pos} (ha : PE X a (tM X.K kx ma)) (hbase : attributeBase a "items" X.env (eval a X.env) = eval a X.env := by rfl) (hline : (apos.endLine == cpos.line) = true := by rfl) : PI X (.Tuple elts kk tpos) (.Call (.Attribute a "items" apos) [] [] cpos) (tI X.K kx (iItmL ma)) := (pi_items ha hbase hline).imp fun σ H R h =>
  idict_go h Iti (fun ρ0 H0 hh ad o ks kvs ea h0 => ⟨fun ρ G H g r s => by
      obtain ⟨h1, kr⟩ := fdc_as (X := X) ea h0 g r s
      exact ⟨h1, by rw [List.length_map, AR.len kr]; exact Nat.le_refl _⟩, fun i ρ G H g r s hi => by
      obtain ⟨h1, kr⟩ := fdc_as (X := X) ea h0 g r s
      exact ⟨h1, by rw [List.length_map, AR.len kr] at hi; exact hi⟩, fun i d ρ G H x H' g r s hd hy => by
      obtain ⟨h1, kr⟩ := fdc_as (X := X) ea h0 g r s
      obtain ⟨T, k, v, ek, ex, hT, eH⟩ := hy
      subst eH ex
      rw [List.getElem?_map] at hd
      cases ep : kvs[i]? with
      | none => rw [ep] at hd; cases hd
      | some p =>
        rw [ep] at hd
        cases hd
        obtain ⟨q, eq, e1, dq⟩ := kr_get kr ep
        rw [ek] at eq
        cases eq
        cases e1
        obtain ⟨g2, r2⟩ := r.side (.tup [kV (kK p.1), v]) hT
        exact ⟨g2, r2, .tup (SqT.of upd_same) (.cons (keyD_v _) (.cons (dq.gr g2) .nil))⟩⟩)
end
end Ms

/-! PyAi: xs[i] += e. -/
namespace Ms
open PySem PySem.Spec L2 PyProof.Rows PySem.Calls
open Mi (Dv MO Sto Sl Rs bnd ME MT MA MS MF Fl MG MGs MI)
/-! ### xs[i] op= e, whole numbers -/
def mAugI (p : Int → Int → Int) (o i e : ME) : MS := fun δ G => match o δ G with
  | some (.ref h, G1) => match i δ G1 with
    | some (.int k, G2) => match G2[h]? with
      | some (.lst xs) => match if 0 ≤ k then xs[k.toNat]? else none with
        | some (.int x) => match e δ G2 with
          | some (.int y, G3) => match G3[h]? with
            | some (.lst zs) => match Mi.ixN zs.length k with
              | some j => some (.nx, δ, G3.set h (.lst (zs.set j (.int (p x y)))))
              | none => none
            | _ => none
          | _ => none
        | _ => none
      | _ => none
    | _ => none
  | _ => none
/-- xs[k] of a list, k not negative -/
def rGetL (K : PySem.W.Frag) : V → V → Hp → VK → Prop := fun o i H Q => ∃ (a : Addr) (xs : List V) (k : Int) (x : V), o = .ref a ∧ i = .int k ∧ SqL K H a xs ∧ 0 ≤ k ∧ xs[k.toNat]? = some x ∧ Q x H
theorem get_lst {X : Cx} : PGet X (rGetL X.K) := fun pins s σ H o i ov iv Q I ro ri ⟨a, xs, k, x, eo, ei, sq, k0, at_, q⟩ => by
  rw [eo] at ro
  rw [ei] at ri
  have ⟨t, et⟩ := ri
  have ⟨us, vals, lst, few⟩ := I.list sq
  have ⟨u, atu, ru⟩ := vals.get at_
  have room : xs.length ≤ 2 ^ 62 := Nat.le_trans few (by decide)
  have inside : k.toNat < xs.length := (List.getElem?_eq_some_iff.mp at_).1
  rw [show ov = Value.ref a from ro, et]
  exact wpAny_getItem_list lst.isList k0 (by omega) ((List.getElem?_toArray ..).trans atu) ⟨x, H, I, ru, q⟩
section
variable {X : Cx} {kx : Kx} {o i e : Expr} {mo mi me : ME} {pos tpos : Pos}
theorem s_augI {op : Operator} {p : Int → Int → Int} (hp : PIp X op (ipI p)) (ho : PE X o (tM X.K kx mo)) (hi : PE X i (tM X.K kx mi)) (he : PE X e (tM X.K kx me))
    (ha : ∀ ov iv new, augStore i ov iv new = (do holding [new, ov, iv] (setItem ov iv new); release [new, ov, iv] []; pure .next) := by intros; rfl) : PS X (.AugAssign (.Subscript o i tpos) op e pos) (sM X.K kx (mAugI p mo mi me)) :=
  (ps_augS ho hi get_lst he hp set_list ha).imp fun D σ H ⟨ρ, G, δ, fl, δ', G', rl, sr, q, k⟩ => by
  unfold mAugI at q
  split at q
  · rename_i h G1 e1
    split at q
    · rename_i kk G2 e2
      split at q
      · rename_i xs eh
        split at q
        · rename_i x ex
          split at q
          · rename_i y G3 e3
            split at q
            · rename_i zs eh2
              split at q
              · rename_i j ej
                cases q
                refine ⟨ρ, G, δ, _, G1, rl, sr, e1, fun v ρ1 H1 g1 r1 d1 => ⟨ρ1, G1, δ, _, G2, r1, sr.gr g1, e2, fun w ρ2 H2 g2 r2 d2 => ?_⟩⟩
                cases d2
                cases d1 with
                | @ref _ ad ea =>
                  have ea2 := ref_gr (K := X.K) g2 ea
                  obtain ⟨vs, h3, rv⟩ := lst_at r2 eh ea2
                  have k0 : 0 ≤ kk := Decidable.byContradiction fun z => by rw [if_neg z] at ex; cases ex
                  rw [if_pos k0] at ex
                  obtain ⟨u, hu, du⟩ := rv.get ex
                  cases du
                  refine ⟨ad, vs, kk, _, rfl, rfl, SqL.of h3, k0, hu, ρ2, G2, δ, _, G3, r2, sr.gr (g1.trans g2), e3, fun z ρ3 H3 g3 r3 d3 => ?_⟩
                  cases d3
                  have ea3 := ref_gr (K := X.K) g3 ea2
                  obtain ⟨ws, h4, rw4⟩ := lst_at r3 eh2 ea3
                  obtain ⟨g4, r4⟩ := r3.wr (o := .lst (ws.set j (.int (p x y)))) (m := .lst (zs.set j (.int (p x y)))) ea3 fun g => .lst upd_same ((rw4.set j (.int _)).gr g)
                  exact ⟨x, y, rfl, rfl, ad, ws, kk, j, rfl, rfl, h4, by rw [← ixN_dr rw4]; exact ej, k _ σ _ (((g1.trans g2).trans g3).trans g4) r4 (sr.gr (((g1.trans g2).trans g3).trans g4))⟩
              · cases q
            · cases q
          · cases q
        · cases q
      · cases q
    · cases q
  · cases q
end
end Ms

/-! PyAg: sorted of pairs of ints, of a dict of any size; enumerate of either. -/
namespace Ms
open PySem PySem.Spec L2 PyProof.Rows PySem.Calls
open Mi (Dv MO Sto Sl Rs bnd ME MT MA MS MF Fl MG MGs MI)
/-! ### sorted(xs), pairs of ints, any number of them -/
def PrT (K : PySem.W.Frag) (H : Hp) (p : Int × Int) (x : V) : Prop := ∃ t, x = .ref t ∧ SqT K H t [.int p.1, .int p.2]
/-- no later one is less than an earlier one -/
def upP (x y : Int × Int) : Prop := SrtO.lexB y x = false
def rSortedPP (K : PySem.W.Frag) : List V → Hp → VK → Prop := fun vs H Q => ∃ (a : Addr) (xs : List V) (ps : List (Int × Int)), vs = [.ref a] ∧ SqL K H a xs ∧ AR (PrT K H) ps xs ∧
  ∀ (ys : List V) (qs : List (Int × Int)) (p : Addr), qs.Perm ps → qs.Pairwise upP → AR (PrT K H) qs ys → H p = none → Q (.ref p) (upd H p (.lst ys))
theorem ar_mem {α β : Type} {R : α → β → Prop} : ∀ {as : List α} {bs : List β}, AR R as bs → ∀ b ∈ bs, ∃ a ∈ as, R a b
  | _, _, .nil, b, h => nomatch h
  | _, _, .cons r rest, b, h => by
    cases h with
    | head => exact ⟨_, List.mem_cons_self .., r⟩
    | tail _ h =>
      obtain ⟨a, ha, q⟩ := ar_mem rest b h
      exact ⟨a, List.mem_cons_of_mem _ ha, q⟩
theorem ar_of {α β : Type} {R : α → β → Prop} {f : β → α} : ∀ {bs : List β}, (∀ b ∈ bs, R (f b) b) → AR R (bs.map f) bs
  | [], _ => .nil
  | b :: bs, h => .cons (h b (List.mem_cons_self ..)) (ar_of fun c hc => h c (List.mem_cons_of_mem _ hc))
theorem ar_uniq {α β : Type} {R : α → β → Prop} {f : β → α} : ∀ {as : List α} {bs : List β}, AR R as bs → (∀ a b, R a b → b ∈ bs → a = f b) → as = bs.map f
  | _, _, .nil, _ => rfl
  | _, _, .cons r rest, h => by rw [List.map_cons, h _ _ r (List.mem_cons_self ..), ar_uniq rest fun a b q hb => h a b q (List.mem_cons_of_mem _ hb)]
theorem ar_map {α β γ : Type} {R : α → γ → Prop} {g : β → γ} : ∀ {as : List α} {bs : List β}, AR R as (bs.map g) → AR (fun a b => R a (g b)) as bs
  | _, [], .nil => .nil
  | _, b :: bs, .cons r rest => .cons r (ar_map rest)
open Classical in
theorem cr_sortedPP {X : Cx} : CallR X (.builtin "sorted") (rSortedPP X.K) := by
  rintro pins s σ H _ us Q I r ⟨a, xs, ps, rfl, hs, hx, q⟩
  have ⟨its, rv, hl, hz⟩ := I.list hs
  rw [Vals.ref1 r]
  have one : ∀ {x : V} {p p' : Int × Int}, PrT X.K H p x → PrT X.K H p' x → p = p' := by
    rintro x ⟨p1, p2⟩ ⟨q1, q2⟩ ⟨t, rfl, h1⟩ ⟨t', e, h2⟩
    cases e
    cases I.tuple_inj h1 h2
    rfl
  obtain ⟨e1, e2⟩ := refs_back rv fun w mw => by
    obtain ⟨p, _, t, e, _⟩ := ar_mem hx w mw
    exact ⟨t, e⟩
  let k : Value → Int × Int := fun u => if h : ∃ p, PrT X.K H p (backV u) then Classical.choose h else (0, 0)
  have hk : ∀ u ∈ its, PrT X.K H (k u) (backV u) := fun u hu => by
    have m : backV u ∈ xs := by rw [e1]; exact List.mem_map_of_mem hu
    obtain ⟨p, _, hp⟩ := ar_mem hx _ m
    have ex : ∃ p, PrT X.K H p (backV u) := ⟨p, hp⟩
    show PrT X.K H (if h : ∃ p, PrT X.K H p (backV u) then Classical.choose h else (0, 0)) _
    rw [dif_pos ex]
    exact Classical.choose_spec ex
  have eps : ps = its.map k := by
    have h2 : AR (fun p u => PrT X.K H p (backV u)) ps its := ar_map (by rw [← e1]; exact hx)
    exact ar_uniq h2 fun p u hp hu => one hp (hk u hu)
  refine SrtO.sorted_pairsO (k := k) hl.isList (by rw [← rv.length]; exact hz) (fun u hu => ?_) fun h' d out h1 h2 kp hd hn => ?_
  · obtain ⟨t, et, ht⟩ := hk u hu
    obtain ⟨b, rfl⟩ := e2 u hu
    cases et
    obtain ⟨us2, r2, ⟨o, ho, hc, n, hd⟩, _⟩ := I.tuple ht
    obtain ⟨u1, u2, rfl, ⟨t1, rfl⟩, ⟨t2, rfl⟩⟩ := vals2 r2
    exact ⟨_, o, t1, t2, n, rfl, ho, hc, hd⟩
  · have inn : ∀ u ∈ out, u ∈ its := fun u hu => h2.perm.mem_iff.mp hu
    obtain ⟨n, hn⟩ := hn
    have fits : (out.map backV).length ≤ sizeLine := by
      rw [List.length_map, h2.len, ← rv.length]
      exact hz
    refine ⟨.ref d, upd H d (.lst (out.map backV)), I.laid (t' := s.toks) kp hd ⟨fits, out, n, vals_back fun u hu => e2 u (inn u hu), hn⟩, rfl, q _ (out.map k) d (by rw [eps]; exact h2.perm.map k) (List.pairwise_map.mpr h1) ?_ (I.hok.fresh hd)⟩
    have : AR (fun p u => PrT X.K H p (backV u)) (out.map k) out := ar_of fun u hu => hk u (inn u hu)
    clear q
    revert this
    generalize out.map k = qs
    clear h1 h2 hn inn fits
    intro z
    induction z with
    | nil => exact .nil
    | cons r _ ih => exact .cons r ih
def srtP (ps : List (Int × Int)) : List (Int × Int) := ps.mergeSort fun a b => !SrtO.lexB b a
theorem srtP_perm (ps : List (Int × Int)) : (srtP ps).Perm ps := List.mergeSort_perm ps _
theorem upP_iff {a b : Int × Int} : upP a b ↔ a.1 < b.1 ∨ (a.1 = b.1 ∧ a.2 ≤ b.2) := by
  unfold upP
  rw [SrtO.lexB_no]
  omega
theorem srtP_pw (ps : List (Int × Int)) : (srtP ps).Pairwise upP := by
  have t : ∀ a b : Int × Int, (!SrtO.lexB b a) = true ↔ upP a b := fun a b => by
    unfold upP
    cases SrtO.lexB b a <;> simp
  have := List.pairwise_mergeSort (le := fun a b : Int × Int => !SrtO.lexB b a) (fun a b c h1 h2 => by
    rw [t] at h1 h2 ⊢
    rw [upP_iff] at h1 h2 ⊢
    omega) (fun a b => by
    rw [Bool.or_eq_true, t, t, upP_iff, upP_iff]
    omega) ps
  exact this.imp fun h => (t _ _).mp h
theorem srtP_uniq {ps qs : List (Int × Int)} (p : qs.Perm ps) (w : qs.Pairwise upP) : qs = srtP ps :=
  List.Perm.eq_of_pairwise (fun a b _ _ h1 h2 => by
    rw [upP_iff] at h1 h2
    exact Prod.ext (by omega) (by omega)) w (srtP_pw ps) (p.trans (srtP_perm ps).symm)
def pairsOf : List Dv → Option (List (Int × Int))
  | [] => some []
  | .tup [.int i, .int j] :: r => (pairsOf r).map ((i, j) :: ·)
  | _ => none
def pairD (p : Int × Int) : Dv := .tup [.int p.1, .int p.2]
def fSortedP (m : Bool) : List Dv → Sto → Rs Dv
  | [x], G => match Mi.lstOf G x with
    | some xs => match pairsOf xs with
      | some ps => some (Mi.mkL m ((srtP ps).map pairD) G)
      | none => none
    | none => none
  | _, _ => none
theorem pairs_ar {K : PySem.W.Frag} {ρ : Rh} {H : Hp} : ∀ {xs : List Dv} {vs : List V} {ps : List (Int × Int)}, pairsOf xs = some ps → DRs K ρ H xs vs → AR (PrT K H) ps vs
  | [], _, _, e, .nil => by cases e; exact .nil
  | x :: xs, _, ps, e, .cons a b => by
    unfold pairsOf at e
    split at e
    · rename_i h; cases h
    · rename_i i j r ex
      cases ex
      obtain ⟨qs, e1, rfl⟩ := Option.map_eq_some_iff.mp e
      cases a with
      | tup ht dr =>
        cases dr with
        | cons d1 dr =>
          cases dr with
          | cons d2 dr =>
            cases dr
            cases d1
            cases d2
            exact .cons ⟨_, rfl, ht⟩ (pairs_ar e1 b)
    · cases e
theorem ar_pairs {K : PySem.W.Frag} {ρ : Rh} {H : Hp} : ∀ {ps : List (Int × Int)} {vs : List V}, AR (PrT K H) ps vs → DRs K ρ H (ps.map pairD) vs
  | _, _, .nil => .nil
  | _, _, .cons ⟨_, e, h⟩ r => by
    subst e
    exact .cons (.tup h (.cons (.int _) (.cons (.int _) .nil))) (ar_pairs r)
theorem f_sortedP {X : Cx} {kx : Kx} (m : Bool) : Bok X kx (fSortedP m) (rSortedPP X.K) := by
  intro xs G d G' ρ H vs Q e rl ds k
  unfold fSortedP at e
  split at e
  · split at e
    · rename_i ys hy
      split at e
      · rename_i ps hp
        have e' := Option.some.inj e
        cases ds with
        | cons a b =>
          cases b
          obtain ⟨p, us, ev, hs, dr⟩ := lstOf_at rl hy a
          subst ev
          refine ⟨p, us, ps, rfl, hs, pairs_ar hp dr, fun zs qs q pm pw ar hq => ?_⟩
          rw [srtP_uniq pm pw] at ar
          refine mkL_ok (m := m) rl (ar_pairs ar) ?_ q hq
          rw [e']
          exact fun z ρ' H' g r w => k z ρ' H' g r w
      · cases e
    · cases e
  · cases e
end Ms

/-! PySd: sorted of a dict with int keys, of any size; enumerate of a list or a tuple. -/
namespace Ms
open PySem PySem.Spec L2 PyProof.Rows PySem.Calls
open Mi (Dv MO Sto Sl Rs bnd ME MT MA MS MF Fl MG MGs MI)
/-- sorted(d), all keys whole numbers -/
def rSortedDN : List V → Hp → VK → Prop := fun xs H Q => ∃ (a : Addr) (kvs : List (L2.Key × V)) (ks : List Int), xs = [.ref a] ∧ Rd H a (.dK kvs) ∧ kvs.map (·.1) = ks.map Sum.inl ∧
  ∀ (ys : List Int) (p : Addr), ys.Perm ks → ys.Pairwise (· ≤ ·) → H p = none → Q (.ref p) (upd H p (.lst (ys.map V.int)))
theorem cr_sortedDN {X : Cx} (calm : X.calm = true) : CallR X (.builtin "sorted") rSortedDN := by
  rintro pins s σ H _ us Q I r ⟨a, kvs, ks, rfl, rd, hks, q⟩
  rw [Vals.ref1 r]
  obtain ⟨short, lo, ds, rel, dd⟩ := dk_rd I.hok rd
  obtain ⟨ep, hat⟩ := dd.dictAt
  have hkeys : ds.map (·.1) = ks.map Sum.inl := rel.keys.symm.trans hks
  have hl : ds.length = ks.length := by simpa using congrArg List.length hkeys
  have hn : ds.length ≤ sizeLine := by
    have := congrArg List.length hks
    rw [List.length_map, List.length_map] at this
    omega
  have sorts : ∀ (h' : Heap) (tk : Nat) (acc : Array Value), (∀ b o, s.heap.get? b = some o → h'.get? b = some o) → ItemsOf (fun i v => ∃ k x, ds[i]? = some (k, x) ∧ (mixKind X.prog X.w).is k v = true) acc ds.length →
      wpAny (model X.prog X.w) X.A.in1 (newList acc.toList >>= fun v => holding [v] (call (.builtin "list.sort") [v] []) >>= fun _ => ret v) (fun f s' => ∃ u, f = .done (.ret u) ∧ EP X pins σ Q u s') X.xe { s with heap := h', toks := tk } := by
    intro h' tk acc old items
    have la : acc.toList.length = ks.length := by rw [Array.length_toList, items.1, hl]
    have nums : IntsAre acc.toList ks := ints_each la fun j v e => by
      obtain ⟨k, x, e1, e2⟩ := items.2 j v (by simpa using e)
      have e3 : (ks.map (Sum.inl : Int → L2.Key))[j]? = some k := by rw [← hkeys, List.getElem?_map, e1]; rfl
      rw [List.getElem?_map] at e3
      obtain ⟨y, ey, rfl⟩ := Option.map_eq_some_iff.mp e3
      have e5 : keyIs (Sum.inl y) v = true := e2
      rcases keyIs_shape e5 with ⟨i, t, ek, ev⟩ | ⟨z, t, ek, ev⟩
      · cases ek
        exact ⟨_, t, ey, ev⟩
      · cases ek
    have J : Inv X pins σ H { s with heap := h', toks := tk } := I.kept old
    have made : ∀ F : Value → Shared → Prop, wpAny (model X.prog X.w) X.A.in1 (newList acc.toList) (fun v s' => v = .ref h'.objs.size ∧ s' = { s with heap := h'.push (seqObj "list" acc.toList.toArray 0), toks := tk }) F { s with heap := h', toks := tk } :=
      fun F => wpAny_newList ⟨rfl, rfl⟩ (by rw [la, ← hl]; exact hn)
    refine wpAny_bind (wpAny_mono (made _) ?_ fun _ _ e => e)
    rintro v s' ⟨rfl, rfl⟩
    have here : (h'.push (seqObj "list" acc.toList.toArray 0)).get? h'.objs.size = some (seqObj "list" acc.toList.toArray 0) := Heap.get?_push_size _ rfl
    have last : wpAny (model X.prog X.w) X.A.in1 (call (.builtin "list.sort") [.ref h'.objs.size] []) (fun _ s' => EP X pins σ Q (.ref h'.objs.size) s') X.xe { s with heap := h'.push (seqObj "list" acc.toList.toArray 0), toks := tk } := by
      refine wpAny_call_entry_kw slot_list_sort ⟨_, here, rfl⟩ entry_list_sort (SrtO.list_sort_ord SrtO.swo_int here (by rw [la, ← hl]; exact hn) (fun h2 => SrtO.ints_sortable nums h2) fun out up same => ?_) (args_list_sort _)
      obtain ⟨k1, k2, k3⟩ := SrtO.ints_out nums up same
      obtain ⟨e', at_⟩ := sortedHeap_at (vs := acc.toList) (out := out.toArray) here
      have fits : ((out.map SrtO.iv).map V.int).length ≤ sizeLine := by
        rw [List.length_map, k2.length_eq, ← hl]
        exact hn
      refine ⟨_, rfl, .ref h'.objs.size, upd H h'.objs.size (.lst ((out.map SrtO.iv).map V.int)), J.laid (t' := tk) (fun b u e => ?_) (Nat.le_refl _) ⟨fits, out, e', vals_of_ints k1, at_⟩, rfl, q _ _ k2 k3 (J.hok.fresh (Nat.le_refl _))⟩
      have lt : b < h'.objs.size := Heap.lt_size e
      rw [sortedHeap_old (Nat.ne_of_lt lt) (by rw [size_push']; exact Nat.lt_succ_of_lt lt)]
      refine Heap.get?_push_of_some _ ?_
      exact e
    exact wpAny_bind (wpAny_holding (wpAny_mono last (fun _ s' z => wpAny_pure ⟨_, rfl, z⟩) fun _ _ e => e))
  exact call_function_entry_kw kind_sorted plain_sorted entry_sorted (args_sorted1 _) (wpAny_bind (m := checkCount "sorted" 1 1 _) (wpAny_pure (wpAny_bind (PySem.W.kdu_collect (A := X.A.in1) (PySem.W.kdl_dict (knd := mixKind X.prog X.w) (kvs := ds) (ep := ep) lo) (I.ok.hd calm) hat hn sorts))))
def fSortedDN (m : Bool) : List Dv → Sto → Rs Dv
  | [.ref h], G => match G[h]? with
    | some (.dct kvs) => match keyInts kvs with
      | some ns => some (Mi.mkL m ((srt ns).map Dv.int) G)
      | none => none
    | _ => none
  | _, _ => none
theorem f_sortedDN {X : Cx} {kx : Kx} (m : Bool) : Bok X kx (fSortedDN m) rSortedDN := by
  intro xs G d G' ρ H vs Q e rl ds k
  unfold fSortedDN at e
  split at e
  · rename_i h
    split at e
    · rename_i kvs eh
      split at e
      · rename_i ns en
        cases ds with
        | cons a b =>
          cases b
          cases a with
          | @ref _ ad ea =>
            obtain ⟨ks, h1, kr⟩ := dct_at rl eh ea
            refine ⟨ad, ks, ns, rfl, .inl h1, keyInts_keys kr en, fun ms q pm up hq => ?_⟩
            rw [srt_uniq pm up]
            refine mkL_ok (m := m) rl (drs_ints (srt ns)) ?_ q hq
            rw [Option.some.inj e]
            exact fun z ρ' H' g r w => k z ρ' H' g r w
      · cases e
    · cases e
  · cases e
/-- enumerate of a list or of a tuple -/
def iEnumA (a : ME) : MI := fun δ G => bnd (a δ G) fun x G1 => match x with
  | .tup xs => some ((Mi.enumD 0 xs, fun _ => True), G1)
  | _ => match Mi.lstOf G1 x with
    | some xs => some ((Mi.enumD 0 xs, fun G' => Mi.lstOf G' x = some xs), G1)
    | none => none
theorem i_enumA {X : Cx} {kx : Kx} {a : Expr} {ma : ME} {elts : List Expr} {kk : Nat} {tpos p pos : Pos} (hm : X.mg "enumerate" = none) (ha : PE X a (tM X.K kx ma)) (hg : Gl X "enumerate" := by rfl) (hs : Es X a [] := by rfl) (hs2 : starEach [a] X.env = [(false, eval a X.env)] := by rfl) : PI X (.Tuple elts kk tpos) (.Call (.Name "enumerate" p) [a] [] pos) (tI X.K kx (iEnumA ma)) :=
  (PI.or (i_enum hm ha hg hs hs2) (i_enumT hm ha hg hs)).imp fun σ H R ⟨ρ, G, δ, ds, st, G', rl, sr, e, k⟩ => by
  obtain ⟨x, G1, e1, e⟩ := Mi.bnd_eq e
  cases x with
  | tup xs =>
    cases e
    refine .inr ⟨ρ, G, δ, _, _, _, rl, sr, ?_, k⟩
    unfold iEnumT
    rw [e1]
    rfl
  | _ =>
    refine .inl ⟨ρ, G, δ, ds, st, G', rl, sr, ?_, k⟩
    unfold Mi.iEnum
    rw [e1]
    exact e
end Ms

/-! PyGf: o.f as one of several targets. -/
namespace Ms
open PySem L2
open Mi (Dv MO Sto Sl Rs bnd ME MT MA MS MF Fl MG MGs MI)
def gSetF (cs : List Nat) (o : ME) (f : String) : MG := fun d δ G => match o δ G with
  | some (.ref h, G2) => match G2[h]? with
    | some (.ins c fs) => if c ∈ cs ∧ fs.length < 1000 then some (δ, G2.set h (.ins c (Mi.putF f d fs))) else none
    | _ => none
  | _ => none
section
variable {X : Cx} {kx : Kx} {o : Expr} {mo : ME} {pos : Pos}
/-- the library's own attribute store, as a target -/
def tgFld (K : PySem.W.Frag) (to : TE) (f : Str) : TG := fun v σ H Q => to σ H fun x H1 => ∃ a C dx fs, x = .ref a ∧ H1 a = some (.ins C dx fs) ∧ Cls K C ∧ NoAttr K C f ∧ fs.length < 1000 ∧ Q σ (upd H1 a (.ins C dx (L2.putF f v fs)))
theorem pg_fld {f : Str} {to : TE} (ho : PE X o to) : PG X (.Attribute o f pos) (tgFld X.K to f) := by
  constructor
  intro pins s σ H v u Q I r h
  rw [assign_Attribute]
  refine wpAny_bind (wpAny_holding (thn (ho.run pins s σ H _ I h) fun ov s1 ⟨x, H1, I1, rx, a, C, dx, fs, ex, ea, c, n, l, q⟩ => ?_))
  subst ex
  have eo : ov = Value.ref a := rx
  subst eo
  refine wpAny_bind (wpAny_standAt (wpAny_bind (wpAny_holding (setattr_ok I1 ea c n l r fun s3 I3 => ?_))))
  exact wpAny_release ⟨σ, _, I3, q⟩
theorem g_setF {cs : List Nat} {f : String} (hf : Fok X.K kx cs f) (ho : PE X o (tM X.K kx mo)) : PG X (.Attribute o (Str.ofString f) pos) (tG X.K kx [] (gSetF cs mo f)) := (pg_fld ho).imp fun w σ H Q ⟨ρ, G, δ, d, δ', G', rl, sr, dw, e, k⟩ => by
  unfold gSetF at e
  split at e
  · rename_i h G2 e2
    split at e
    · rename_i cn fs eh
      split at e
      · rename_i hz
        obtain ⟨hz1, hz2⟩ := hz
        cases e
        refine ⟨ρ, G, δ, _, G2, rl, sr, e2, fun v ρ2 H2 g2 r2 d2 => ?_⟩
        cases d2 with
        | ref ea =>
          obtain ⟨dx, fs', h1, fr⟩ := ins_at r2 eh ea
          obtain ⟨g3, r3⟩ := r2.wr (o := .ins (kx.ca cn) dx (L2.putF (Str.ofString f) w fs')) (m := .ins cn (Mi.putF f d fs)) ea fun g => .ins upd_same ((fput_ok (dw.gr g2) fr).imp fun _ _ q => ⟨q.1, q.2.gr g⟩)
          exact ⟨_, _, dx, fs', rfl, h1, (hf cn hz1).1, (hf cn hz1).2, by rw [← AR_len fr]; exact hz2, k _ σ _ (g2.trans g3) r3 (sr.gr (g2.trans g3)) rfl fun _ _ => rfl⟩
      · cases e
    · cases e
  · cases e
end
end Ms

/-! PyDs: x = {k: v for ..}. -/
namespace Ms
open PySem L2
open Mi (Dv MO Sto Sl Rs bnd ME MT MA MS MF Fl MG MGs MI)
abbrev InBlk (X : Cx) (scope : Scope) (f : Cx → Prop) : Prop := ∀ (s : Shared) (H : Hp) (C : Addr) (cl : List (Str × Addr)) (fp : List Addr), f (X.blk s H scope (compEnvC scope cl C X.env) fp)
section
variable {X : Cx} {kx : Kx} {tg kxp vxp it : Expr} {ifs : List Expr} {scope : Scope} {own : List (Str × Nat)} {mk mv : ME} {mi : MI} {g : MG} {mt : MT} {ws : List Nat} {y : Str} {py spos pos : Pos}
/-- a dict that a comprehension has made is given to a name: the library's store of the list's case, said of a dict -/
theorem given_name {i : Nat} {pins : List (Addr × Obj)} {σ : St} {H' : Hp} {D : Ends} {s' : Shared} {L C : Addr} {m : Str → Option Value} (hN : X.N.Nodup) (hy : X.N[i]? = some y) (hyl : X.env.scope.names.lookup y = some .local) (I' : Inv X pins σ H' s')
    (q : D.nx (σ.set i (some (.ref L))) H') (hn : s'.heap.Ns C m) (f : FpOk X pins H' C) :
    compPost (model X.prog X.w) X.A X.xe (some (assign (.Name y py) X.env)) (fun _ z => SP X pins D .next z) (.ref L) C (.ok .next) s' := by
  change wpAny _ _ (assign (.Name y py) X.env (.ref L)) _ _ _
  refine wpAny_assign_Name (store_ok2 (v := V.ref L) I' hN hy (Or.inl hyl) rfl (fun s2 I2 ⟨a, same, ha⟩ => ?_) (Or.inr hyl))
  have ⟨f0, f1, f2, f3, f4, f5⟩ := f
  have apart : C ≠ a := by
    cases ha with
    | inl z => exact fun e => f1 (e.trans z)
    | inr z => exact fun e => f4 y a z e.symm
  exact ⟨m, hn.sameBut same apart, fun h3 sb => ⟨_, H', I2.turned (t' := s2.toks) (fun b o hb e => (sb.2 b hb).trans e) f0 f1 f3 f4 f5, q⟩⟩
theorem s_setDc (i : Nat) (hc : X.calm = true) (hN : X.N.Nodup) (hy : X.N[i]? = some y) (hyl : X.env.scope.names.lookup y = some .local) (hsw : swapsWith (.DictComp kxp vxp [⟨tg, it, ifs, 0⟩] scope pos) (some (.Name y py)) spos.line X.env = pure true)
    (hi : PI X tg it (tI X.K kx mi)) (ok : BlkOk X.N X.env.scope scope own) (hw : ∀ i ∈ ws, i ∈ own.map (·.2))
    (hg : InBlk X scope fun B => PG B tg (tG X.K kx ws g)) (ht : InBlk X scope fun B => PTs B ifs (tMT X.K kx mt)) (hk : InBlk X scope fun B => PE B kxp (tM X.K kx mk)) (he : InBlk X scope fun B => PE B vxp (tM X.K kx mv))
    (hfs : ∀ x, foldedSetIterable it X.env x = pure x := by intro _; rfl) : PS X (.Assign [.Name y py] (.DictComp kxp vxp [⟨tg, it, ifs, 0⟩] scope pos) spos) (sM X.K kx (Mi.mAsg (mDc mi g mt mk mv (own.map (·.2))) (Mi.gNm i))) := by
  constructor
  rintro pins s σ H D I ⟨ρ, G, δ, f, δ', G', rl, sr, e, k⟩
  have used := exec_Assign_Name_used _ _ _ _ hsw
  rw [used]
  have go : tM X.K kx (mDc mi g mt mk mv (own.map (·.2))) σ H fun x H1 => D.nx (σ.set i (some x)) H1 := by
    unfold Mi.mAsg at e
    split at e
    · rename_i d G1 e1
      cases e
      exact ⟨ρ, G, δ, d, _, rl, sr, e1, fun v ρ1 H1 g1 r1 d1 => k ρ1 _ H1 g1 r1 ((sr.gr g1).set i d1)⟩
    · cases e
  apply wpAny_bind
  apply wpAny_standAt
  apply wpAny_bind
  show wpAny _ X.A (do let _ ← comprehension (.DictComp kxp vxp [⟨tg, it, ifs, 0⟩] scope pos) scope X.env (firstIterPos [⟨tg, it, ifs, 0⟩] pos) newDict false (eval it X.env) (some (assign (.Name y py) X.env))) _ _ s
  have core := dc_core (pos := pos) (pos' := firstIterPos [⟨tg, it, ifs, 0⟩] pos) (use := some (assign (.Name y py) X.env)) (Qf := fun _ z => SP X pins D .next z) hc hN I hi ok hg ht hk he hfs (dc_go hw go) fun L C s' m H' I' q hn f => given_name hN hy hyl I' q hn f
  exact wpAny_bind (wpAny_mono core (fun _ s' hq => wpAny_pure (wpAny_pure hq)) fun _ _ e => e)
end
end Ms

/-! PyEd: a == b of data that bears tuples and lists at any depth. -/
namespace Ms
open PySem L2
open Mi (Dv MO Sto Sl Rs bnd ME MT MA MS MF Fl MG MGs MI)
noncomputable def bEqD (neg : Bool) : Mi.B2 := fun x y G => match Mi.pyT G x, Mi.pyT G y with
  | some d, some e => if SeqAt.shaped d = true ∧ SeqAt.shaped e = true then some (.bl (PyData.eqv d e != neg), G) else none
  | _, _ => none
section
variable {X : Cx} {kx : Kx}
theorem bEqD_at {neg : Bool} {x y : Dv} {G G' : Sto} {d : Dv} (e : bEqD neg x y G = some (d, G')) : ∃ a b, Mi.pyT G x = some a ∧ Mi.pyT G y = some b ∧ SeqAt.shaped a = true ∧ SeqAt.shaped b = true ∧ d = .bl (PyData.eqv a b != neg) ∧ G' = G := by
  unfold bEqD at e
  split at e
  · rename_i a b ea eb
    split at e
    · rename_i hs
      cases e
      exact ⟨a, b, ea, eb, hs.1, hs.2, rfl, rfl⟩
    · cases e
  · cases e
theorem b_eqDt : B2ok X kx (bEqD false) (rEqD X.K) := fun x y G d G' ρ H v w Q e rl dx dy k => by
  obtain ⟨a, b, ea, eb, sa, sb, rfl, rfl⟩ := bEqD_at e
  have q := k _ ρ H Gr.refl rl (.bl (PyData.eqv a b != false))
  rw [Bool.bne_false] at q
  exact ⟨a, b, pyT_dp rl ea dx, pyT_dp rl eb dy, sa, sb, q⟩
theorem b_neDt : B2ok X kx (bEqD true) (rNeD X.K) := fun x y G d G' ρ H v w Q e rl dx dy k => by
  obtain ⟨a, b, ea, eb, sa, sb, rfl, rfl⟩ := bEqD_at e
  have q := k _ ρ H Gr.refl rl (.bl (PyData.eqv a b != true))
  rw [Bool.bne_true] at q
  exact ⟨a, b, pyT_dp rl ea dx, pyT_dp rl eb dy, sa, sb, q⟩
end
end Ms

/-! PyXw: raise C(e); expressions that may raise, put together; calls of defs that may raise. -/
namespace Ms
open PySem L2 PyProof.Rows
open Mi (Dv MO Sto Sl Rs bnd ME MT MA MS MF Fl MG MGs MI)
/-- the exception's class with all that its making asks -/
structure Xcl (K : PySem.W.Frag) (mg : Str → Option Value) (C : Addr) (x f : Str) : Prop where
  ex : ∃ (qual : Str) (st : Stmt) (a : Str) (q1 q2 q3 q4 : Pos), Xv K mg C x f qual st ∧ FnScope ["self", a] ["self", a] (defScope st) ∧ defBody st = [.Assign [.Attribute (.Name "self" q1) f q2] (.Name a q3) q4] ∧ Bp "__init__" qual st ["self", a] ∧
    Vis (defScope st) "self" ∧ Vis (defScope st) a ∧ (a == ("__debug__" : Str)) = false ∧ (a == ("__classdict__" : Str)) = false
def xPure (m : ME) : MEX := fun δ G => match m δ G with
  | some (d, G1) => some (.ok d, G1)
  | none => none
def xIfE (t : MT) (a b : MEX) : MEX := fun δ G => match t δ G with
  | some (true, G1) => a δ G1
  | some (false, G1) => b δ G1
  | none => none
/-- values, or an exception -/
inductive Rxs where
  | ok (ds : List Dv)
  | ex (c : Nat) (o : Option Nat)
abbrev MXA := Sl → Sto → Option (Rxs × Sto)
def xaNil : MXA := fun _ G => some (.ok [], G)
def xaCons (a : MEX) (r : MXA) : MXA := fun δ G => match a δ G with
  | some (.ok d, G1) => match r δ G1 with
    | some (.ok ds, G2) => some (.ok (d :: ds), G2)
    | some (.ex c o, G2) => some (.ex c o, G2)
    | none => none
  | some (.ex c o, G1) => some (.ex c o, G1)
  | none => none
def xTup (a : MXA) : MEX := fun δ G => match a δ G with
  | some (.ok ds, G1) => if ds.length ≤ Mi.big then some (.ok (.tup ds), G1) else none
  | some (.ex c o, G1) => some (.ex c o, G1)
  | none => none
def xCall (f : MFX) (a : MA) : MEX := fun δ G => match a δ G with
  | some (ds, G1) => f ds G1
  | none => none
def xCallK (f : MFX) (ix : List Nat) (kw : MA) : MEX := fun δ G => match kw δ G with
  | some (ys, G1) => f (ix.map fun i => ys.getD i .non) G1
  | none => none
/-- x = e -/
def xAsg (i : Nat) (e : MEX) : MSX := fun δ G => match e δ G with
  | some (.ok d, G1) => some (.fl .nx, δ.set i (some d), G1)
  | some (.ex c o, G1) => some (.ex c o, δ, G1)
  | none => none
def KeXs (K : PySem.W.Frag) (kx : Kx) (ρ : Rh) (H : Hp) (r : Rxs) (G' : Sto) (Q : List V → Hp → Prop) (E : XK) : Prop := match r with
  | .ok ds => ∀ vs ρ' H', Gr ρ H ρ' H' → Rl K kx ρ' G' H' → DRs K ρ' H' ds vs → Q vs H'
  | .ex c o => ∀ ρ' H' da, Gr ρ H ρ' H' → Rl K kx ρ' G' H' → ExD ρ' o da → E (.ref (kx.ca c)) da H'
theorem KeXs.gr {K : PySem.W.Frag} {kx : Kx} {ρ ρ1 : Rh} {H H1 : Hp} {r : Rxs} {G' : Sto} {Q : List V → Hp → Prop} {E : XK} (g : Gr ρ H ρ1 H1) (q : KeXs K kx ρ H r G' Q E) : KeXs K kx ρ1 H1 r G' Q E := by
  cases r with
  | ok d => exact fun v ρ' H' g' r d => q v ρ' H' (g.trans g') r d
  | ex c o => exact fun ρ' H' da g' r => q ρ' H' da (g.trans g') r
def tXA (K : PySem.W.Frag) (kx : Kx) (W : WX) (m : MXA) : TA := fun σ H Q => ∃ (ρ : Rh) (G : Sto) (δ : Sl) (r : Rxs) (G' : Sto), Rl K kx ρ G H ∧ Sr K ρ H δ σ ∧ m δ G = some (r, G') ∧ KeXs K kx ρ H r G' Q (WE W σ)
structure CalX (P : Program) (w : World) (K : PySem.W.Frag) (kx : Kx) (mg : Str → Option Value) (base : Heap) (k : Nat) (x : Str) (st : Stmt) (ps : List Str) (mf : MFX) : Prop where
  ex : ∃ f fd, Fun K x x st f fd ∧ mg x = some (.ref f) ∧ FnX P w K kx mg base k f fd ps mf ∧ Binds K fd ps []
theorem cax_of {P : Program} {w : World} {K : PySem.W.Frag} {kx : Kx} {mg : Str → Option Value} {base : Heap} {k l : Nat} {x : Str} {st : Stmt} {N ps : List Str} {mb : MSX} (D : Dfn K mg x st) (S : FnScope N ps (defScope st)) (hN : N.length = ps.length + l) (hb : Bp x x st ps)
    (b : BdyX P w K kx mg base k N x st mb) : CalX P w K kx mg base (k + 1) x st ps (xDef ps.length l mb) := by
  obtain ⟨f, fd, F, hm⟩ := D.ex
  exact ⟨f, fd, F, hm, fn_x F S hN (b f), F.binds hb⟩
section
variable {X : Cx} {W : WX} {kx : Kx} {e a b c o : Expr} {ma mb mc me mo : ME} {mt : MT} {pos p apos pos' : Pos} {st : Stmt} {rest es : List Expr} {mas mks : MA} {mx m1 m2 : MEX} {mxa : MXA} {k cn : Nat} {f : Addr} {fd : FuncData} {ps : List Str} {mf : MFX} {x y : Str}
/-- raise C(e) -/
theorem x_raiseV {fn : String} (hc : X.calm = true) (tk : Takes X W) (T : Xcl X.K X.mg (kx.ca cn) x (Str.ofString fn)) (hr : Room (k + 2) X.A) (he : PE X e (tM X.K kx me)) (hg : Gl X x := by rfl) (hdb : (x == ("__debug__" : Str)) = false := by decide) (hst : starEach [e] X.env = (false, eval e X.env) :: starEach [] X.env := by rfl) :
    PS X (.Raise (some (.Call (.Name x p) [e] [] pos)) none pos') (sX X.K kx W (xRaiseV cn fn me)) := by
  obtain ⟨qual, st, a, q1, q2, q3, q4, XV, S, hbody, hb, v1, v2, d1, d2⟩ := T.ex
  refine (ps_raise hc tk (pmk_v XV S hbody hb v1 v2 d1 d2 hr he hg hdb hst)).imp fun D σ H ⟨ρ, G, δ, r, δ', G', rl, sr, e0, kk⟩ => ?_
  unfold xRaiseV at e0
  split at e0
  · rename_i d G1 e1
    cases e0
    refine ⟨ρ, G, δ, d, G1, rl, sr, e1, fun v ρ1 H1 g1 r1 dv dd n => ?_⟩
    obtain ⟨g2, r2⟩ := r1.grow (p := dd) (o := .xd [(Str.ofString fn, v)]) (m := .xd [(fn, d)]) n fun g => .xd upd_same (.cons ⟨rfl, dv.gr g⟩ .nil)
    refine kk (ρ1.snoc dd) σ _ (some dd) (g1.trans g2) r2 (sr.gr (g1.trans g2)) ⟨dd, ?_, rfl⟩
    rw [← r1.len]
    show (ρ1.r ++ [dd])[ρ1.r.length]? = some dd
    rw [List.getElem?_append_right (Nat.le_refl _), Nat.sub_self]
    rfl
  · cases e0
/-! ### expressions -/
theorem x_pure (h : PE X.nox e (tM X.K kx me)) : PE X e (tX X.K kx W (xPure me)) := h.nox.imp fun σ H Q ⟨ρ, G, δ, r, G', rl, sr, e, k⟩ => by
  unfold xPure at e
  split at e
  · rename_i d G1 e1
    cases e
    exact ⟨ρ, G, δ, d, _, rl, sr, e1, k⟩
  · cases e
theorem x_ifE (hc : PT X.nox c (tMT X.K kx mt)) (ha : PE X a (tX X.K kx W m1)) (hb : PE X b (tX X.K kx W m2)) : PE X (.IfExp c a b pos) (tX X.K kx W (xIfE mt m1 m2)) := (pe_ifExp hc.nox ha hb).imp fun σ H Q ⟨ρ, G, δ, r, G', rl, sr, e, k⟩ => by
  unfold xIfE at e
  split at e
  · rename_i G1 e1
    refine ⟨ρ, G, δ, true, G1, rl, sr, e1, fun ρ1 H1 g1 r1 => ?_⟩
    dsimp only
    rw [if_pos rfl]
    exact ⟨ρ1, G1, δ, r, G', r1, sr.gr g1, e, k.gr g1⟩
  · rename_i G1 e1
    refine ⟨ρ, G, δ, false, G1, rl, sr, e1, fun ρ1 H1 g1 r1 => ?_⟩
    dsimp only
    rw [if_neg (fun z => Bool.false_ne_true z)]
    exact ⟨ρ1, G1, δ, r, G', r1, sr.gr g1, e, k.gr g1⟩
  · cases e
theorem xa_nil : PA X [] (tXA X.K kx W xaNil) := pa_nil.imp fun σ H Q ⟨ρ, G, δ, r, G', rl, sr, e, k⟩ => by
  cases e
  exact k [] ρ H Gr.refl rl .nil
theorem xa_cons (ha : PE X e (tX X.K kx W mx)) (hr : PA X es (tXA X.K kx W mxa)) (hs : starEach (e :: es) X.env = (false, eval e X.env) :: starEach es X.env := by rfl) : PA X (e :: es) (tXA X.K kx W (xaCons mx mxa)) := (pa_cons ha hr hs).imp fun σ H Q ⟨ρ, G, δ, r, G', rl, sr, e, k⟩ => by
  unfold xaCons at e
  split at e
  · rename_i d G1 e1
    split at e
    · rename_i ds G2 e2
      cases e
      exact ⟨ρ, G, δ, .ok d, G1, rl, sr, e1, fun v ρ1 H1 g1 r1 d1 => ⟨ρ1, G1, δ, .ok ds, _, r1, sr.gr g1, e2, fun vs ρ2 H2 g2 r2 d2 => k (v :: vs) ρ2 H2 (g1.trans g2) r2 (.cons (d1.gr g2) d2)⟩⟩
    · rename_i c o G2 e2
      cases e
      exact ⟨ρ, G, δ, .ok d, G1, rl, sr, e1, fun v ρ1 H1 g1 r1 d1 => ⟨ρ1, G1, δ, .ex c o, _, r1, sr.gr g1, e2, fun ρ2 H2 da g2 r2 => k ρ2 H2 da (g1.trans g2) r2⟩⟩
    · cases e
  · rename_i c o G1 e1
    cases e
    exact ⟨ρ, G, δ, .ex c o, _, rl, sr, e1, k⟩
  · cases e
theorem x_tup {x1} (h : PA X es (tXA X.K kx W mxa)) : PE X (.Tuple es x1 pos) (tX X.K kx W (xTup mxa)) := (pe_tup h).imp fun σ H Q ⟨ρ, G, δ, r, G', rl, sr, e, k⟩ => by
  unfold xTup at e
  split at e
  · rename_i ds G1 e1
    split at e
    · rename_i hz
      cases e
      exact ⟨ρ, G, δ, .ok ds, _, rl, sr, e1, fun vs ρ1 H1 g1 r1 d1 => ⟨by rw [← d1.len, ← big_line]; exact hz, tup_ok r1 d1 fun z ρ' H' g r q => k z ρ' H' (g1.trans g) r q⟩⟩
    · cases e
  · rename_i c o G1 e1
    cases e
    exact ⟨ρ, G, δ, .ex c o, _, rl, sr, e1, k⟩
  · cases e
theorem x_set (i : Nat) (hN : X.N.Nodup) (he : PE X e (tX X.K kx W mx)) (hi : X.N[i]? = some x := by rfl) (hx : Loc X.env.scope x := by first | exact Or.inl rfl | exact Or.inr rfl) (hs : swapsWith e (some (.Name x pos')) pos.line X.env = pure false := by rfl) (hf : X.fn x = true ∨ X.env.scope.names.lookup x = some .local := by first | exact .inl rfl | exact .inr rfl | assumption) :
    PS X (.Assign [.Name x pos'] e pos) (sX X.K kx W (xAsg i mx)) := (ps_set hN hi hx he hs hf).imp fun D σ H ⟨ρ, G, δ, f, δ', G', rl, sr, e, k⟩ => by
  unfold xAsg at e
  split at e
  · rename_i d G1 e1
    cases e
    exact ⟨ρ, G, δ, .ok d, _, rl, sr, e1, fun v ρ1 H1 g1 r1 d1 => k ρ1 _ H1 g1 r1 ((sr.gr g1).set i d1)⟩
  · rename_i c o G1 e1
    cases e
    exact ⟨ρ, G, δ, .ex c o, _, rl, sr, e1, fun ρ1 H1 da g1 r1 => k ρ1 σ H1 da g1 r1 (sr.gr g1)⟩
  · cases e
/-! ### calls -/
theorem x_cl {st : Stmt} (c : CalX X.prog X.w X.K kx X.mg X.base k x st ps mf) (hG : X.A.guards = some []) (hr : Room k X.A) (tk : Takes X W) (ha : PA X (e :: es) (tMA X.K kx mas)) (hg : Gl X x := by rfl)
    (hdb : (x == ("__debug__" : Str)) = false := by decide) (he : Es X e es := by rfl) (hpl : Np X pos es := by rfl) : PE X (.Call (.Name x p) (e :: es) [] pos) (tX X.K kx W (xCall mf mas)) := ⟨fun pins s σ H Q I h => by
  obtain ⟨f, fd, F, hm, G0, b⟩ := c.ex
  obtain ⟨ρ, G, δ, r0, G', rl, sr, e0, q⟩ := h
  unfold xCall at e0
  split at e0
  · rename_i ds G1 e1
    refine called_by I hg hm hdb (PySem.W.callWith_K (h₀ := X.base) I.ok.mod.kin F.kp (thn (ha.run pos pins s σ H (fun vs H1 => ∃ ρ1, Gr ρ H ρ1 H1 ∧ Rl X.K kx ρ1 G1 H1 ∧ DRs X.K ρ1 H1 ds vs) I ⟨ρ, G, δ, ds, G1, rl, sr, e1, fun vs ρ1 H1 g r d => ⟨ρ1, g, r, d⟩⟩) fun us s1 got => ?_) he hpl)
    obtain ⟨vs, H1, I1, rv, ρ1, g1, r1, d1⟩ := got
    refine ⟨I1.kIn, ?_⟩
    have bound := b s1 us I1.kIn (lenOf (G0.ar _ _ _ e0) d1 rv)
    rw [List.append_nil] at bound
    exact run_x G0 hG hr tk I1 bound rv r1 d1 e0 (q.gr g1)
  · cases e0⟩
theorem x_clK0 {st : Stmt} {kws : List Keyword} {ks : List Str} {ix : List Nat} (c : CalX X.prog X.w X.K kx X.mg X.base k x st ps mf) (hG : X.A.guards = some []) (hr : Room k X.A) (tk : Takes X W) (hb : Bk x x st ps ks 0 ix) (hl : Len mks ks.length) (hkw : PK X kws (tMA X.K kx mks)) (hg : Gl X x := by rfl)
    (hall : Ka X pos kws := by rfl) (hks : Ks X pos kws ks := by rfl) (hdb : (x == ("__debug__" : Str)) = false := by decide)
    (hpl : ((backTo pos (starEach [] X.env)).any (·.1) || (backToKw pos (keywordEach kws X.env)).any (·.1.isNone)) = false := by rfl) : PE X (.Call (.Name x p) [] kws pos) (tX X.K kx W (xCallK mf ix mks)) := ⟨fun pins s σ H Q I h => by
  obtain ⟨f, fd, F, hm, G0, _⟩ := c.ex
  obtain ⟨ρ, G, δ, r0, G', rl, sr, e0, q⟩ := h
  unfold xCallK at e0
  split at e0
  · rename_i ds G1 e1
    refine called_by I hg hm hdb (PySem.W.callWith_KW0 (h₀ := X.base) I.ok.mod.kin F.kp hall (thn (hkw.run pos pins s σ H (fun vs H1 => ∃ ρ1, Gr ρ H ρ1 H1 ∧ Rl X.K kx ρ1 G1 H1 ∧ DRs X.K ρ1 H1 ds vs) I ⟨ρ, _, δ, ds, G1, rl, sr, e1, fun vs ρ1 H1 g r d => ⟨ρ1, g, r, d⟩⟩) fun us s1 got => ?_) hpl)
    obtain ⟨vs, H1, I1, rv, ρ1, g1, r1, d1⟩ := got
    refine ⟨I1.kIn, ?_⟩
    rw [hks]
    have many : us.length = ks.length := by rw [← rv.length, ← d1.len]; exact hl _ _ _ _ e1
    exact run_x (us := []) G0 hG hr tk I1 (F.kbm hb s1 [] us rfl many) (pick_vals rv ix) r1 (pick_dr d1 ix) e0 (q.gr g1)
  · cases e0⟩
end
end Ms

/-! PyXt: try with several clauses, each with a name or without; what a caught exception bears. -/
namespace Ms
open PySem PySem.Spec L2 PyProof.Rows
open Mi (Dv MO Sto Sl Rs bnd ME MT MA MS MF Fl MG MGs MI)
/-- a clause: its class, its name's slot, its suite by the exception, its class, its dict -/
abbrev Cl := Value × Option Nat × (Addr → Value → Option Addr → TS)
/-- the name's slot is emptied behind the suite -/
def endsAs (i : Nat) (D : Ends) : Ends := { nx := fun σ' H' => D.nx (σ'.set i none) H', rt := D.rt, bk := fun σ' H' => D.bk (σ'.set i none) H', ct := fun σ' H' => D.ct (σ'.set i none) H' }
def wCls (K : PySem.W.Frag) (Wout : WX) (D : Ends) : List Cl → WX
  | [] => Wout
  | (c, n, ts) :: r => fun cls d σ H => ∃ b, PySem.W.exmOne K cls c = some b ∧
    (b = true → ∀ a, H a = none → match n with | none => ts a cls d D σ H | some i => ts a cls d (endsAs i D) (σ.set i (some (.ref a))) H) ∧ (b = false → wCls K Wout D r cls d σ H)
inductive ClsOk (X : Cx) : List ExceptHandler → List Cl → Prop
  | nil : ClsOk X [] []
  | bare {x : Str} {c : Value} {ts : Addr → Value → Option Addr → TS} {b₀ : Stmt} {suite : List Stmt} {np pos' : Pos} {hds : List ExceptHandler} {l : List Cl} (hc : Names X x c)
      (hsu : ∀ (a : Addr) (oe : Obj) (cls : Value) (d : Option Addr) (pn : List (Addr × Obj)), Zc cls d oe → (∃ vs, oe.data = .fields vs) → PSs (X.suite a ((a, oe) :: pn)) (b₀ :: suite) (ts a cls d)) (r : ClsOk X hds l) :
      ClsOk X (.ExceptHandler (some (.Name x np)) none (b₀ :: suite) pos' :: hds) ((c, none, ts) :: l)
  | named {x n : Str} {i : Nat} {c : Value} {ts : Addr → Value → Option Addr → TS} {b₀ : Stmt} {suite : List Stmt} {np pos' : Pos} {hds : List ExceptHandler} {l : List Cl} (hc : Names X x c) (hi : X.N[i]? = some n) (hln : X.env.kindOf n = some .local)
      (hsu : ∀ (a : Addr) (oe : Obj) (cls : Value) (d : Option Addr) (pn : List (Addr × Obj)), Zc cls d oe → (∃ vs, oe.data = .fields vs) → PSs (X.suite a ((a, oe) :: pn)) (b₀ :: suite) (ts a cls d)) (r : ClsOk X hds l) :
      ClsOk X (.ExceptHandler (some (.Name x np)) (some n) (b₀ :: suite) pos' :: hds) ((c, some i, ts) :: l)
section
variable {X : Cx} {body : List Stmt} {h₀ : ExceptHandler} {hds : List ExceptHandler} {l : List Cl} {pos : Pos} {tb : WX → TS} {Wout : WX}
theorem ps_try_cls (hs : X.stack = X.env :: X.outer) (hf : X.env.frame = some X.env.locals) (hN : X.N.Nodup) (tk : Takes X Wout)
    (hb : ∀ (W : WX) (pn : List (Addr × Obj)) (xe : Value → Shared → Prop), Takes (X.tr pn xe) W → PSs (X.tr pn xe) body (tb W))
    (hh : ClsOk X (h₀ :: hds) l) : PS X (.Try body (h₀ :: hds) [] [] pos) (fun D σ H => tb (wCls X.K Wout D l) D σ H) := by
  constructor
  intro pins s σ H D I wish
  have fine := I.ok
  have frames : X.A.frames = some (X.env :: X.outer) := hs ▸ fine.frames
  apply wpAny_Try_except
  have caught : Takes (X.tr (X.pn ++ pins) (fun e s₁ => wpAny (model X.prog X.w) X.A (noteFrame e X.env) (fun _ s₂ => wpAny (model X.prog X.w) X.A (setFlight e none) (fun _ s₃ =>
      wpAny (model X.prog X.w) X.A (handleBy e X.env (h₀ :: hds)) (SP X pins D) X.xe s₃) X.xe s₂) X.xe s₁)) (wCls X.K Wout D l) := by
    intro u s' thrown
    obtain ⟨ea, B, sI, pins', σ1, H1, cls, dc, rfl, J0, below, upto, flies, gone, sameOs, bare, want⟩ := thrown
    have J : Inv X pins σ1 H1 sI := J0.ofTry fine
    rw [show (X.tr _ _).stack = X.env :: X.outer from hs] at flies
    change wpAny (model X.prog X.w) X.A (noteFrame (.ref ea) X.env) _ _ _
    refine Sky.land Zc.steady frames hf flies fun hp3 flying upto3 => ?_
    have K3 : Inv X pins σ1 H1 { s' with heap := hp3 } := J.landed below flying.1 (upto.trans upto3) sameOs bare
    have ⟨oe, vs, there, zc, dat⟩ := flying.there
    have outside : ea ∉ frs (X.env :: X.outer) := fun hm => by
      obtain ⟨_, o', e', no⟩ := (flying.2.2.1).mem hm
      cases there.symm.trans e'
      exact no _ dat
    have notL : ea ≠ X.env.locals := fun z => outside (List.mem_filterMap.mpr ⟨X.env, List.mem_cons_self, by rw [hf, z]⟩)
    have notF : ea ∉ X.fs := fun hm => by
      have ⟨e, he, q⟩ := List.mem_filterMap.mp hm
      exact outside (List.mem_filterMap.mpr ⟨e, .tail _ he, q⟩)
    have S3 := K3.suite there dat gone notL notF
    -- the test of a clause
    have tested : ∀ {x : Str} {c : Value} {np : Pos} {Q E : Value → Shared → Prop}, Names X x c → Q c { s' with heap := hp3 } → wpAny (model X.prog X.w) (X.A.mark (some (.ref ea))) (eval (.Name x np) X.env) Q E { s' with heap := hp3 } := by
      intro x c np Q E hc q
      have ⟨hg, nodbg, hm⟩ := hc
      rcases hm with hm | ⟨hm, hv, hn⟩
      · exact ld_glob (X := X.suite ea ((ea, oe) :: (X.pn ++ pins))) S3 hg hm q nodbg
      · exact ld_blt (X := X.suite ea ((ea, oe) :: (X.pn ++ pins))) S3 hg hm hv q hn nodbg
    have kind : PySem.W.Looks (model X.prog X.w) hp3 (typeOf (.ref ea)) cls := fun A Q E s k q => wpAny_typeOf_ref (k _ _ there) (zc.1.symm ▸ q)
    have clauses : ∀ {hs' : List ExceptHandler} {l' : List Cl}, ClsOk X hs' l' → wCls X.K Wout D l' cls dc σ1 H1 → wpAny (model X.prog X.w) X.A (handleBy (.ref ea) X.env hs') (SP X pins D) X.xe { s' with heap := hp3 } := by
      intro hs' l' ok
      induction ok with
      | nil =>
        intro want
        apply wpAny_handleBy_nil
        have ⟨_, _, _, o0, v0, T, oT, t0, e0, z0, d0, f0, _⟩ := flying
        unfold PySem.passOn
        apply wpAny_bind
        apply wpAny_field e0 d0 f0
        rw [if_neg (show ¬ (Value.ref T == Value.none) = true by simp)]
        have on : wpAny (model X.prog X.w) X.A (setFlight (.ref ea) X.env.frame) (fun _ s4 => wpAny (model X.prog X.w) X.A (throw (.ref ea) : Sem Flow) (SP X pins D) X.xe s4) X.xe { s' with heap := hp3 } := by
          rw [hf]
          refine HandSPX.setFlight_upZ flying fun hp4 held upto4 => wpAny_throw (tk _ _ ?_)
          refine ⟨ea, B, sI, pins, σ1, H1, cls, dc, rfl, J, below, (upto.trans upto3).trans upto4, .inr (.inr ?_), gone, sameOs, bare, want⟩
          rw [hs]
          exact held
        first
          | exact wpAny_bind (wpAny_pure (wpAny_bind on))
          | exact wpAny_bind on
      | @bare x c ts b₀ suite np pos' hds2 l2 hc hsu r ih =>
        intro want
        have ⟨b, match_, yes, no⟩ := want
        refine wpAny_handleBy_cons (codeAny_handlers_test ?_) (fun q => nomatch q)
        refine tested hc ((PySem.W.exm_one (M := model X.prog X.w) K3.kIn kind match_).here ?_)
        cases b with
        | false => exact ih (no rfl)
        | true =>
          apply codeAny_handlers_suite
          refine HandSPX.lands_againZ flying fun hp4 flying4 upto4 => ?_
          have ⟨oe4, vs4, there4, zc4, dat4⟩ := flying4.there
          have S4 := (show Inv X pins σ1 H1 { s' with heap := hp4 } from J.landed below flying4.1 ((upto.trans upto3).trans upto4) sameOs bare).suite there4 dat4 gone notL notF
          refine wpAny_mono ((hsu ea oe4 cls dc (X.pn ++ pins) zc4 ⟨_, dat4⟩).run [] _ _ H1 _ S4 (yes rfl ea gone)) (fun fl s6 out => ?_) (fun _ _ z => z.elim)
          match fl, out with
          | .next, ⟨_, _, S6, q⟩ => exact ⟨_, _, S6.unsuite fine, q⟩
          | .brk, ⟨_, _, S6, q⟩ => exact ⟨_, _, S6.unsuite fine, q⟩
          | .cont, ⟨_, _, S6, q⟩ => exact ⟨_, _, S6.unsuite fine, q⟩
          | .ret _, ⟨_, _, _, S6, rv, q⟩ => exact ⟨_, _, _, S6.unsuite fine, rv, q⟩
      | @named x n i c ts b₀ suite np pos' hds2 l2 hc hi hln hsu r ih =>
        intro want
        have ⟨b, match_, yes, no⟩ := want
        refine wpAny_handleBy_cons (codeAny_handlers_test ?_) (fun q => nomatch q)
        refine tested hc ((PySem.W.exm_one (M := model X.prog X.w) K3.kIn kind match_).here ?_)
        cases b with
        | false => exact ih (no rfl)
        | true =>
          apply codeAny_handlers_suite_as
          refine HandSPX.lands_againZ flying fun hp4 flying4 upto4 => ?_
          have ⟨oe4, vs4, there4, zc4, dat4⟩ := flying4.there
          have S4 := (show Inv X pins σ1 H1 { s' with heap := hp4 } from J.landed below flying4.1 ((upto.trans upto3).trans upto4) sameOs bare).suite there4 dat4 gone notL notF
          refine store_ok (X := X.suite ea ((ea, oe4) :: (X.pn ++ pins))) (v := .ref ea) S4 hN hi (.inl hln) rfl (fun s5 S5 => ?_) (.inr hln)
          refine wpAny_mono ((hsu ea oe4 cls dc (X.pn ++ pins) zc4 ⟨_, dat4⟩).run [] s5 _ H1 _ S5 (yes rfl ea gone)) (fun fl s6 out => ?_) (fun _ _ z => z.elim)
          have emptied : ∀ {σ6 : L2.St} {H6 : Hp} {Q : Shared → Prop}, Inv (X.suite ea ((ea, oe4) :: (X.pn ++ pins))) [] σ6 H6 s6 → (∀ s7, Inv X pins (σ6.set i none) H6 s7 → Q s7) →
              wpAny (model X.prog X.w) X.A (do bindName X.env n .none; unbindBehindTheSuite X.env n pos') (fun _ s7 => Q s7) X.xe s6 := fun S6 q => gone_ok (S6.unsuite fine) hN hi hln q
          match fl, out with
          | .next, ⟨_, _, S6, q⟩ => exact emptied S6 fun s7 J7 => ⟨_, _, J7, q⟩
          | .brk, ⟨_, _, S6, q⟩ => exact emptied S6 fun s7 J7 => ⟨_, _, J7, q⟩
          | .cont, ⟨_, _, S6, q⟩ => exact emptied S6 fun s7 J7 => ⟨_, _, J7, q⟩
          | .ret _, ⟨_, _, _, S6, rv, q⟩ => exact emptied S6 fun s7 J7 => ⟨_, _, _, J7, rv, q⟩
    exact clauses hh want
  refine wpAny_mono ((hb _ (X.pn ++ pins) _ caught).run [] s σ H D (I.toTry _) wish) (fun fl s1 out => ?_) (fun e s1 he => he)
  match fl, out with
  | .next, ⟨_, _, J1, q⟩ => exact wpAny_execs_nil ⟨_, _, J1.ofTry fine, q⟩
  | .brk, ⟨_, _, J1, q⟩ => exact ⟨_, _, J1.ofTry fine, q⟩
  | .cont, ⟨_, _, J1, q⟩ => exact ⟨_, _, J1.ofTry fine, q⟩
  | .ret _, ⟨_, _, _, J1, rv, q⟩ => exact ⟨_, _, _, J1.ofTry fine, rv, q⟩
end
end Ms

/-! PyXy: the mirror of try with clauses; what a caught exception bears. -/
namespace Ms
open PySem PySem.Spec L2 PyProof.Rows
open Mi (Dv MO Sto Sl Rs bnd ME MT MA MS MF Fl MG MGs MI)
/-- a caught exception as a value: at a, its dict at dd with the handle o -/
def exV (a dd : Nat) : Option Nat → Dv
  | some h => .exc a dd h
  | none => .exn a
open Classical in
/-- what comes out alike at whatever places -/
noncomputable def uni {α : Type} (f : Nat → Nat → Option α) : Option α := if h : ∃ r, ∀ a b, f a b = some r then some h.choose else none
theorem uni_at {α : Type} {f : Nat → Nat → Option α} {r : α} (h : uni f = some r) (a b : Nat) : f a b = some r := by
  unfold uni at h
  split at h
  · rename_i z
    cases h
    exact z.choose_spec a b
  · cases h
theorem uni_of {α : Type} {f : Nat → Nat → Option α} {r : α} (h : ∀ a b, f a b = some r) : uni f = some r := by
  unfold uni
  have z : ∃ r, ∀ a b, f a b = some r := ⟨r, h⟩
  rw [dif_pos z]
  exact congrArg some (Option.some.inj ((z.choose_spec 0 0).symm.trans (h 0 0)))
/-- a clause of the mirror: its class, its name's slot, its suite by the class and the exception -/
abbrev MCl := Nat × Option Nat × (Nat → Dv → MS)
noncomputable def mSuite (n : Option Nat) (s : Nat → Dv → MS) (c : Nat) (o : Option Nat) (δ : Sl) (G : Sto) : Option (Fl × Sl × Sto) := match n with
  | none => uni fun a dd => s c (exV a dd o) δ G
  | some i => uni fun a dd => match s c (exV a dd o) (δ.set i (some (exV a dd o))) G with
    | some (f, δ', G') => some (f, δ'.set i none, G')
    | none => none
/-- the clauses, one after the other; sub: which class is below which -/
noncomputable def mClauses (sub : Nat → Nat → Option Bool) (c : Nat) (o : Option Nat) (δ : Sl) (G : Sto) : List MCl → Option (Fl × Sl × Sto)
  | [] => none
  | (cn, n, s) :: r => match sub c cn with
    | some true => mSuite n s c o δ G
    | some false => mClauses sub c o δ G r
    | none => none
/-- try: b; except ..: .. -/
noncomputable def mTry (sub : Nat → Nat → Option Bool) (b : MSX) (hs : List MCl) : MS := fun δ G => match b δ G with
  | some (.fl f, δ', G') => some (f, δ', G')
  | some (.ex c o, δ', G') => mClauses sub c o δ' G' hs
  | none => none
theorem sr_forget {K : PySem.W.Frag} {ρ : Rh} {H : Hp} {δ : Sl} {σ : L2.St} (s : Sr K ρ H δ σ) (i : Nat) : Sr K ρ H (δ.set i none) (σ.set i none) := by
  refine ⟨by rw [List.length_set, List.length_set]; exact s.len, fun j e hj => ?_⟩
  by_cases hij : j = i
  · subst hij
    have hl : j < δ.length := by
      have z := (List.getElem?_eq_some_iff.mp hj).1
      rwa [List.length_set] at z
    rw [List.getElem?_set_self hl] at hj
    cases hj
  · rw [List.getElem?_set_ne (Ne.symm hij)] at hj
    have ⟨w, h1, h2⟩ := s.at_ j e hj
    exact ⟨w, by rw [List.getElem?_set_ne (Ne.symm hij)]; exact h1, h2⟩
theorem dr_exV {K : PySem.W.Frag} {ρ : Rh} {H : Hp} {o : Option Nat} {da : Option Addr} (a : Addr) (h : ExD ρ o da) : ∃ dd : Addr, DR K ρ H (exV a dd o) (.ref a) ∧ (match o with | none => da = none | some _ => da = some dd) := by
  cases o with
  | none => exact ⟨0, .exn, h⟩
  | some k =>
    have ⟨dd, h1, h2⟩ := h
    exact ⟨dd, .exc h1, h2⟩
/-- the dict that goes with it -/
abbrev dOf (o : Option Nat) (dd : Addr) : Option Addr := match o with | none => none | some _ => some dd
/-- what the layer's suite wishes, by the mirror's -/
def rSuite (K : PySem.W.Frag) (kx : Kx) (s : Nat → Dv → MS) (a : Addr) (cls : Value) (d : Option Addr) : TS := fun D σ H => ∃ (c : Nat) (o : Option Nat) (dd : Addr), cls = .ref (kx.ca c) ∧ d = dOf o dd ∧ sM K kx (s c (exV a dd o)) D σ H
/-- how the clauses of the text answer to those of the mirror -/
inductive MClsOk (X : Cx) (kx : Kx) : List ExceptHandler → List MCl → Prop
  | nil : MClsOk X kx [] []
  | bare {x : Str} {cn : Nat} {s : Nat → Dv → MS} {b₀ : Stmt} {suite : List Stmt} {np pos' : Pos} {hds : List ExceptHandler} {l : List MCl} (hm : X.mg x = some (.ref (kx.ca cn)))
      (hsu : ∀ (a dd : Addr) (oe : Obj) (c : Nat) (o : Option Nat) (pn : List (Addr × Obj)), Zc (.ref (kx.ca c)) (dOf o dd) oe → (∃ vs, oe.data = .fields vs) → PSs (X.suite a ((a, oe) :: pn)) (b₀ :: suite) (sM X.K kx (s c (exV a dd o)))) (r : MClsOk X kx hds l)
      (hg : Gl X x := by rfl) (hdb : (x == ("__debug__" : Str)) = false := by decide) : MClsOk X kx (.ExceptHandler (some (.Name x np)) none (b₀ :: suite) pos' :: hds) ((cn, none, s) :: l)
  | named {x n : Str} {cn i : Nat} {s : Nat → Dv → MS} {b₀ : Stmt} {suite : List Stmt} {np pos' : Pos} {hds : List ExceptHandler} {l : List MCl} (hm : X.mg x = some (.ref (kx.ca cn)))
      (hsu : ∀ (a dd : Addr) (oe : Obj) (c : Nat) (o : Option Nat) (pn : List (Addr × Obj)), Zc (.ref (kx.ca c)) (dOf o dd) oe → (∃ vs, oe.data = .fields vs) → PSs (X.suite a ((a, oe) :: pn)) (b₀ :: suite) (sM X.K kx (s c (exV a dd o)))) (r : MClsOk X kx hds l)
      (hg : Gl X x := by rfl) (hdb : (x == ("__debug__" : Str)) = false := by decide) (hi : X.N[i]? = some n := by rfl) (hln : X.env.kindOf n = some .local := by rfl) : MClsOk X kx (.ExceptHandler (some (.Name x np)) (some n) (b₀ :: suite) pos' :: hds) ((cn, some i, s) :: l)
def toCl (K : PySem.W.Frag) (kx : Kx) : MCl → Cl := fun p => (.ref (kx.ca p.1), p.2.1, rSuite K kx p.2.2)
theorem MClsOk.to {X : Cx} {kx : Kx} : ∀ {hds : List ExceptHandler} {l : List MCl}, MClsOk X kx hds l → ClsOk X hds (l.map (toCl X.K kx)) := fun {hds l} h => by
  have suited : ∀ {s : Nat → Dv → MS} {st : List Stmt}, (∀ (a dd : Addr) (oe : Obj) (c : Nat) (o : Option Nat) (pn : List (Addr × Obj)), Zc (.ref (kx.ca c)) (dOf o dd) oe → (∃ vs, oe.data = .fields vs) → PSs (X.suite a ((a, oe) :: pn)) st (sM X.K kx (s c (exV a dd o)))) →
      ∀ (a : Addr) (oe : Obj) (cls : Value) (d : Option Addr) (pn : List (Addr × Obj)), Zc cls d oe → (∃ vs, oe.data = .fields vs) → PSs (X.suite a ((a, oe) :: pn)) st (rSuite X.K kx s a cls d) := by
    intro s st hsu a oe cls d pn z dat
    constructor
    intro pins sh σ H D I want
    obtain ⟨c, o, dd, e1, e2, q⟩ := want
    subst e1
    subst e2
    exact (hsu a dd oe c o pn z dat).run pins sh σ H D I q
  induction h with
  | nil => exact .nil
  | bare hm hsu r hg hdb ih => exact .bare ⟨hg, hdb, .inl hm⟩ (suited hsu) ih
  | named hm hsu r hg hdb hi hln ih => exact .named ⟨hg, hdb, .inl hm⟩ hi hln (suited hsu) ih
/-- which class is below which -/
def SubOk (K : PySem.W.Frag) (kx : Kx) (sub : Nat → Nat → Option Bool) : Prop := ∀ c cn b, sub c cn = some b → PySem.W.exmOne K (.ref (kx.ca c)) (.ref (kx.ca cn)) = some b
theorem clauses_ok {K : PySem.W.Frag} {kx : Kx} {sub : Nat → Nat → Option Bool} (hsub : SubOk K kx sub) {c : Nat} {o : Option Nat} {δ1 δ' : Sl} {G1 G' : Sto} {f : Fl} {ρ1 : Rh} {H1 : Hp} {σ1 : L2.St} {da : Option Addr} {D : Ends} (r1 : Rl K kx ρ1 G1 H1) (s1 : Sr K ρ1 H1 δ1 σ1) (hd : ExD ρ1 o da) (k1 : Ko K kx ρ1 H1 f δ' G' D) :
    ∀ l : List MCl, mClauses sub c o δ1 G1 l = some (f, δ', G') → wCls K (fun _ _ _ _ => False) D (l.map (toCl K kx)) (.ref (kx.ca c)) da σ1 H1
  | [], e => nomatch e
  | (cn, n, s) :: r, e => by
    rw [mClauses] at e
    split at e
    · rename_i es
      refine ⟨true, hsub _ _ _ es, fun _ a free => ?_, fun z => absurd z (by decide)⟩
      obtain ⟨dd, dv, hdd⟩ := dr_exV (K := K) (H := H1) a hd
      have edd : da = dOf o dd := by cases o <;> exact hdd
      cases n with
      | none => exact ⟨c, o, dd, rfl, edd, ρ1, G1, δ1, f, δ', G', r1, s1, uni_at e a dd, k1⟩
      | some i =>
        have at_ := uni_at e a dd
        split at at_
        · rename_i f2 δ2 G2 e2
          cases at_
          refine ⟨c, o, dd, rfl, edd, ρ1, G1, _, f, δ2, G', r1, s1.set i dv, e2, ?_⟩
          cases f <;> exact fun ρ' σ' H' g' r' s' => k1 ρ' (σ'.set i none) H' g' r' (sr_forget s' i)
        · cases at_
    · rename_i es
      exact ⟨false, hsub _ _ _ es, fun z => absurd z (by decide), fun _ => clauses_ok hsub r1 s1 hd k1 r e⟩
    · cases e
section
variable {X : Cx} {kx : Kx} {body : List Stmt} {h₀ : ExceptHandler} {hds : List ExceptHandler} {l : List MCl} {pos : Pos} {m1 : MSX} {sub : Nat → Nat → Option Bool}
theorem s_try (hs : X.stack = X.env :: X.outer) (hf : X.env.frame = some X.env.locals) (hN : X.N.Nodup) (hsub : SubOk X.K kx sub)
    (hb : ∀ (W : WX) (pn : List (Addr × Obj)) (xe : Value → Shared → Prop), Takes (X.tr pn xe) W → PSs (X.tr pn xe) body (sX X.K kx W m1)) (hh : MClsOk X kx (h₀ :: hds) l) :
    PS X (.Try body (h₀ :: hds) [] [] pos) (sM X.K kx (mTry sub m1 l)) :=
  (ps_try_cls (tb := fun W => sX X.K kx W m1) (Wout := fun _ _ _ _ => False) hs hf hN (fun _ _ ⟨_, _, _, _, _, _, _, _, _, _, _, _, _, _, _, _, z⟩ => z.elim) hb hh.to).imp fun D σ H ⟨ρ, G, δ, f, δ', G', rl, sr, e, k⟩ => by
  unfold mTry at e
  split at e
  · rename_i f1 δ1 G1 e1
    cases e
    exact ⟨ρ, G, δ, .fl _, _, _, rl, sr, e1, k⟩
  · rename_i c o δ1 G1 e1
    refine ⟨ρ, G, δ, .ex c o, δ1, G1, rl, sr, e1, fun ρ1 σ1 H1 da g1 r1 s1 hd => ?_⟩
    exact clauses_ok hsub r1 s1 hd (Ko.gr g1 k) l e
  · cases e
/-- e.f of a caught exception -/
def mExF (cs : List Nat) (c : Nat) (v : Dv) (i : Nat) (f : String) : ME := match v with
  | .exc a dd h => fun δ G => match δ[i]? with
    | some (some (.exc a' dd' h')) => if a' = a ∧ dd' = dd ∧ h' = h ∧ c ∈ cs then match G[h]? with
      | some (.xd fs) => (fs.lookup f).map fun d => (d, G)
      | _ => none else none
    | _ => none
  | _ => fun _ _ => none
theorem m_exF {cs : List Nat} {c i : Nat} {o : Option Nat} {a dd : Addr} {oe : Obj} {pn : List (Addr × Obj)} {n : Str} {f : String} {p pos : Pos} (hz : Zc (.ref (kx.ca c)) (dOf o dd) oe) (hd : ∃ vs, oe.data = .fields vs) (T : ∀ c ∈ cs, XfC X.K (kx.ca c) ∧ PySem.W.findIn X.K (.ref (kx.ca c)) (Str.ofString f) = some none)
    (hN : X.N[i]? = some n := by rfl) (hv : Vis X.env.scope n := by first | exact Or.inl rfl | exact Or.inr (Or.inl rfl) | exact Or.inr (Or.inr rfl)) (h1 : (n == ("__debug__" : Str)) = false := by decide) (h2 : (n == ("__classdict__" : Str)) = false := by decide)
    (hb : attributeBase (.Name n p) (Str.ofString f) X.env (eval (.Name n p) X.env) = eval (.Name n p) X.env := by rfl) :
    PE (X.suite a ((a, oe) :: pn)) (.Attribute (.Name n p) (Str.ofString f) pos) (tM X.K kx (mExF cs c (exV a dd o) i f)) := by
  by_cases hc : c ∈ cs
  · refine (pe_xf (T c hc).1 (T c hc).2 hz hd (pe_var (X := X.suite a ((a, oe) :: pn)) hN hv h1 h2) hb).imp fun σ H Q ⟨ρ, G, δ, d, G', rl, sr, e, k⟩ => ?_
    cases o with
    | none => exact nomatch e
    | some h =>
      change (match δ[i]? with
        | some (some (.exc a' dd' h')) => if a' = a ∧ dd' = dd ∧ h' = h ∧ c ∈ cs then match G[h]? with
          | some (.xd fs) => (fs.lookup f).map fun d => (d, G)
          | _ => none else none
        | _ => none) = some (d, G') at e
      split at e
      · rename_i a' dd' h' eq
        split at e
        · rename_i same
          rw [same.1, same.2.1, same.2.2.1] at eq
          have ⟨v, e1, dv⟩ := sr.at_ i _ eq
          cases dv with
          | exc eh =>
            split at e
            · rename_i fs eG
              cases el : fs.lookup f with
              | none => rw [el] at e; cases e
              | some d0 =>
                rw [el] at e
                cases e
                have at_ := rl.at eh eG
                cases at_ with
                | @xd fs' _ hx fr =>
                  have ⟨w, ew, dw⟩ := (flook_ok fr).1 _ el
                  exact ⟨_, e1, rfl, rfl, _, fs', w, rfl, hx, ew, k w ρ H Gr.refl rl dw⟩
            · cases e
        · cases e
      · cases e
  · refine ⟨fun pins s σ H Q I ⟨ρ, G, δ, d, G', rl, sr, e, k⟩ => ?_⟩
    cases o with
    | none => exact nomatch e
    | some h =>
      change (match δ[i]? with
        | some (some (.exc a' dd' h')) => if a' = a ∧ dd' = dd ∧ h' = h ∧ c ∈ cs then match G[h]? with
          | some (.xd fs) => (fs.lookup f).map fun d => (d, G)
          | _ => none else none
        | _ => none) = some (d, G') at e
      split at e
      · rw [if_neg fun z => hc z.2.2.2] at e
        cases e
      · cases e
end
end Ms

/-! PyLam: x(lambda: e), x a def that calls what it gets, once or again. -/
namespace Ms
open PySem PySem.Spec L2 PyProof.Rows
open Mi (Dv MO Sto Sl Rs bnd ME MT MA MS MF Fl MG MGs MI)
/-- what the lambda does, by the store alone -/
abbrev Tl := Sto → Option (Rx × Sto)
open Classical in
noncomputable def uni3 {α : Type} (f : Nat → Nat → Str → Option α) : Option α := if h : ∃ r, ∀ a b q, f a b q = some r then some h.choose else none
theorem uni3_at {α : Type} {f : Nat → Nat → Str → Option α} {r : α} (h : uni3 f = some r) (a b : Nat) (q : Str) : f a b q = some r := by
  unfold uni3 at h
  split at h
  · rename_i z
    cases h
    exact z.choose_spec a b q
  · cases h
theorem uni3_of {α : Type} {f : Nat → Nat → Str → Option α} {r : α} (h : ∀ a b q, f a b q = some r) : uni3 f = some r := by
  unfold uni3
  have z : ∃ r, ∀ a b q, f a b q = some r := ⟨r, h⟩
  rw [dif_pos z]
  exact congrArg some (Option.some.inj ((z.choose_spec 0 0 "").symm.trans (h 0 0 "")))
/-- the body of such a def: by the function's place, its code's, its name, and what it does -/
abbrev MBg := Nat → Nat → Str → Tl → MS
/-- the def: the value that it returns -/
noncomputable def mTold (l : Nat) (b : MBg) (tl : Tl) : Sto → Rs Dv := fun G => uni3 fun f c q => match b f c q tl (some (.fn f c q) :: List.replicate l none) G with
  | some (.nx, _, G') => some (.non, G')
  | some (.rt d, _, G') => some (d, G')
  | _ => none
/-- a() in it -/
def xAct (f c : Nat) (q : Str) (tl : Tl) : MEX := fun (δ : Sl) G => match (δ[0]? : Option (Option Dv)) with
  | some (some (Dv.fn f' c' q')) => if f' = f ∧ c' = c ∧ q' = q then tl G else none
  | _ => none
/-- x(lambda: e) -/
noncomputable def mLam (l : Nat) (b : MBg) (body : MEX) : ME := fun δ G => mTold l b (fun G1 => body δ G1) G
/-- what the maker's slots bear, kept as constants -/
def slotCs : Sl → L2.St → List (V × Dv)
  | some d :: δ, some v :: σ => (v, d) :: slotCs δ σ
  | _ :: δ, _ :: σ => slotCs δ σ
  | _, _ => []
theorem slotCs_at : ∀ {δ : Sl} {σ : L2.St} {i : Nat} {d : Dv} {v : V}, δ[i]? = some (some d) → σ[i]? = some (some v) → (v, d) ∈ slotCs δ σ
  | [], _, i, _, _, e, _ => by simp at e
  | _ :: _, [], i, _, _, _, e => by simp at e
  | x :: δ, y :: σ, 0, d, v, e1, e2 => by
    simp at e1 e2
    subst e1
    subst e2
    exact List.mem_cons_self ..
  | x :: δ, y :: σ, i + 1, d, v, e1, e2 => by
    have h := slotCs_at (δ := δ) (σ := σ) (i := i) (d := d) (v := v) (by simpa using e1) (by simpa using e2)
    cases x <;> cases y <;> first | exact h | exact List.mem_cons_of_mem _ h
theorem slotCs_of {K : PySem.W.Frag} {ρ : Rh} {H : Hp} {R : Dv → V → Prop} : ∀ {δ : Sl} {σ : L2.St}, (∀ (i : Nat) (d : Dv), δ[i]? = some (some d) → ∃ v, σ[i]? = some (some v) ∧ R d v) → ∀ p ∈ slotCs δ σ, R p.2 p.1
  | [], _, _, p, hp => by simp [slotCs] at hp
  | _ :: _, [], _, p, hp => by simp [slotCs] at hp
  | x :: δ, y :: σ, h, p, hp => by
    have tail := slotCs_of (K := K) (ρ := ρ) (H := H) (R := R) (δ := δ) (σ := σ) fun i d e => h (i + 1) d (by simpa using e)
    cases x with
    | none => cases y <;> exact tail p hp
    | some d => cases y with
      | none => exact tail p hp
      | some v =>
        rcases (List.mem_cons.mp hp : _ ∨ _) with e | e
        · subst e
          have ⟨w, e1, e2⟩ := h 0 d rfl
          cases e1
          exact e2
        · exact tail p e
section
variable {K : PySem.W.Frag} {kx : Kx} {ρ ρ' : Rh} {G : Sto} {H H' : Hp} {cs : List (V × Dv)}
abbrev withCs (kx : Kx) (cs : List (V × Dv)) : Kx := { kx with cs := cs }
theorem OR.wcs {a : Addr} {o : MO} (h : OR K kx ρ H a o) : OR K (withCs kx cs) ρ H a o := by
  cases h with
  | lst h r => exact .lst h r
  | dct h r => exact .dct h r
  | ins h r => exact .ins h r
  | fdc h r => exact .fdc h r
  | xd h r => exact .xd h r
theorem OR.uncs {a : Addr} {o : MO} (h : OR K (withCs kx cs) ρ H a o) : OR K kx ρ H a o := by
  cases h with
  | lst h r => exact .lst h r
  | dct h r => exact .dct h r
  | ins h r => exact .ins h r
  | fdc h r => exact .fdc h r
  | xd h r => exact .xd h r
theorem Rl.wcs (r : Rl K kx ρ G H) (h : ∀ p ∈ cs, DR K ρ H p.2 p.1) : Rl K (withCs kx (cs ++ kx.cs)) ρ G H :=
  ⟨r.len, r.nd, (fun i o e => let ⟨a, h1, h2⟩ := r.ob i o e; ⟨a, h1, h2.wcs⟩), (fun p hp => (List.mem_append.mp hp).elim (h p) (r.gl p)), r.xt, r.tb⟩
theorem Rl.uncs (r : Rl K (withCs kx (cs ++ kx.cs)) ρ G H) : Rl K kx ρ G H ∧ ∀ p ∈ cs, DR K ρ H p.2 p.1 :=
  ⟨⟨r.len, r.nd, (fun i o e => let ⟨a, h1, h2⟩ := r.ob i o e; ⟨a, h1, h2.uncs⟩), (fun p hp => r.gl p (List.mem_append_right _ hp)), r.xt, r.tb⟩, fun p hp => r.gl p (List.mem_append_left _ hp)⟩
end
/-- a def of the text whose code has a table: what a maker of lambdas asks -/
structure Mkr (K : PySem.W.Frag) (mg : Str → Option Value) (base : Heap) (kx : Kx) (qual : Str) (cdv : Value) : Prop where
  ex : ∃ c P, cdv = .ref c ∧ LamX.TabB base mg c P ∧ (P, qual ++ "<lambda>") ∈ kx.tt ∧ ∀ p ∈ kx.tt, p.1 = P → p.2 = qual ++ "<lambda>"
/-- the def x of one argument a that calls it: its body as a mirror -/
def TldOk (P : Program) (w : World) (K : PySem.W.Frag) (kx : Kx) (mg : Str → Option Value) (base : Heap) (k : Nat) (Ng : List Str) (x a : Str) (st : Stmt) (b : MBg) : Prop :=
  ∀ (cs : List (V × Dv)) (f c : Addr) (q : Str) (tl : Tl) (g : Addr) (cdv : Value) (A : Around) (outer : List Env) (s : Shared) (H : Hp), Room k (A.deeper (envOfC x (defScope st) s.heap.objs.size g cdv)) → A.guards = some [] →
    (∀ (W : WX) (pn : List (Addr × Obj)) (xe : Value → Shared → Prop) (p1 p2 : Pos), Takes ((cxOf CX0 P w K mg base Ng x (defScope st) g cdv A outer s H E0).tr pn xe) W →
      PE ((cxOf CX0 P w K mg base Ng x (defScope st) g cdv A outer s H E0).tr pn xe) (.Call (.Name a p1) [] [] p2) (tX K (withCs kx cs) W (xAct f c q tl))) →
    PSs (cxOf CX0 P w K mg base Ng x (defScope st) g cdv A outer s H E0).nox (defBody st) (sM K (withCs kx cs) (b f c q tl))
structure Tld (P : Program) (w : World) (K : PySem.W.Frag) (kx : Kx) (mg : Str → Option Value) (base : Heap) (k l : Nat) (x : Str) (st : Stmt) (b : MBg) : Prop where
  ex : ∃ (f : Addr) (fd : FuncData) (Ng : List Str) (a : Str), Fun K x x st f fd ∧ mg x = some (.ref f) ∧ FnScope Ng [a] (defScope st) ∧ Ng.length = 1 + l ∧ Ng[0]? = some a ∧ Vis (defScope st) a ∧ Binds K fd [a] [] ∧ (a == ("__debug__" : Str)) = false ∧ (a == ("__classdict__" : Str)) = false ∧ TldOk P w K kx mg base k Ng x a st b
theorem KeX.cs {K : PySem.W.Frag} {kx : Kx} {ρ : Rh} {H : Hp} {r : Rx} {G' : Sto} {Q : VK} {E : XK} {cs : List (V × Dv)} (h : ∀ p ∈ cs, DR K ρ H p.2 p.1) (q : KeX K (withCs kx (cs ++ kx.cs)) ρ H r G' Q E) : KeX K kx ρ H r G' Q E := by
  cases r with
  | ok d => exact fun v ρ' H' g r dv => q v ρ' H' g (r.wcs fun p hp => (h p hp).gr g) dv
  | ex c o => exact fun ρ' H' da g r hd => q ρ' H' da g (r.wcs fun p hp => (h p hp).gr g) hd
section
variable {X : Cx} {kx : Kx} {pins : List (Addr × Obj)} {σ : L2.St} {H : Hp} {s : Shared} {ρ : Rh} {δ : Sl} {mbody : MEX} {k : Nat} {Ng : List Str} {x a : Str} {st : Stmt} {g f c : Addr} {cdv pm ctv : Value} {params : Arguments} {body : Expr} {scope : Scope} {W : WX} {pn : List (Addr × Obj)} {xe : Value → Shared → Prop} {p1 p2 : Pos}
/-- a(), a the lambda: in the def that got it -/
theorem act_ok (I : Inv X pins σ H s) (sr : Sr X.K ρ H δ σ) (L : LamX.LamS X.env.scope scope) (made : s.heap.get? f = some (PySem.W.kla_obj "<lambda>" (X.env.qual ++ "<lambda>") params body scope (cloFrom X.env.cells scope.names []) pm c ctv)) (free : H f = none) (far : f ∉ frs X.stack)
    (none_ : bindArgs (PySem.W.kla_fn "<lambda>" (X.env.qual ++ "<lambda>") params body scope (cloFrom X.env.cells scope.names []) pm (.ref c) ctv) ⟨[], []⟩ = pure []) (tk : Takes ((cxOf CX0 X.prog X.w X.K X.mg X.base Ng x (defScope st) g cdv X.A X.stack s H E0).tr pn xe) W)
    (hr : Room (k + 1) (X.A.deeper (envOfC x (defScope st) s.heap.objs.size g cdv)))
    (does : ∀ (outer : List Env) (s2 : Shared) (H2 : Hp) (E : XK), Room k ((X.A.deeper (envOfC x (defScope st) s.heap.objs.size g cdv)).deeper (LamX.lamEnv X scope s2.heap.objs.size f c)) →
      PE (LamX.lamCx X (X.A.deeper (envOfC x (defScope st) s.heap.objs.size g cdv)) outer s2 H2 E scope f c) body (tX X.K kx (fun cls d _ H => E cls d H) mbody))
    (hNg : Ng[0]? = some a) (hva : Vis (defScope st) a) (hd : (a == ("__debug__" : Str)) = false) (hcd : (a == ("__classdict__" : Str)) = false) :
    PE ((cxOf CX0 X.prog X.w X.K X.mg X.base Ng x (defScope st) g cdv X.A X.stack s H E0).tr pn xe) (.Call (.Name a p1) [] [] p2) (tX X.K (withCs kx (slotCs δ σ ++ kx.cs)) W (xAct f c (X.env.qual ++ "<lambda>") fun G1 => mbody δ G1)) := by
  constructor
  intro pinsZ sZ σZ HZ Q IZ want
  obtain ⟨ρ1, G1, δ1, r1, G1', rl1, sr1, e1, k1⟩ := want
  unfold xAct at e1
  split at e1
  · rename_i f' c' q' e0
    split at e1
    · rename_i same
      obtain ⟨rfl, rfl, rfl⟩ := same
      have ⟨v0, es, dv⟩ := sr1.at_ 0 _ e0
      cases dv with
      | fn coded =>
        have ⟨rl2, held⟩ := rl1.uncs
        have sr2 : Sr X.K ρ1 HZ δ σ := ⟨sr.len, fun i d e => by
          have ⟨v, ev, _⟩ := sr.at_ i d e
          exact ⟨v, ev, held _ (slotCs_at e ev)⟩⟩
        refine wpAny_Call_Name_kw (thn ((pe_var (pos := p1) (i := 0) hNg hva hd hcd).run pinsZ sZ σZ HZ (fun v H1 => v = .ref f' ∧ H1 = HZ) IZ ⟨.ref f', es, rfl, rfl⟩) fun u s1 got => ?_)
        obtain ⟨v, H1, I1, rv, ev, eH⟩ := got
        subst ev
        subst eH
        cases (show u = Value.ref f' from rv)
        have still := I1.base.keep f' _ made free far (fun z => nomatch (show f' ∈ ([] : List Addr) from z))
        refine PySem.W.callWith_F0 ⟨_, _, _, _, still⟩ ?_
        have un : Un (frs X.stack) [] H H1 s.heap s1.heap := I1.base
        have ⟨⟨oc, vs, t, there, dat, slot⟩, _, _⟩ := I1.hok c' _ coded
        have ran : codeAny (model X.prog X.w) (X.A.deeper (envOfC x (defScope st) s.heap.objs.size g cdv)) (.call (.ref f') ⟨[], []⟩) (CR (L2.CX X.prog X.w) (envOfC x (defScope st) s.heap.objs.size g cdv :: X.stack) X.prog X.w H1 s1 Q (WE W σZ)) s1 := by
          refine PySem.W.kla_callFunE hr.depth still rfl L.co L.gen rfl ⟨c', oc, vs, t, rfl, there, dat, slot⟩ ?_
          rw [none_]
          refine wpAny_pure (wpAny_newFunctionEnv (fun y hy => (L.own y hy).2) (fun y hy => absurd hy (by simp)) (fun hp ns same => ⟨I1.nolimit.fresh _ same, ?_⟩) L.kind)
          change codeAny _ _ (.expr body (LamX.lamEnv X scope s1.heap.objs.size f' c')) _ _
          have grown : ∀ b o, s1.heap.get? b = some o → hp.get? b = some o := fun b o e => same.extBut b o (Nat.ne_of_lt (Heap.lt_size e)) (Heap.get?_push_of_some _ e)
          have J := LamX.lam_start2 (E := WE W σZ) (f := f') (c' := c') (tk := s1.toks + ([] : List (Str × Value)).length) I L I1.env0 hr.hd un ns grown
          refine PySem.W.kla_codeExpr (wpAny_mono ((does _ s1 H1 (WE W σZ) (hr.deeper _)).run [] _ _ H1 Q J ⟨ρ1, G1, δ, r1, G1', rl2, sr2, e1, k1.cs held⟩) (fun v s' out => ?_) fun _ _ z => z)
          have ⟨w', H', J', rw', q⟩ := out
          exact ⟨w', H', J'.os, J'.bare, J'.base, J'.hok, rw', q⟩
        refine wpAny_call (codeAny_mono ran fun r s' out => ?_)
        match r, out with
        | .error e, out => exact passAt tk σZ pinsZ H1 s1 e s' I1 out
        | .ok (.ret u), out => exact I1.after out
    · cases e1
  · cases e1
/-- x(lambda: e) -/
theorem m_lam {kg l : Nat} {b : MBg} {p lpos pos : Pos} (T : Tld X.prog X.w X.K kx X.mg X.base kg l x st b) (M : Mkr X.K X.mg X.base kx X.env.qual X.env.code) (quiet : X.A.guards = some []) (hr : Room (kg + 1) X.A) (hk : k + 1 ≤ kg) (L : LamX.LamS X.env.scope scope) (hdef : defaultsOf params X.env = ([], []))
    (hbind : ∀ (q : Str) (cl : List (Str × Addr)) (pm cv ctv : Value), bindArgs (PySem.W.kla_fn "<lambda>" q params body scope cl pm cv ctv) (⟨[], []⟩) = pure [])
    (does : ∀ (A : Around) (outer : List Env) (s2 : Shared) (H2 : Hp) (E : XK) (f c : Addr), A.guards = some [] → Room k (A.deeper (LamX.lamEnv X scope s2.heap.objs.size f c)) → Takes (LamX.lamCx X A outer s2 H2 E scope f c) (fun cls d _ H => E cls d H) → PE (LamX.lamCx X A outer s2 H2 E scope f c) body (tX X.K kx (fun cls d _ H => E cls d H) mbody))
    (hg : Gl X x := by rfl) (hdb : (x == ("__debug__" : Str)) = false := by decide) : PE X (.Call (.Name x p) [.Lambda params body scope lpos] [] pos) (tM X.K kx (mLam l b mbody)) := by
  obtain ⟨g, fd, Ng, a, F, hm, Sg, hN, hNg, hva, hb, hd, hcd, ok⟩ := T.ex
  obtain ⟨c0, P0, coded, TB, inT, oneT⟩ := M.ex
  constructor
  intro pins s σ H Q I want
  obtain ⟨ρ, G, δ, d, G', rl, sr, e0, kq⟩ := want
  refine called_by I hg hm hdb (PySem.W.callWith_K (h₀ := X.base) I.ok.mod.kin F.kp ?_ (by rfl) (by rfl))
  change wpAny _ _ (spliced ((false, eval (.Lambda params body scope lpos) X.env) :: backTo pos (starEach [] X.env))) _ _ s
  refine Calls.spliced_cons (LamX.lam_make2 (T := kx.tt) I TB coded inT oneT rl.tb hdef (L.has I.ok) fun f c pm ctv H1 s1 I1 ext T1 made free far hco => ?_)
  apply Calls.spliced_nil; refine ⟨I1.kIn, ?_⟩
  have g1 : Gr ρ H ρ H1 := ⟨⟨⟨[], by simp⟩, rfl⟩, (fun _ h => .inl h), (fun b o e _ nt => ext b o e nt), (fun b xs e => ext b _ e fun _ z => nomatch z), (fun b o u e => ext b _ e fun _ z => nomatch z), fun b φ e => ext b _ e fun _ z => nomatch z⟩
  have rl1 : Rl X.K kx ρ G H1 := rl.keepT g1 (fun b hb => by
    obtain ⟨o, q⟩ := rl.mem hb
    obtain ⟨⟨u, e⟩, _, _, nt, _⟩ := q.kind
    rw [e]
    exact ext b u e fun q z => nt q (by rw [e, z])) T1
  have sr1 := sr.gr g1
  have held : ∀ p ∈ slotCs δ σ, DR X.K ρ H1 p.2 p.1 := slotCs_of (K := X.K) (ρ := ρ) (H := H1) (R := DR X.K ρ H1) sr1.at_
  have rl2 := rl1.wcs held
  have e1 := uni3_at e0 f c (X.env.qual ++ "<lambda>")
  have bound := hb s1 [.ref f] I1.kIn rfl
  have ran : codeAny (model X.prog X.w) X.A (.call (.ref g) ⟨[.ref f], []⟩) (CR CX0 X.stack X.prog X.w H1 s1 Q E0) s1 := by
    have start : Sr X.K ρ H1 (some (.fn f c (X.env.qual ++ "<lambda>")) :: List.replicate l none) (L2.start Ng [.ref f]) := sr_start (ds := [.fn f c (X.env.qual ++ "<lambda>")]) (vs := [.ref f]) (.cons (.fn hco) .nil) (by rw [hN]; rfl)
    have body_ : ∀ cdv, Room kg (X.A.deeper (envOfC x (defScope st) s1.heap.objs.size g cdv)) → PSs (cxOf CX0 X.prog X.w X.K X.mg X.base Ng x (defScope st) g cdv X.A X.stack s1 H1 E0) (defBody st) (sM X.K (withCs kx (slotCs δ σ ++ kx.cs)) (b f c (X.env.qual ++ "<lambda>") fun G1 => mbody δ G1)) := fun cdv deep =>
      (ok (slotCs δ σ ++ kx.cs) f c _ (fun G1 => mbody δ G1) g cdv X.A X.stack s1 H1 deep quiet fun W pn xe p1 p2 tk =>
        act_ok I1 sr1 L made free far (hbind _ _ _ _ _) tk (deep.mono hk) (fun outer s2 H2 E deeper => does _ outer s2 H2 E f c quiet deeper (takes_of rfl rfl rfl rfl)) hNg hva hd hcd).nox
    split at e1
    · rename_i δ2 G2 eb
      cases e1
      exact entered (us := [.ref f]) (vs := [.ref f]) F Sg hr I1.env0 (by simpa using bound) (.cons rfl .nil) rfl body_ ⟨ρ, G, _, _, _, _, rl2, start, eb, fun ρ' σ' H' g' r' _ => kq _ ρ' H' (g1.trans g') r'.uncs.1 .non⟩
    · rename_i dv δ2 G2 eb
      cases e1
      exact entered (us := [.ref f]) (vs := [.ref f]) F Sg hr I1.env0 (by simpa using bound) (.cons rfl .nil) rfl body_ ⟨ρ, G, _, _, _, _, rl2, start, eb, fun ρ' σ' H' g' r' _ v dv => kq v ρ' H' (g1.trans g') r'.uncs.1 dv⟩
    · cases e1
  refine wpAny_call (codeAny_mono ran fun r s' out => ?_)
  obtain ⟨u, e2, e3⟩ := after_run I1 out
  subst e2
  exact e3
end
end Ms

/-! PyMkr: defs that make lambdas, defs that get them: bundles. -/
namespace Ms
open PySem L2 PyProof.Rows
open Mi (Dv MO Sto Sl Rs bnd ME MT MA MS MF Fl MG MGs MI)
structure Dfc (K : PySem.W.Frag) (mg : Str → Option Value) (base : Heap) (kx : Kx) (x : Str) (st : Stmt) : Prop where
  ex : ∃ f fd, Fun K x x st f fd ∧ mg x = some (.ref f) ∧ Mkr K mg base kx (x ++ ".<locals>.") fd.code
/-- the same of its very code object -/
theorem enteredC {CX : CXT} {P : Program} {w : World} {K : PySem.W.Frag} {mg : Str → Option Value} {base : Heap} {k : Nat} {x qual : Str} {st : Stmt} {f : Addr} {fd : FuncData} {N ps : List Str} {A : Around} {outer : List Env} {s : Shared} {H : Hp} {args : Args} {us : List Value} {vs : List V} {Q : VK} {E : XK} {t : TS}
    (F : Fun K x qual st f fd) (S : FnScope N ps (defScope st)) (hr : Room (k + 1) A) (env : Env0 P w K mg base A outer s H) (hb : BindsTo s fd args (ps.zip us)) (r : Vals vs us) (hl : vs.length = ps.length)
    (body : Room k (A.deeper (envOfC qual (defScope st) s.heap.objs.size f fd.code)) → PSs (cxOf CX P w K mg base N qual (defScope st) f fd.code A outer s H E) (defBody st) t)
    (want : t { nx := fun _ H' => Q .non H', rt := Q } (L2.start N vs) H) : codeAny (model P w) A (.call (.ref f) args) (CR CX outer P w H s Q E) s := by
  have ⟨_, _, _, _, _, _, cdv, _, _, fd_is, there, named⟩ := F.ex
  subst fd_is
  have old : ∀ b o, base.get? b = some o → s.heap.get? b = some o := fun b o e => (env.bs b o e).1
  refine Att.call_fn (env.mod.kin.keeps old) (env.mod.nolimit.keeps old) there named hr.depth hb ?_ (fun s1 x => ?_) S.co S.gen S.kind
  · refine List.all_eq_true.mpr fun y hy => ?_
    rcases S.par y.1 (List.of_mem_zip (show (y.1, y.2) ∈ ps.zip us from hy)).1 with q | q <;> rw [q] <;> rfl
  · exact wpAny_mono ((body (hr.deeper _)).run [] s1 _ H _ (inv_start S hr.hd env hl r x) want) told_end fun _ _ out => out
theorem fn_mC {P : Program} {w : World} {K : PySem.W.Frag} {kx : Kx} {mg : Str → Option Value} {base : Heap} {k l : Nat} {x qual : Str} {st : Stmt} {f : Addr} {fd : FuncData} {N ps : List Str} {mb : MS} (F : Fun K x qual st f fd) (S : FnScope N ps (defScope st)) (hN : N.length = ps.length + l)
    (hbody : ∀ (A : Around) (outer : List Env) (s : Shared) (H : Hp) (E : XK), Room k (A.deeper (envOfC qual (defScope st) s.heap.objs.size f fd.code)) → A.guards = some [] →
      PSs (cxOf CX0 P w K mg base N qual (defScope st) f fd.code A outer s H E).nox (defBody st) (sM K kx mb)) :
    FnM P w K kx mg base (k + 1) f fd ps (Mi.mDef ps.length l mb) := by
  refine ⟨fun _ _ _ e => def_args e, fun A outer s H args us vs Q ρ G ds d G' quiet hr env hb r rl dr e q => ?_⟩
  have hl : vs.length = ps.length := dr.len ▸ def_args e
  obtain ⟨fl, δ', eb, out⟩ := def_body e
  refine enteredC F S hr env hb r hl (fun deep => (hbody A outer s H E0 deep quiet).nox) ⟨ρ, G, _, fl, δ', G', rl, sr_start dr (by rw [hN, hl]), eb, fun ρ' σ' H' g r' _ => ?_⟩
  rcases out with ⟨rfl, rfl⟩ | rfl
  · exact q _ ρ' H' g r' .non
  · exact fun v dv => q v ρ' H' g r' dv
abbrev BdyC (P : Program) (w : World) (K : PySem.W.Frag) (kx : Kx) (mg : Str → Option Value) (base : Heap) (k : Nat) (N : List Str) (qual : Str) (st : Stmt) (mb : MS) : Prop :=
  ∀ (f : Addr) (cdv : Value) (A : Around) (outer : List Env) (s : Shared) (H : Hp) (E : XK), Mkr K mg base kx (qual ++ ".<locals>.") cdv → Room k (A.deeper (envOfC qual (defScope st) s.heap.objs.size f cdv)) → A.guards = some [] →
    PSs (cxOf CX0 P w K mg base N qual (defScope st) f cdv A outer s H E).nox (defBody st) (sM K kx mb)
section
variable {P : Program} {w : World} {K : PySem.W.Frag} {kx : Kx} {mg : Str → Option Value} {base : Heap} {k l : Nat} {x a : Str} {st : Stmt} {N ps : List Str} {mb : MS} {b : MBg}
theorem cal_ofC (D : Dfc K mg base kx x st) (S : FnScope N ps (defScope st)) (hN : N.length = ps.length + l) (hb : Bp x x st ps) (b : BdyC P w K kx mg base k N x st mb) : Cal P w K kx mg base (k + 1) x st ps (Mi.mDef ps.length l mb) := by
  obtain ⟨f, fd, F, hm, M⟩ := D.ex
  exact ⟨f, fd, F, hm, fn_mC F S hN (fun A outer s H E hr hgd => b f _ A outer s H E M hr hgd), F.binds hb⟩
theorem tld_of (D : Dfn K mg x st) (S : FnScope N [a] (defScope st)) (hN : N.length = 1 + l) (h0 : N[0]? = some a) (hv : Vis (defScope st) a) (hb : Bp x x st [a]) (hd : (a == ("__debug__" : Str)) = false) (hcd : (a == ("__classdict__" : Str)) = false)
    (ok : TldOk P w K kx mg base k N x a st b) : Tld P w K kx mg base k l x st b := by
  obtain ⟨f, fd, F, hm⟩ := D.ex
  exact ⟨f, fd, N, a, F, hm, S, hN, h0, hv, F.binds hb, hd, hcd, ok⟩
theorem uniq_of {l : List (Addr × Str)} {P : Addr} {q : Str} (h : (l.map (·.1)).Nodup) (hm : (P, q) ∈ l) : ∀ p ∈ l, p.1 = P → p.2 = q := by
  induction l with
  | nil => exact nomatch hm
  | cons a l ih =>
    simp only [List.map_cons, List.nodup_cons] at h
    intro p hp e
    rcases List.mem_cons.mp hp with z | z <;> rcases List.mem_cons.mp hm with y | y
    · rw [z, ← y]
    · exact absurd (List.mem_map.mpr ⟨_, y, by rw [← e, z]⟩) h.1
    · exact absurd (List.mem_map.mpr ⟨_, z, by rw [e, ← y]⟩) h.1
    · exact ih h.2 y p z e
/-- a class below another one is met by its clause, and no other -/
theorem exm_pair {C S : Addr} {b : Bool} (below : PySem.W.subIn K (.ref S) (.type "BaseException") = some true) (own : (PySem.W.clsIn K S).isSome = true) (kind : PySem.W.typeIn K (.ref S) = some (.type "type")) (h : PySem.W.subIn K (.ref C) (.ref S) = some b) : PySem.W.exmOne K (.ref C) (.ref S) = some b := by
  simp only [PySem.W.exmOne, PySem.W.kitCls, PySem.W.kitOne, below, own, kind, h, beq_self_eq_true, Bool.and_self, if_true, Bool.true_and]
theorem xcl_of {C : Addr} {y f qual : Str} (XV : Xv K mg C y f qual st) (h : ∃ q1 q2 q3 q4 : Pos, FnScope ["self", a] ["self", a] (defScope st) ∧ defBody st = [.Assign [.Attribute (.Name "self" q1) f q2] (.Name a q3) q4] ∧ Bp "__init__" qual st ["self", a])
    (v1 : Vis (defScope st) "self") (v2 : Vis (defScope st) a) (d1 : (a == ("__debug__" : Str)) = false) (d2 : (a == ("__classdict__" : Str)) = false) : Xcl K mg C y f := by
  obtain ⟨q1, q2, q3, q4, h1, h2, h3⟩ := h
  exact ⟨qual, st, a, q1, q2, q3, q4, XV, h1, h2, h3, v1, v2, d1, d2⟩
/-- the code object of a def that has a table -/
theorem tab_code {c T f : Addr} {fd : FuncData} {oc : Value} {od : Option Addr} {sl : Array (Option Value)} (ht : PySem.W.tabIn K x = some (c, T)) (hm : PySem.W.nsIn K mainGlobals x = some (some (.ref f))) (hf : K.lookup f = some ⟨oc, od, .func fd, sl⟩) : fd.code = .ref c := by
  unfold PySem.W.tabIn at ht
  rw [hm] at ht
  dsimp only at ht
  rw [hf] at ht
  dsimp only at ht
  split at ht
  · rename_i c' hc
    split at ht
    · split at ht
      · cases ht
        exact hc
      · cases ht
    · cases ht
  · cases ht
end
end Ms

/-! PyRv: t[::-1] of a tuple; sum of a list, of a tuple. -/
namespace PySem
namespace Xz
open PySem.W PySem.Calls PyProof.Rows L2 HT
section
variable {prog : Program} {A : Around} {w : World} {s : Shared} {E : Value → Shared → Prop}
theorem back_pick (xs : Array Value) : ((List.range xs.size).filterMap fun (m : Nat) => xs[((xs.size : Int) - 1 + (m : Int) * (-1)).toNat]?).toArray = xs.toList.reverse.toArray := by
  congr 1
  have all : ∀ l : List Nat, (∀ m ∈ l, m < xs.size) → (l.filterMap fun (m : Nat) => xs[((xs.size : Int) - 1 + (m : Int) * (-1)).toNat]?) = l.map fun m => xs.toList.reverse[m]?.getD .none := by
    intro l
    induction l with
    | nil => intro _; rfl
    | cons m l ih =>
      intro hl
      have hm := hl m (List.mem_cons_self ..)
      have en : ((xs.size : Int) - 1 + (m : Int) * (-1)).toNat = xs.size - 1 - m := by omega
      have e1 : xs[((xs.size : Int) - 1 + (m : Int) * (-1)).toNat]? = some (xs.toList.reverse[m]?.getD .none) := by
        rw [en, List.getElem?_reverse (by rw [Array.length_toList]; exact hm), Array.length_toList, Array.getElem?_eq_getElem (by omega), List.getElem?_eq_getElem (by rw [Array.length_toList]; omega)]
        rfl
      rw [List.filterMap_cons, e1, List.map_cons, ih fun k hk => hl k (List.mem_cons_of_mem _ hk)]
  have e := all (List.range xs.size) fun m hm => List.mem_range.mp hm
  rw [e]
  refine List.ext_getElem (by simp) ?_; intro i h1 h2
  simp only [List.getElem_map, List.getElem_range]
  rw [List.getElem?_eq_getElem h2]
  rfl
theorem tuple_back {t sl : Addr} {items : Array Value} {vs : Value} {Q : Value → Shared → Prop} (ht : IsTup s.heap t items) (hs : s.heap.IsSliceOf sl .none .none vs) (ps : IsPart vs (some (-1))) (hsz : items.size ≤ sizeLine)
    (h : Q (.ref s.heap.objs.size) { s with heap := s.heap.push { cls := .type "tuple", data := .seq items.toList.reverse.toArray } }) : wpAny (model prog w) A (getItem (.ref t) (.ref sl)) Q E s := by
  have fits : sizeOk (.seq items.toList.reverse.toArray) := by
    show items.toList.reverse.toArray.size ≤ sizeLine
    simpa using hsz
  have ⟨os, there, kind, dat⟩ := hs
  have isSl : s.TypeIs (.ref sl) "slice" := ⟨os, there, kind⟩
  unfold getItem
  try (with_reducible refine wpAny_holding ?_)
  try (refine wpAny_bind (wpAny_pure ?_))
  apply wpAny_bind; refine wpAny_sequenceKey ht.typeIs (by decide) ?_
  refine wpAny_bind (wpAny_callSpecial?_slot (name := Str.ofString "__getitem__") ht.typeIs PyProof.Rows.slot_tuple_getitem (wpAny_call_entry PyProof.Rows.slot_tuple_getitem ht.typeIs entry_tuple_getitem ?_ (args_tuple_getitem _ _)))
  change wpAny _ _ (Builtin.Tuple.tupleItemsOf (.ref t) >>= _) _ _ s
  apply wpAny_bind; apply tupleItemsOf_ ht; apply wpAny_bind; apply wpAny_typeOf isSl
  rw [if_pos (by decide)]
  have applied : ∀ {Q' : Int × Int × Nat → Shared → Prop} {A' : Around} {E' : Value → Shared → Prop}, Q' ((items.size : Int) - 1, -1, items.size) s → wpAny (model prog w) A' (Builtin.Slice.sliceApplied (.ref sl) (pure (items.size : Int))) Q' E' s := fun {Q' A' E'} q => by
    unfold Builtin.Slice.sliceApplied; unfold Builtin.Slice.sliceFields
    refine wpAny_bind (wpAny_bind (wpAny_field there dat (x := .none) rfl (wpAny_bind (wpAny_field there dat (x := .none) rfl (wpAny_bind (wpAny_field there dat (x := vs) rfl (wpAny_pure ?_)))))))
    refine wpAny_bind (slicePart_ ps ?_)
    change wpAny _ _ (if ((-1 : Int) == 0) = true then _ else _) _ _ s
    rw [if_neg (by decide)]
    refine wpAny_bind (slicePart_ .none (wpAny_bind (slicePart_ .none (wpAny_bind (wpAny_pure (wpAny_pure ?_))))))
    have places : Builtin.Slice.slicePlaces ((items.size : Int) - 1) (-1) (-1) = items.size := by
      (unfold Builtin.Slice.slicePlaces)
      rw [if_neg (by decide)]
      by_cases z : (items.size : Int) - 1 > -1
      · rw [if_pos z]
        simp only [Int.neg_neg, Int.ediv_one]
        omega
      · rw [if_neg z]
        omega
    have e : ((Builtin.Slice.sliceAdjust none none (-1) (items.size : Int)).1, (-1 : Int), Builtin.Slice.slicePlaces (Builtin.Slice.sliceAdjust none none (-1) (items.size : Int)).1 (Builtin.Slice.sliceAdjust none none (-1) (items.size : Int)).2 (-1)) = ((items.size : Int) - 1, -1, items.size) := by
      have a : Builtin.Slice.sliceAdjust none none (-1) (items.size : Int) = ((items.size : Int) - 1, -1) := rfl
      rw [a]
      exact congrArg (fun n => ((items.size : Int) - 1, (-1 : Int), n)) places
    exact e ▸ q
  apply wpAny_bind
  apply applied
  change wpAny _ _ (if (((items.size : Int) - 1) == 0 && (-1 : Int) == 1 && items.size == items.size) = true then _ else _) _ _ s
  rw [if_neg (by rw [show ((-1 : Int) == 1) = false from rfl]; simp), back_pick]
  first
    | exact wpAny_bind (m := Builtin.Tuple.tupleExact _) (wpAny_newObj_type (wpAny_pure ⟨_, rfl, wpAny_pure h⟩) fits)
    | exact wpAny_bind (m := Builtin.Tuple.tupleExact _) (wpAny_newObj_type (wpAny_bind (wpAny_pure (wpAny_pure ⟨_, rfl, wpAny_pure h⟩))) fits)
    | exact wpAny_bind (wpAny_bind (m := Builtin.Tuple.tupleExact _) (wpAny_newObj_type (wpAny_pure (wpAny_pure ⟨_, rfl, wpAny_pure h⟩)) fits))
    | exact wpAny_bind (wpAny_bind (m := Builtin.Tuple.tupleExact _) (wpAny_newObj_type (wpAny_pure ⟨_, rfl, wpAny_pure h⟩) fits))
end
end Xz
end PySem
namespace Ms
open PySem PySem.Spec L2 PyProof.Rows
open Mi (Dv MO Sto Sl Rs bnd ME MT MA MS MF Fl MG MGs MI)
section
variable {X : Cx} {kx : Kx} {e : Expr} {te : TE} {ma : ME} {k : Nat} {p1 p2 p3 pos : Pos}
theorem pe_revT (he : PE X e te) : PE X (.Subscript e (.Slice none none (some (.UnaryOp .USub (.Constant (.int 1) k p1) p2)) p3) pos) (fun σ H Q => te σ H fun x H1 => ∃ a xs, x = .ref a ∧ SqT X.K H1 a xs ∧ ∀ p, H1 p = none → Q (.ref p) (upd H1 p (.tup xs.reverse))) := by
  constructor
  intro pins s σ H Q I h
  apply Subscript_
  refine thn (he.run pins s σ H _ I h) fun v s1 ⟨x, H1, I1, r1, a, xs, ex, hx, q⟩ => ?_
  subst ex
  cases (show v = Value.ref a from r1)
  have minus : PO X (some (.UnaryOp .USub (.Constant (.int 1) k p1) p2)) (tPart (tUn (rU fun i => .int (-i)) (tC (.int 1)))) := po_some (pe_un un_neg pe_int)
  apply wpAny_Slice
  refine thn (po_none.run pins s1 σ H1 (fun o H2 => o = none ∧ H2 = H1) I1 ⟨rfl, rfl⟩) fun w1 s2 got => ?_
  obtain ⟨_, _, I2, q1, rfl, rfl⟩ := got
  refine thn (po_none.run pins s2 σ _ (fun o H3 => o = none ∧ H3 = _) I2 ⟨rfl, rfl⟩) fun w2 s3 got => ?_
  obtain ⟨_, _, I3, q2, rfl, rfl⟩ := got
  refine thn (minus.run pins s3 σ _ (fun o H4 => o = some (-1) ∧ H4 = _) I3 ⟨1, rfl, -1, rfl, rfl, rfl⟩) fun w3 s4 got => ?_
  obtain ⟨_, _, I4, q3, rfl, rfl⟩ := got
  cases q1
  cases q2
  have I5 : Inv X pins σ _ { s4 with heap := s4.heap.push { cls := .type "slice", data := .fields #[.none, .none, w3] } } := I4.kept (t' := s4.toks) fun b ob z => Heap.get?_push_of_some _ z
  have ⟨its, rv, ht, hz⟩ := I5.tuple hx
  have many := rv.length
  change wpAny (model X.prog X.w) X.A (subscriptTail e (.Slice none none (some (.UnaryOp .USub (.Constant (.int 1) k p1) p2)) p3) (.ref a) (.ref s4.heap.objs.size)) (EP X pins σ Q) X.xe { s4 with heap := s4.heap.push { cls := .type "slice", data := .fields #[.none, .none, w3] } }
  refine tail_any (ops := [.ref a, .ref s4.heap.objs.size]) ht.typeIs PyProof.Rows.slot_tuple_getitem.lookup ?_ (by with_unfolding_all rfl)
  refine PySem.Xz.tuple_back ht (Heap.IsSliceOf.new _ .none .none w3) q3 (by rw [List.size_toArray]; omega) ?_
  refine ⟨.ref _, _, I5.laid (t' := s4.toks) (o := .tup xs.reverse) (fun b ob z => Heap.get?_push_of_some _ z) (Nat.le_refl _) ⟨by rw [List.length_reverse]; exact hz, _, rv.reverse, ?_⟩, rfl, q _ (I5.hok.fresh (Nat.le_refl _))⟩
  exact IsTup.new _ _
def mRevT (a : ME) : ME := Mi.m1 (fun x G => match x with
  | .tup xs => some (.tup xs.reverse, G)
  | _ => none) a
theorem m_revT (ha : PE X e (tM X.K kx ma)) : PE X (.Subscript e (.Slice none none (some (.UnaryOp .USub (.Constant (.int 1) k p1) p2)) p3) pos) (tM X.K kx (mRevT ma)) := (pe_revT ha).imp fun σ H Q ⟨ρ, G, δ, d, G', rl, sr, e0, kk⟩ => by
  obtain ⟨x, G1, e1, e2⟩ := Mi.bnd_eq e0
  refine ⟨ρ, G, δ, x, G1, rl, sr, e1, fun v ρ1 H1 g1 r1 d1 => ?_⟩
  cases x with
  | tup xs =>
    cases d1 with
    | tup h r =>
      cases e2
      refine ⟨_, _, rfl, h, fun p hp => ?_⟩
      obtain ⟨g, r2⟩ := r1.side (.tup _) hp
      exact kk _ ρ1 _ (g1.trans g) r2 (.tup (.inl (.inl upd_same)) (r.gr g).rev)
  | _ => exact nomatch e2
/-! ### sum -/
def fSumL : List Dv → Sto → Rs Dv
  | [x], G => match Mi.lstOf G x with
    | some xs => match Mi.intsOf xs with
      | some ns => some (.int ns.sum, G)
      | none => none
    | none => none
  | _, _ => none
theorem f_sumL : Bok X kx fSumL (rSum X.K) := by
  intro xs G d G' ρ H vs Q e rl ds k
  unfold fSumL at e
  split at e
  · rename_i x
    split at e
    · rename_i ys hy
      split at e
      · rename_i ns hn
        cases e
        cases ds with
        | cons a b =>
          cases b
          have ⟨p, us, ev, hs, dr⟩ := lstOf_at rl hy a
          have eu := ints_of hn dr
          subst ev eu
          exact ⟨p, ns, rfl, hs, k _ ρ H Gr.refl rl (.int _)⟩
      · cases e
    · cases e
  · cases e
def fSumT : List Dv → Sto → Rs Dv
  | [.tup xs], G => match Mi.intsOf xs with
    | some ns => some (.int ns.sum, G)
    | none => none
  | _, _ => none
def rSumT (K : PySem.W.Frag) : List V → Hp → VK → Prop := fun vs H Q => ∃ (a : Addr) (ns : List Int), vs = [V.ref a] ∧ SqT K H a (ns.map V.int) ∧ Q (.int ns.sum) H
theorem cr_sumT (hc : X.calm = true) : CallR X (.builtin "sum") (rSumT X.K) := by
  rintro pins s σ H _ us Q I r ⟨a, ns, rfl, ha, q⟩
  have ⟨its, r1, p1, _⟩ := I.tuple ha
  rw [Vals.ref1 r]
  have hi := r1.ints
  have ⟨xs, e⟩ := hi.allInts.items
  have hn : numsOf (intItems xs).toList = ns := (by rw [← e]; exact hi.numsOf)
  rw [nums_intItems] at hn
  rw [e] at p1
  refine PySem.W.ktm_sumG (I.ok.hd hc) p1 fun h' tk t' hk => ?_
  rw [preSum_eq, List.take_of_length_le (by simp)]; rw [hn]
  exact ⟨.int _, H, I.kept hk, ⟨_, rfl⟩, q⟩
theorem f_sumT : Bok X kx fSumT (rSumT X.K) := by
  intro xs G d G' ρ H vs Q e rl ds k
  unfold fSumT at e
  split at e
  · rename_i ys
    split at e
    · rename_i ns hn
      cases e
      cases ds with
      | cons a b =>
        cases b
        cases a with
        | tup h r =>
          have eu := ints_of hn r
          subst eu
          exact ⟨_, ns, rfl, h, k _ ρ H Gr.refl rl (.int _)⟩
    · cases e
  · cases e
/-! ### a truth value as a number -/
def b2n (b : Bool) : Int := if b = true then 1 else 0
def bAddB : Mi.B2
  | .int i, .int j, G => some (.int (i + j), G)
  | .bl b, .int j, G => some (.int (b2n b + j), G)
  | _, _, _ => none
def bSubB : Mi.B2
  | .int i, .int j, G => some (.int (i - j), G)
  | .bl b, .int j, G => some (.int (b2n b - j), G)
  | _, _, _ => none
theorem op_addB : OpR X (binaryOp .Add) (fun x y H Q => ∃ b j, x = .bl b ∧ y = .int j ∧ Q (.int (b2n b + j)) H) := by
  intro pins s σ H x y v u Q I rx ry; intro h
  obtain ⟨b, j, rfl, rfl, q⟩ := h
  cases rx
  obtain ⟨t, rfl⟩ := (show ∃ t, u = Value.int j t from ry)
  exact PySem.IntBool.add_bool_int ⟨.int _, H, I.tok _, ⟨_, rfl⟩, q⟩
theorem op_subB : OpR X (binaryOp .Sub) (fun x y H Q => ∃ b j, x = .bl b ∧ y = .int j ∧ Q (.int (b2n b - j)) H) := by
  intro pins s σ H x y v u Q I rx ry; intro h
  obtain ⟨b, j, rfl, rfl, q⟩ := h
  cases rx
  obtain ⟨t, rfl⟩ := (show ∃ t, u = Value.int j t from ry)
  exact PySem.IntBool.sub_bool_int ⟨.int _, H, I.tok _, ⟨_, rfl⟩, q⟩
theorem b_addB : B2ok X kx bAddB (fun x y H Q => rI0 (fun i j => .int (i + j)) x y H Q ∨ ∃ b j, x = .bl b ∧ y = .int j ∧ Q (.int (b2n b + j)) H) := fun x y G d G' ρ H v w Q e rl dx dy k => by
  cases dx <;> cases dy <;> first | (cases e; exact .inl ⟨_, _, rfl, rfl, k _ ρ H Gr.refl rl (.int _)⟩) | (cases e; exact .inr ⟨_, _, rfl, rfl, k _ ρ H Gr.refl rl (.int _)⟩) | exact nomatch e
theorem b_subB : B2ok X kx bSubB (fun x y H Q => rI0 (fun i j => .int (i - j)) x y H Q ∨ ∃ b j, x = .bl b ∧ y = .int j ∧ Q (.int (b2n b - j)) H) := fun x y G d G' ρ H v w Q e rl dx dy k => by
  cases dx <;> cases dy <;> first | (cases e; exact .inl ⟨_, _, rfl, rfl, k _ ρ H Gr.refl rl (.int _)⟩) | (cases e; exact .inr ⟨_, _, rfl, rfl, k _ ρ H Gr.refl rl (.int _)⟩) | exact nomatch e
end
end Ms

/-! PyXi: isinstance of a caught exception, with a dict or without one; repr of what a call tells. -/
namespace Ms
open PySem PySem.Spec L2 PyProof.Rows
open Mi (Dv MO Sto Sl Rs bnd ME MT MA MS MF Fl MG MGs MI)
/-- what a class must say for isinstance to ask its exceptions rightly -/
structure XiC (K : PySem.W.Frag) (D : Addr) : Prop where
  cl : (PySem.W.clsIn K D).isSome = true
  ga : PySem.W.findIn K (.ref D) "__getattribute__" = some (some (.builtin "BaseException.__getattribute__"))
  gt : PySem.W.findIn K (.ref D) "__getattr__" = some none
  sb : PySem.W.subIn K (.ref D) (.type "BaseException") = some true
  ca : PySem.W.findIn K (.ref D) "__class__" = some (some (.builtin "object.__class__"))
  mo : PySem.W.mroIn K D (.type "object") = some true
/-- ... and what the program's table must say -/
structure XiK (K : PySem.W.Frag) : Prop where
  gd : PySem.W.specialIn K (.builtin "object.__class__") "__get__" = some (some (.builtin "getset_descriptor.__get__"))
  tk : PySem.W.takesIn K (.builtin "object.__class__") = some true
/-- the exception as an instance -/
theorem xi_at {X : Cx} {pins : List (Addr × Obj)} {H : Hp} {σ : L2.St} {s : Shared} {a D : Addr} {oe : Obj} {o : Option Addr} {pn : List (Addr × Obj)} (I : Inv (X.suite a ((a, oe) :: pn)) pins σ H s) (hz : Zc (.ref D) o oe) (hf : ∃ vs, oe.data = .fields vs)
    (hd : ∀ dd, o = some dd → ∃ fs, H dd = some (.xd fs)) : ∃ od, PySem.W.InstAt s.heap a oe D od := by
  obtain ⟨ha, _⟩ := I.pin (a, oe) (List.mem_append_left _ List.mem_cons_self)
  obtain ⟨vs, hv⟩ := hf
  have hn : PySem.W.notCls oe = true := by unfold PySem.W.notCls; rw [hv]
  cases o with
  | none => exact ⟨none, ha, hz.1, hn, by rw [hz.2]; trivial⟩
  | some dd =>
    obtain ⟨fs, e⟩ := hd dd rfl
    have hx : ObjOk X.prog X.w H s.heap dd (.xd fs) := I.hok dd _ e
    obtain ⟨mA, hns, _⟩ := hx
    obtain ⟨od, ho, _⟩ := lookIn_ns hns
    exact ⟨some od, ha, hz.1, hn, by rw [hz.2]; exact ho⟩
/-- isinstance(e, c), isinstance(e, (c, ..)) -/
def rXi (K : PySem.W.Frag) (a D : Addr) (o : Option Addr) : List V → Hp → VK → Prop := fun xs H Q => (∀ dd, o = some dd → ∃ fs, H dd = some (.xd fs)) ∧ ∃ b,
  ((∃ c u, xs = [.ref a, c] ∧ ClsV c u ∧ PySem.W.kitOne K (.ref D) u = some b) ∨ (∃ tp cs us, xs = [.ref a, .ref tp] ∧ H tp = some (.tup cs) ∧ Paired ClsV cs us ∧ PySem.W.kitAny K (.ref D) us = some b)) ∧ Q (.bl b) H
theorem call_xi {X : Cx} {a D : Addr} {oe : Obj} {o : Option Addr} {pn : List (Addr × Obj)} (C : XiC X.K D) (T : XiK X.K) (hz : Zc (.ref D) o oe) (hf : ∃ vs, oe.data = .fields vs) : CallR (X.suite a ((a, oe) :: pn)) (.builtin "isinstance") (rXi X.K a D o) := by
  intro pins s σ H xs us Q I r; intro h
  obtain ⟨hd, b, h, q⟩ := h
  obtain ⟨od, J⟩ := xi_at I hz hf hd
  have Z := PySem.W.kitx_exc (x := a) (ox := oe) (od := od) C.cl C.ga C.gt C.sb C.ca T.gd T.tk C.mo
  rcases h with ⟨c, u, rfl, k, e⟩ | ⟨tp, cs, ws, rfl, hT, k, e⟩
  · obtain ⟨u1, u2, rfl, r1, r2⟩ := vals2 r
    cases (show (u1 = Value.ref a) from r1)
    have e2 := k.eq r2
    subst e2
    exact PySem.W.kia_one Z I.kIn J e (fun z => nomatch z) fun tk => ⟨.bl b, H, I.tok tk, rfl, q⟩
  · obtain ⟨u1, u2, rfl, r1, r2⟩ := vals2 r
    cases (show (u1 = Value.ref a) from r1)
    cases (show (u2 = Value.ref tp) from r2)
    have hx : ObjOk X.prog X.w H s.heap tp (.tup cs) := I.hok tp _ hT
    obtain ⟨_, its, rv, ob, h1, h2, n, h3⟩ := hx
    have e3 := ClsV.all k rv
    subst e3
    obtain ⟨oc, od', dt, sl⟩ := ob
    dsimp only at h2 h3
    subst h2 h3
    exact PySem.W.kia_tup Z I.kIn J h1 e (fun z => nomatch z) fun tk => ⟨.bl b, H, I.tok tk, rfl, q⟩
/-! ### the mirror -/
/-- a class that is asked for: of the program, or a built-in one -/
inductive Tg where
  | own (c : Nat)
  | bi (n : String)
def tgV (kx : Kx) : Tg → V
  | .own c => .ref (kx.ca c)
  | .bi n => .ty n
def tgU (kx : Kx) : Tg → Value
  | .own c => .ref (kx.ca c)
  | .bi n => .type n
def tgOne (sub : Nat → Nat → Option Bool) (bt : Nat → String → Option Bool) (c : Nat) : Tg → Option Bool
  | .own d => match sub c c with
    | some true => if c = d then some true else sub c d
    | _ => none
  | .bi n => bt c n
def tgAny (sub : Nat → Nat → Option Bool) (bt : Nat → String → Option Bool) (c : Nat) : List Tg → Option Bool
  | [] => some false
  | t :: r => match tgOne sub bt c t with
    | some true => some true
    | some false => tgAny sub bt c r
    | none => none
/-- which built-in class is above which -/
def BtOk (K : PySem.W.Frag) (kx : Kx) (bt : Nat → String → Option Bool) : Prop := ∀ c n b, bt c n = some b → PySem.W.kitOne K (.ref (kx.ca c)) (.type n) = some b
theorem cls_tg {kx : Kx} (t : Tg) : ClsV (tgV kx t) (tgU kx t) := by cases t <;> constructor
theorem cls_tgs {kx : Kx} : ∀ ts : List Tg, Paired ClsV (ts.map (tgV kx)) (ts.map (tgU kx))
  | [] => .nil
  | t :: ts => .cons (cls_tg t) (cls_tgs ts)
theorem if_case {p : Prop} [Decidable p] {x r : Option Bool} {b : Bool} (h : (if p then x else r) = some b) : (p ∧ x = some b) ∨ r = some b := by
  by_cases hp : p
  · rw [if_pos hp] at h
    exact .inl ⟨hp, h⟩
  · rw [if_neg hp] at h
    exact .inr h
theorem kit_bt {K : PySem.W.Frag} {C : Addr} {n : String} {b : Bool} (hm : PySem.W.kitMeta n = true) (h : PySem.W.subIn K (.ref C) (.type n) = some b) : PySem.W.kitOne K (.ref C) (.type n) = some b := by
  show (if PySem.W.kitMeta n = true then PySem.W.subIn K (.ref C) (.type n) else none) = some b
  rw [if_pos hm]
  exact h
theorem tgOne_ok {K : PySem.W.Frag} {kx : Kx} {sub : Nat → Nat → Option Bool} {bt : Nat → String → Option Bool} (hs : SubOk K kx sub) (hb : BtOk K kx bt) {c : Nat} {t : Tg} {b : Bool} (e : tgOne sub bt c t = some b) : PySem.W.kitOne K (.ref (kx.ca c)) (tgU kx t) = some b := by
  cases t with
  | bi n => exact hb _ _ _ e
  | own d =>
    rw [tgOne] at e
    cases sc : sub c c with
    | none => rw [sc] at e; cases e
    | some y =>
      rw [sc] at e
      cases y with
      | false => cases e
      | true =>
      have x1 := hs _ _ _ sc
      unfold PySem.W.kitOne tgU
      dsimp only at e ⊢
      split at e
      · rename_i cd
        subst cd
        cases e
        rw [if_pos (by exact beq_self_eq_true _)]
      · have x2 := hs _ _ _ e
        unfold PySem.W.exmOne at x1 x2
        split
        · rename_i q
          have q' : kx.ca c = kx.ca d := Value.ref.inj (beq_iff_eq.mp q)
          rw [← q', x1] at x2
          exact x2
        · split at x2
          · exact x2
          · cases x2
theorem tgAny_ok {K : PySem.W.Frag} {kx : Kx} {sub : Nat → Nat → Option Bool} {bt : Nat → String → Option Bool} (hs : SubOk K kx sub) (hb : BtOk K kx bt) {c : Nat} : ∀ {ts : List Tg} {b : Bool}, tgAny sub bt c ts = some b → PySem.W.kitAny K (.ref (kx.ca c)) (ts.map (tgU kx)) = some b
  | [], b, e => e
  | t :: ts, b, e => by
    rw [tgAny] at e
    rw [List.map_cons, PySem.W.kitAny]
    cases q : tgOne sub bt c t with
    | none => (rw [q] at e; cases e)
    | some y =>
      rw [q] at e
      rw [tgOne_ok hs hb q]
      cases y with
      | true => exact e
      | false => exact tgAny_ok hs hb e
/-- the exception in a slot has its dict, if any -/
def exAt (v : Dv) (i : Nat) (δ : Sl) (G : Sto) : Bool := match v with
  | .exc a dd h => match δ[i]? with
    | some (some (.exc a' dd' h')) => decide (a' = a ∧ dd' = dd ∧ h' = h) && match G[h]? with
      | some (.xd _) => true
      | _ => false
    | _ => false
  | .exn a => match δ[i]? with
    | some (some (.exn a')) => decide (a' = a)
    | _ => false
  | _ => false
def mExIs (sub : Nat → Nat → Option Bool) (bt : Nat → String → Option Bool) (cs : List Nat) (c : Nat) (v : Dv) (i : Nat) (t : Tg) : ME := fun δ G => if exAt v i δ G = true ∧ c ∈ cs then (tgOne sub bt c t).map fun b => (.bl b, G) else none
def mExIsT (sub : Nat → Nat → Option Bool) (bt : Nat → String → Option Bool) (cs : List Nat) (c : Nat) (v : Dv) (i : Nat) (ts : List Tg) : ME := fun δ G => if exAt v i δ G = true ∧ c ∈ cs ∧ ts.length ≤ 100 then (tgAny sub bt c ts).map fun b => (.bl b, G) else none
theorem exAt_ok {K : PySem.W.Frag} {ρ : Rh} {G : Sto} {H : Hp} {δ : Sl} {σ : L2.St} {o : Option Nat} {a dd : Addr} {i : Nat} {kx : Kx} (rl : Rl K kx ρ G H) (sr : Sr K ρ H δ σ) (e : exAt (exV a dd o) i δ G = true) : σ[i]? = some (some (.ref a)) ∧ ∀ x, dOf o dd = some x → ∃ fs, H x = some (.xd fs) := by
  cases o with
  | none =>
    change (match δ[i]? with
      | some (some (.exn a')) => decide (a' = a)
      | _ => false) = true at e
    split at e
    · rename_i a' eq
      have ea := of_decide_eq_true e
      rw [ea] at eq
      have ⟨v, e1, dv⟩ := sr.at_ i _ eq
      cases dv
      exact ⟨e1, fun x z => nomatch z⟩
    · cases e
  | some h =>
    change (match δ[i]? with
      | some (some (.exc a' dd' h')) => decide (a' = a ∧ dd' = dd ∧ h' = h) && match G[h]? with
        | some (.xd _) => true
        | _ => false
      | _ => false) = true at e
    split at e
    · rename_i a' dd' h' eq
      rw [Bool.and_eq_true] at e
      have same := of_decide_eq_true e.1
      have e' := e.2
      rw [same.1, same.2.1, same.2.2] at eq
      have ⟨v, e1, dv⟩ := sr.at_ i _ eq
      cases dv with
      | exc eh =>
        split at e'
        · rename_i fs eG
          have at_ := rl.at eh eG
          cases at_ with
          | @xd fs' _ hx fr =>
            exact ⟨e1, fun x z => by cases z; exact ⟨_, hx⟩⟩
        · cases e'
    · cases e
section
variable {X : Cx} {kx : Kx} {cs : List Nat} {c i : Nat} {o : Option Nat} {a dd : Addr} {oe : Obj} {pn : List (Addr × Obj)} {n : Str} {p p2 pos tpos : Pos} {sub : Nat → Nat → Option Bool} {bt : Nat → String → Option Bool} {te : Expr}
theorem m_exIs {t : Tg} (hz : Zc (.ref (kx.ca c)) (dOf o dd) oe) (hd : ∃ vs, oe.data = .fields vs) (C : ∀ c ∈ cs, XiC X.K (kx.ca c)) (T : XiK X.K) (hs : SubOk X.K kx sub) (hb : BtOk X.K kx bt) (hm : X.mg "isinstance" = none)
    (ht : PE (X.suite a ((a, oe) :: pn)) te (tC (tgV kx t)))
    (hg : Gl (X.suite a ((a, oe) :: pn)) "isinstance" := by rfl) (hN : X.N[i]? = some n := by rfl) (hv : Vis X.env.scope n := by first | exact Or.inl rfl | exact Or.inr (Or.inl rfl) | exact Or.inr (Or.inr rfl)) (h1 : (n == ("__debug__" : Str)) = false := by decide) (h2 : (n == ("__classdict__" : Str)) = false := by decide)
    (he : starEach [.Name n p2, te] (X.suite a ((a, oe) :: pn)).env = (false, eval (.Name n p2) (X.suite a ((a, oe) :: pn)).env) :: starEach [te] (X.suite a ((a, oe) :: pn)).env := by rfl) (hpl : (backTo pos (starEach [te] (X.suite a ((a, oe) :: pn)).env)).any (·.1) = false := by rfl) (hst : starEach [te] (X.suite a ((a, oe) :: pn)).env = (false, eval te (X.suite a ((a, oe) :: pn)).env) :: starEach [] (X.suite a ((a, oe) :: pn)).env := by rfl) :
    PE (X.suite a ((a, oe) :: pn)) (.Call (.Name "isinstance" p) [.Name n p2, te] [] pos) (tM X.K kx (mExIs sub bt cs c (exV a dd o) i t)) := by
  by_cases hc : c ∈ cs
  · refine (pe_callB (call_xi (C c hc) T hz hd) hg hm (by decide +kernel) (pa_cons (pe_var (X := X.suite a ((a, oe) :: pn)) hN hv h1 h2) (pa_cons ht pa_nil hst) he) (by decide) (by decide) he hpl).imp fun σ H Q ⟨ρ, G, δ, d, G', rl, sr, e, k⟩ => ?_
    unfold mExIs at e
    split at e
    · rename_i q
      have ⟨e1, e2⟩ := exAt_ok rl sr q.1
      cases et : tgOne sub bt c t with
      | none => rw [et] at e; cases e
      | some b =>
        rw [et] at e
        cases e
        exact ⟨_, e1, e2, b, .inl ⟨_, _, rfl, cls_tg t, tgOne_ok hs hb et⟩, k _ ρ H Gr.refl rl (.bl _)⟩
    · cases e
  · refine ⟨fun pins s σ H Q I ⟨ρ, G, δ, d, G', rl, sr, e, k⟩ => ?_⟩
    unfold mExIs at e
    rw [if_neg fun z => hc z.2] at e
    cases e
def tCs : List V → TA
  | [] => tNil
  | v :: vs => tCons (tC v) (tCs vs)
theorem tCs_at : ∀ (vs : List V) {σ : L2.St} {H : Hp} {Q : List V → Hp → Prop}, Q vs H → tCs vs σ H Q
  | [], _, _, _, q => q
  | v :: vs, σ, H, Q, q => tCs_at vs (Q := fun ws H1 => Q (v :: ws) H1) q
theorem m_exIsT {ts : List Tg} {es : List Expr} {k1 : Nat} (hz : Zc (.ref (kx.ca c)) (dOf o dd) oe) (hd : ∃ vs, oe.data = .fields vs) (C : ∀ c ∈ cs, XiC X.K (kx.ca c)) (T : XiK X.K) (hs : SubOk X.K kx sub) (hb : BtOk X.K kx bt) (hm : X.mg "isinstance" = none)
    (ht : PA (X.suite a ((a, oe) :: pn)) es (tCs (ts.map (tgV kx))))
    (hg : Gl (X.suite a ((a, oe) :: pn)) "isinstance" := by rfl) (hN : X.N[i]? = some n := by rfl) (hv : Vis X.env.scope n := by first | exact Or.inl rfl | exact Or.inr (Or.inl rfl) | exact Or.inr (Or.inr rfl)) (h1 : (n == ("__debug__" : Str)) = false := by decide) (h2 : (n == ("__classdict__" : Str)) = false := by decide)
    (he : starEach [.Name n p2, .Tuple es k1 tpos] (X.suite a ((a, oe) :: pn)).env = (false, eval (.Name n p2) (X.suite a ((a, oe) :: pn)).env) :: starEach [.Tuple es k1 tpos] (X.suite a ((a, oe) :: pn)).env := by rfl) (hpl : (backTo pos (starEach [.Tuple es k1 tpos] (X.suite a ((a, oe) :: pn)).env)).any (·.1) = false := by rfl) (hst : starEach [.Tuple es k1 tpos] (X.suite a ((a, oe) :: pn)).env = (false, eval (.Tuple es k1 tpos) (X.suite a ((a, oe) :: pn)).env) :: starEach [] (X.suite a ((a, oe) :: pn)).env := by rfl) :
    PE (X.suite a ((a, oe) :: pn)) (.Call (.Name "isinstance" p) [.Name n p2, .Tuple es k1 tpos] [] pos) (tM X.K kx (mExIsT sub bt cs c (exV a dd o) i ts)) := by
  by_cases hc : c ∈ cs
  · refine (pe_callB (call_xi (C c hc) T hz hd) hg hm (by decide +kernel) (pa_cons (pe_var (X := X.suite a ((a, oe) :: pn)) hN hv h1 h2) (pa_cons (pe_tup ht) pa_nil hst) he) (by decide) (by decide) he hpl).imp fun σ H Q ⟨ρ, G, δ, d, G', rl, sr, e, k⟩ => ?_
    unfold mExIsT at e
    split at e
    · rename_i q
      have ⟨e1, e2⟩ := exAt_ok rl sr q.1
      cases et : tgAny sub bt c ts with
      | none => rw [et] at e; cases e
      | some b =>
        rw [et] at e
        cases e
        refine ⟨_, e1, tCs_at _ ⟨by rw [List.length_map, sizeLine_eq]; have := q.2.2; omega, fun tp hp => ?_⟩⟩
        obtain ⟨g, r2⟩ := rl.side (.tup _) hp
        refine ⟨fun x z => ?_, b, .inr ⟨tp, _, _, rfl, upd_same, cls_tgs ts, tgAny_ok hs hb et⟩, k _ ρ _ g r2 (.bl _)⟩
        obtain ⟨fs, hx⟩ := e2 x z
        exact ⟨fs, by rw [upd_ne (by intro w; rw [w] at hx; rw [hp] at hx; cases hx)]; exact hx⟩
    · cases e
  · refine ⟨fun pins s σ H Q I ⟨ρ, G, δ, d, G', rl, sr, e, k⟩ => ?_⟩
    unfold mExIsT at e
    rw [if_neg fun z => hc z.2.1] at e
    cases e
end
end Ms

/-! PyXr: repr of what a call tells, where it tells None. -/
namespace Ms
open PySem PySem.Spec L2 PyProof.Rows
open Mi (Dv MO Sto Sl Rs bnd ME MT MA MS MF Fl MG MGs MI)
def xRepr (m : MEX) : MEX := fun δ G => match m δ G with
  | some (.ok .non, G1) => some (.ok (.str "None"), G1)
  | some (.ex c o, G1) => some (.ex c o, G1)
  | _ => none
section
variable {X : Cx} {W : WX} {kx : Kx} {a : Expr} {mx : MEX} {p pos : Pos}
theorem x_repr (hG : X.A.guards = some []) (hu : X.A.units + 64 < cLine) (hm : X.mg "repr" = none) (ha : PE X a (tX X.K kx W mx)) (hg : Gl X "repr" := by rfl) (he : starEach [a] X.env = (false, eval a X.env) :: starEach [] X.env := by rfl) (hpl : (backTo pos (starEach [] X.env)).any (·.1) = false := by rfl) :
    PE X (.Call (.Name "repr" p) [a] [] pos) (tX X.K kx W (xRepr mx)) := (pe_callB (call_reprD hG hu) hg hm (by decide +kernel) (pa_cons ha pa_nil he) (by decide) (by decide) he hpl).imp fun σ H Q ⟨ρ, G, δ, r, G', rl, sr, e, k⟩ => by
  unfold xRepr at e
  split at e
  · rename_i G1 e1
    cases e
    refine ⟨ρ, G, δ, .ok .non, _, rl, sr, e1, fun v ρ1 H1 g1 r1 d1 => ?_⟩
    cases d1
    exact ⟨_, .none, rfl, .non, ⟨5, rfl, by decide, by decide⟩, k _ ρ1 H1 g1 r1 (.str _)⟩
  · rename_i c o G1 e1
    cases e
    exact ⟨ρ, G, δ, .ex c o, _, rl, sr, e1, k⟩
  · cases e
end
end Ms

/-! PyXl: xs.extend(ys), ys a list that nobody else holds. -/
namespace Ms
open PySem PySem.Spec L2 PyProof.Rows
open Mi (Dv MO Sto Sl Rs bnd ME MT MA MS MF Fl MG MGs MI)
section
variable {X : Cx} {kx : Kx} {o a : Expr} {mo ma : ME} {pos apos : Pos}
def mExtendL (o a : ME) : ME := fun δ G => bnd (o δ G) fun x G1 => bnd (a δ G1) fun y G2 => match x, y with
  | .ref h, .fls zs => match G1[h]?, G2[h]? with
    | some (.lst _), some (.lst xs) => if xs.length + zs.length ≤ Mi.big then some (.non, G2.set h (.lst (xs ++ zs))) else none
    | _, _ => none
  | _, _ => none
theorem m_extendL (ho : PE X o (tM X.K kx mo)) (ha : PE X a (tM X.K kx ma)) (hbase : attributeBase o "extend" X.env (eval o X.env) = eval o X.env := by rfl)
    (few : ((backTo pos (starEach [a] X.env)).all (fun x => !x.1) && (backToKw pos (keywordEach [] X.env)).all (fun x => x.1.isSome) && decide (([a] : List Expr).length + ([] : List Keyword).length + (if ([] : List Keyword).isEmpty then 0 else 1) < 30)) = true := by rfl)
    (line : (apos.endLine == pos.line) = true := by rfl) (star : starEach [a] X.env = (false, eval a X.env) :: starEach [] X.env := by rfl) (plain : (backTo pos (starEach [] X.env)).any (·.1) = false := by rfl) :
    PE X (.Call (.Attribute o "extend" apos) [a] [] pos) (tM X.K kx (mExtendL mo ma)) :=
  (pe_bm PySem.F.plainAttrs_list PySem.F.slot_list_extend PySem.F.type_list_extend mt_extend ho (pa_cons ha pa_nil star) hbase few line star plain).imp fun σ H Q ⟨ρ, G, δ, d, G', rl, sr, e, k⟩ => by
  obtain ⟨x, G1, e1, e⟩ := Mi.bnd_eq e
  obtain ⟨y, G2, e2, e⟩ := Mi.bnd_eq e
  refine ⟨ρ, G, δ, x, G1, rl, sr, e1, fun v ρ1 H1 g1 r1 d1 => ?_⟩
  split at e
  · rename_i h zs _
    split at e
    · rename_i z xs eh1 eh2
      split at e
      · rename_i hz
        cases e
        cases d1 with
        | @ref _ ad ea =>
          obtain ⟨vs1, h1, _⟩ := lst_at r1 eh1 ea
          refine ⟨.inl ⟨rfl, _, SqL.of h1⟩, ρ1, G1, δ, _, G2, r1, sr.gr g1, e2, fun w ρ2 H2 g2 r2 d2 => ?_⟩
          obtain ⟨vs, h2, rv⟩ := lst_at r2 eh2 (ref_gr (K := X.K) g2 ea)
          cases d2 with
          | @fls bd us zs hT nT rT =>
            refine ⟨ad, bd, vs, us, rfl, rfl, h2, hT, by rw [← rv.len, ← rT.len, ← big_line]; exact hz, ?_⟩
            obtain ⟨g3, r3⟩ := r2.wr (o := .lst (vs ++ us)) (m := .lst (xs ++ zs)) (ref_gr (K := X.K) g2 ea) fun g => .lst upd_same ((rv.app rT).gr g)
            exact k .non _ _ ((g1.trans g2).trans g3) r3 .non
      · cases e
    · cases e
  · cases e
end
end Ms

namespace Lw
open PySem L2 PyProof.Rows Ms
open Mi (Dv MO Sto Sl Rs bnd ME MT MA MS MF Fl MG MGs MI)
def topOf (i : Nat) : Stmt := PySem.Challenge.pw_trailkeep_k14_fuses.main.body.getD i (.Pass ⟨0, 0, 0, 0⟩)
abbrev s_is_integer : Stmt := topOf 13
abbrev s_is_between : Stmt := topOf 14
abbrev s_need_sizes : Stmt := topOf 26
abbrev s_room_of : Stmt := topOf 27
abbrev s_root_blocks_of : Stmt := topOf 28
abbrev s_Disk_mk : Stmt := inClass (topOf 31) 0
abbrev s_is_keep : Stmt := topOf 18
abbrev s_Disk_cut : Stmt := inClass (topOf 31) 10
abbrev s_Disk_fuse : Stmt := inClass (topOf 31) 11
abbrev s_Disk_need_place : Stmt := inClass (topOf 31) 3
abbrev s_Disk_read : Stmt := inClass (topOf 31) 5
abbrev s_Disk_sizes : Stmt := inClass (topOf 31) 1
abbrev s_Disk_standing : Stmt := inClass (topOf 31) 9
abbrev s_Disk_waiting : Stmt := inClass (topOf 31) 8
abbrev s_law_many : Stmt := topOf 37
abbrev s_law_blank : Stmt := topOf 38
abbrev s_law_deck : Stmt := topOf 33
abbrev s_law_draw : Stmt := topOf 34
abbrev s_law_sizes : Stmt := topOf 36
abbrev s_law_drawn_sizes : Stmt := topOf 45
abbrev s_law_fell : Stmt := topOf 41
abbrev s_Disk_burn_x : Stmt := inClass (topOf 31) 4
abbrev s_Disk_force_x : Stmt := inClass (topOf 31) 7
abbrev s_Disk_need_place_x : Stmt := inClass (topOf 31) 3
abbrev s_is_word : Stmt := topOf 15
abbrev s_are_words : Stmt := topOf 16
abbrev s_is_block : Stmt := topOf 17
abbrev s_Disk_write_x : Stmt := inClass (topOf 31) 6
abbrev s_Disk_cut_x : Stmt := inClass (topOf 31) 10
abbrev s_Disk_fuse_x : Stmt := inClass (topOf 31) 11
abbrev s_law_passed : Stmt := topOf 46
abbrev s_law_pick : Stmt := topOf 35
abbrev s_law_are_wrong_refused : Stmt := topOf 47
abbrev s_law_word : Stmt := topOf 42
abbrev s_law_block : Stmt := topOf 43
abbrev s_law_forced : Stmt := topOf 40
abbrev s_law_read : Stmt := topOf 39
abbrev s_law_is_call_right : Stmt := topOf 48
abbrev s_law_keep : Stmt := topOf 44
abbrev s_law : Stmt := topOf 49
abbrev s_BadBlock_mk : Stmt := inClass (topOf 5) 0
abbrev s_BadCut_mk : Stmt := inClass (topOf 7) 0
abbrev s_BadNumber_mk : Stmt := inClass (topOf 8) 0
abbrev s_BadPlace_mk : Stmt := inClass (topOf 4) 0
def ns_BLANK : List Int := List.replicate 32 (0 : Int)
def d_BLANK : Dv := .tup (ns_BLANK.map Dv.int)
def sub_ (c d : Nat) : Option Bool :=
  if c = 2 ∧ d = 2 then some true else if c = 2 ∧ d = 4 then some false else if c = 2 ∧ d = 5 then some false else if c = 2 ∧ d = 3 then some false else if c = 2 ∧ d = 1 then some false else if c = 2 ∧ d = 6 then some true else if c = 4 ∧ d = 2 then some false else if c = 4 ∧ d = 4 then some true else if c = 4 ∧ d = 5 then some false else if c = 4 ∧ d = 3 then some false else if c = 4 ∧ d = 1 then some false else if c = 4 ∧ d = 6 then some true else if c = 5 ∧ d = 2 then some false else if c = 5 ∧ d = 4 then some false else if c = 5 ∧ d = 5 then some true else if c = 5 ∧ d = 3 then some false else if c = 5 ∧ d = 1 then some false else if c = 5 ∧ d = 6 then some true else if c = 3 ∧ d = 2 then some false else if c = 3 ∧ d = 4 then some false else if c = 3 ∧ d = 5 then some false else if c = 3 ∧ d = 3 then some true else if c = 3 ∧ d = 1 then some false else if c = 3 ∧ d = 6 then some true else if c = 1 ∧ d = 2 then some false else if c = 1 ∧ d = 4 then some false else if c = 1 ∧ d = 5 then some false else if c = 1 ∧ d = 3 then some false else if c = 1 ∧ d = 1 then some true else if c = 1 ∧ d = 6 then some true else none
def bt_ (c : Nat) (n : String) : Option Bool :=
  if c = 2 ∧ n = "LookupError" then some false else if c = 2 ∧ n = "ValueError" then some false else if c = 4 ∧ n = "LookupError" then some false else if c = 4 ∧ n = "ValueError" then some false else if c = 5 ∧ n = "LookupError" then some false else if c = 5 ∧ n = "ValueError" then some false else if c = 3 ∧ n = "LookupError" then some false else if c = 3 ∧ n = "ValueError" then some false else if c = 1 ∧ n = "LookupError" then some false else if c = 1 ∧ n = "ValueError" then some false else none
structure Tx (K : PySem.W.Frag) (kx : Kx) (mg : Str → Option Value) (base : Heap) : Prop where
  b_LookupError : mg "LookupError" = none
  b_ValueError : mg "ValueError" = none
  b_all : mg "all" = none
  b_bool : mg "bool" = none
  b_enumerate : mg "enumerate" = none
  b_int : mg "int" = none
  b_isinstance : mg "isinstance" = none
  b_len : mg "len" = none
  b_max : mg "max" = none
  b_range : mg "range" = none
  b_repr : mg "repr" = none
  b_tuple : mg "tuple" = none
  b_zip : mg "zip" = none
  c_BLANK : ∃ t, mg "BLANK" = some (.ref t) ∧ (V.ref t, d_BLANK) ∈ kx.cs
  c_CONTENT : ∃ t, mg "CONTENT" = some (.int 28 t)
  c_LEAST_BLOCKS : ∃ t, mg "LEAST_BLOCKS" = some (.int 4 t)
  c_LEAST_SEGMENTS : ∃ t, mg "LEAST_SEGMENTS" = some (.int 6 t)
  c_MOST_BLOCKS : ∃ t, mg "MOST_BLOCKS" = some (.int 24 t)
  c_MOST_SEGMENTS : ∃ t, mg "MOST_SEGMENTS" = some (.int 40 t)
  c_MOST_WORD : ∃ t, mg "MOST_WORD" = some (.int 1000000000 t)
  c_ROOT_WORDS : ∃ t, mg "ROOT_WORDS" = some (.int 4 t)
  c_SPARE_SEGMENTS : ∃ t, mg "SPARE_SEGMENTS" = some (.int 4 t)
  c_WORDS : ∃ t, mg "WORDS" = some (.int 32 t)
  x_PowerCut : Xc K mg (kx.ca 1) "PowerCut"
  x_BadBlock : Xcl K mg (kx.ca 2) "BadBlock" "thing"
  x_BadCut : Xcl K mg (kx.ca 4) "BadCut" "thing"
  x_BadNumber : Xcl K mg (kx.ca 5) "BadNumber" "thing"
  x_BadPlace : Xcl K mg (kx.ca 3) "BadPlace" "thing"
  g_BadBlock : mg "BadBlock" = some (.ref (kx.ca 2))
  g_BadCut : mg "BadCut" = some (.ref (kx.ca 4))
  g_BadNumber : mg "BadNumber" = some (.ref (kx.ca 5))
  g_BadPlace : mg "BadPlace" = some (.ref (kx.ca 3))
  g_PowerCut : mg "PowerCut" = some (.ref (kx.ca 1))
  g_TrailError : mg "TrailError" = some (.ref (kx.ca 6))
  sub : SubOk K kx sub_
  bt : BtOk K kx bt_
  xik : XiK K
  xi_BadBlock_BadCut_BadNumber_BadPlace_PowerCut : ∀ c ∈ ([2, 4, 5, 3, 1] : List Nat), XiC K (kx.ca c)
  cl_Disk : Cls K (kx.ca 0)
  a_Disk_blocks : Fok K kx [0] "blocks"
  a_Disk_k : Fok K kx [0] "k"
  a_Disk_left : Fok K kx [0] "left"
  a_Disk_n : Fok K kx [0] "n"
  a_Disk_newest : Fok K kx [0] "newest"
  a_Disk_queue : Fok K kx [0] "queue"
  a_Disk_r : Fok K kx [0] "r"
  a_Disk_s : Fok K kx [0] "s"
  f_is_integer : Dfn K mg "is_integer" s_is_integer
  f_is_between : Dfn K mg "is_between" s_is_between
  f_need_sizes : Dfn K mg "need_sizes" s_need_sizes
  f_room_of : Dfn K mg "room_of" s_room_of
  f_root_blocks_of : Dfn K mg "root_blocks_of" s_root_blocks_of
  f_Disk_mk : Dfk K mg (kx.ca 0) "Disk" "Disk.__init__" s_Disk_mk
  f_is_keep : Dfn K mg "is_keep" s_is_keep
  f_Disk_cut : Dfm K (kx.ca 0) "cut" "Disk.cut" s_Disk_cut
  f_Disk_fuse : Dfm K (kx.ca 0) "fuse" "Disk.fuse" s_Disk_fuse
  f_Disk_need_place : Dfm K (kx.ca 0) "need_place" "Disk.need_place" s_Disk_need_place
  f_Disk_read : Dfm K (kx.ca 0) "read" "Disk.read" s_Disk_read
  f_Disk_sizes : Dfm K (kx.ca 0) "sizes" "Disk.sizes" s_Disk_sizes
  f_Disk_standing : Dfm K (kx.ca 0) "standing" "Disk.standing" s_Disk_standing
  f_Disk_waiting : Dfm K (kx.ca 0) "waiting" "Disk.waiting" s_Disk_waiting
  f_law_many : Dfn K mg "_law_many" s_law_many
  f_law_blank : Dfn K mg "_law_blank" s_law_blank
  f_law_deck : Dfn K mg "_law_deck" s_law_deck
  f_law_draw : Dfn K mg "_law_draw" s_law_draw
  f_law_sizes : Dfn K mg "_law_sizes" s_law_sizes
  f_law_drawn_sizes : Dfn K mg "_law_drawn_sizes" s_law_drawn_sizes
  f_law_fell : Dfn K mg "_law_fell" s_law_fell
  f_Disk_burn_x : Dfm K (kx.ca 0) "burn" "Disk.burn" s_Disk_burn_x
  f_Disk_force_x : Dfm K (kx.ca 0) "force" "Disk.force" s_Disk_force_x
  f_is_word : Dfn K mg "is_word" s_is_word
  f_are_words : Dfn K mg "are_words" s_are_words
  f_is_block : Dfn K mg "is_block" s_is_block
  f_Disk_write_x : Dfm K (kx.ca 0) "write" "Disk.write" s_Disk_write_x
  f_law_passed : Dfn K mg "_law_passed" s_law_passed
  f_law_pick : Dfn K mg "_law_pick" s_law_pick
  f_law_are_wrong_refused : Dfc K mg base kx "_law_are_wrong_refused" s_law_are_wrong_refused
  f_law_word : Dfn K mg "_law_word" s_law_word
  f_law_block : Dfn K mg "_law_block" s_law_block
  f_law_forced : Dfn K mg "_law_forced" s_law_forced
  f_law_read : Dfn K mg "_law_read" s_law_read
  f_law_is_call_right : Dfc K mg base kx "_law_is_call_right" s_law_is_call_right
  f_law_keep : Dfn K mg "_law_keep" s_law_keep
  f_law : Dfn K mg "law" s_law
noncomputable def b_is_integer : MS :=
    Mi.mRet (Mi.mAnd (Mi.mIsI .int (Mi.mVar 0)) (Mi.mNot (Mi.mIsI .bool (Mi.mVar 0))))
noncomputable def m_is_integer : MF := Mi.mDef 1 0 b_is_integer
abbrev n_is_integer : List Str := ["thing"]
abbrev p_is_integer : List Str := ["thing"]
noncomputable def b_is_between : MS :=
    Mi.mRet (Mi.mAnd (Mi.mCall m_is_integer (Mi.mCons (Mi.mVar 0) Mi.mNil)) (Mi.mChain Mi.bLe Mi.bLe (Mi.mVar 1) (Mi.mVar 0) (Mi.mVar 2)))
noncomputable def m_is_between : MF := Mi.mDef 3 0 b_is_between
abbrev n_is_between : List Str := ["thing", "least", "most"]
abbrev p_is_between : List Str := ["thing", "least", "most"]
noncomputable def b_need_sizes : MS :=
    Mi.mSeq (Mi.mIfS (Mi.mTnot (Mi.mTb (Mi.mCall m_is_between (Mi.mCons (Mi.mVar 0) (Mi.mCons (Mi.mC (.int 6)) (Mi.mCons (Mi.mC (.int 40)) Mi.mNil)))))) Mi.mFail Mi.mSkip) (
    Mi.mIfS (Mi.mTnot (Mi.mTb (Mi.mCall m_is_between (Mi.mCons (Mi.mVar 1) (Mi.mCons (Mi.mC (.int 4)) (Mi.mCons (Mi.mC (.int 24)) Mi.mNil)))))) Mi.mFail Mi.mSkip)
noncomputable def m_need_sizes : MF := Mi.mDef 2 0 b_need_sizes
abbrev n_need_sizes : List Str := ["segments", "blocks"]
abbrev p_need_sizes : List Str := ["segments", "blocks"]
noncomputable def b_room_of : MS :=
    Mi.mRet (Mi.m2 (Mi.bMul false) (Mi.m2 Mi.bSub (Mi.mVar 0) (Mi.mC (.int 4))) (Mi.m2 Mi.bSub (Mi.mVar 1) (Mi.mC (.int 1))))
noncomputable def m_room_of : MF := Mi.mDef 2 0 b_room_of
abbrev n_room_of : List Str := ["segments", "blocks"]
abbrev p_room_of : List Str := ["segments", "blocks"]
noncomputable def b_root_blocks_of : MS :=
    Mi.mRet (Mi.m2 Mi.bDiv (Mi.m2 Mi.bSub (Mi.m2 (Mi.bAdd false) (Mi.m2 (Mi.bAdd false) (Mi.mCall m_room_of (Mi.mCons (Mi.mVar 0) (Mi.mCons (Mi.mVar 1) Mi.mNil))) (Mi.mC (.int 4))) (Mi.mC (.int 28))) (Mi.mC (.int 1))) (Mi.mC (.int 28)))
noncomputable def m_root_blocks_of : MF := Mi.mDef 2 0 b_root_blocks_of
abbrev n_root_blocks_of : List Str := ["segments", "blocks"]
abbrev p_root_blocks_of : List Str := ["segments", "blocks"]
noncomputable def b_Disk_mk : MS :=
    Mi.mSeq (Mi.mExpr (Mi.mCall m_need_sizes (Mi.mCons (Mi.mVar 1) (Mi.mCons (Mi.mVar 2) Mi.mNil)))) (
    Mi.mSeq (Mi.mSetF [0] (Mi.mVar 0) "s" (Mi.mVar 1)) (
    Mi.mSeq (Mi.mSetF [0] (Mi.mVar 0) "k" (Mi.mVar 2)) (
    Mi.mSeq (Mi.mSetF [0] (Mi.mVar 0) "n" (Mi.mCall m_room_of (Mi.mCons (Mi.mVar 1) (Mi.mCons (Mi.mVar 2) Mi.mNil)))) (
    Mi.mSeq (Mi.mSetF [0] (Mi.mVar 0) "r" (Mi.mCall m_root_blocks_of (Mi.mCons (Mi.mVar 1) (Mi.mCons (Mi.mVar 2) Mi.mNil)))) (
    Mi.mSeq (Mi.mSetF [0] (Mi.mVar 0) "blocks" (Mi.m2 (Mi.bMul true) (Mi.mLst false (Mi.mCons (Mi.mC d_BLANK) Mi.mNil)) (Mi.m2 (Mi.bAdd false) (Mi.m2 (Mi.bMul false) (Mi.mC (.int 2)) (Mi.mFld [0] (Mi.mVar 0) "r")) (Mi.m2 (Mi.bMul false) (Mi.mVar 1) (Mi.mVar 2))))) (
    Mi.mSeq (Mi.mSetF [0] (Mi.mVar 0) "queue" (Mi.mLst true Mi.mNil)) (
    Mi.mSeq (Mi.mSetF [0] (Mi.mVar 0) "newest" mDct0) (
    Mi.mSetF [0] (Mi.mVar 0) "left" (Mi.mC .non)))))))))
noncomputable def m_Disk_mk : MF := Mi.mDef 3 0 b_Disk_mk
abbrev n_Disk_mk : List Str := ["self", "segments", "blocks"]
abbrev p_Disk_mk : List Str := ["self", "segments", "blocks"]
noncomputable def qi_is_keep_1 : MI :=
    Mi.iSeq (Mi.mVar 0)
noncomputable def qe_is_keep_1 : ME :=
    Mi.mCall m_is_between (Mi.mCons (Mi.mVar 1) (Mi.mCons (Mi.mC (.int 0)) (Mi.mCons (Mi.mC (.int 32)) Mi.mNil)))
noncomputable def ql_is_keep_1 : ME :=
    Mi.mLc false qi_is_keep_1 (Mi.gNm 1) Mi.tYes qe_is_keep_1 [1]
noncomputable def b_is_keep : MS :=
    Mi.mRet (Mi.mAnd (Mi.mIsI .tuple (Mi.mVar 0)) (Mi.mB Mi.fAll (Mi.mCons ql_is_keep_1 Mi.mNil)))
noncomputable def m_is_keep : MF := Mi.mDef 1 1 b_is_keep
abbrev n_is_keep : List Str := ["thing", "many"]
abbrev p_is_keep : List Str := ["thing"]
noncomputable def qi_Disk_cut_1 : MI :=
    mZip (Mi.mFld [0] (Mi.mVar 0) "queue") (Mi.mVar 1)
noncomputable def qb_Disk_cut_1 : MS :=
    Mi.mSetI (Mi.mFld [0] (Mi.mVar 0) "blocks") (Mi.mVar 2) (Mi.m2 (Mi.bAdd false) (Mi.mSlice false (Mi.mVar 3) none (some (Mi.mVar 4))) (Mi.mSlice false (Mi.m2 Mi.bSubs (Mi.mFld [0] (Mi.mVar 0) "blocks") (Mi.mVar 2)) (some (Mi.mVar 4)) none))
noncomputable def qf_Disk_cut_1 : MS :=
    Mi.mFor qi_Disk_cut_1 (Mi.gTup 2 (Mi.gCons (Mi.gTup 2 (Mi.gCons (Mi.gNm 2) (Mi.gCons (Mi.gNm 3) Mi.gNil))) (Mi.gCons (Mi.gNm 4) Mi.gNil))) qb_Disk_cut_1
noncomputable def b_Disk_cut : MS :=
    Mi.mSeq (Mi.mIfS (Mi.mTnot (Mi.mTb (Mi.mCall m_is_keep (Mi.mCons (Mi.mVar 1) Mi.mNil)))) Mi.mFail Mi.mSkip) (
    Mi.mSeq qf_Disk_cut_1 (
    Mi.mSeq (Mi.mSetF [0] (Mi.mVar 0) "queue" (Mi.mLst true Mi.mNil)) (
    Mi.mSeq (Mi.mSetF [0] (Mi.mVar 0) "newest" mDct0) (
    Mi.mSetF [0] (Mi.mVar 0) "left" (Mi.mC .non)))))
noncomputable def m_Disk_cut : MF := Mi.mDef 2 3 b_Disk_cut
abbrev n_Disk_cut : List Str := ["self", "keep", "place", "block", "many"]
abbrev p_Disk_cut : List Str := ["self", "keep"]
noncomputable def b_Disk_fuse : MS :=
    Mi.mSeq (Mi.mIfS (Mi.mTor (Mi.mTnot (Mi.mTb (Mi.mCall m_is_integer (Mi.mCons (Mi.mVar 1) Mi.mNil)))) (Mi.mTb (Mi.m2 Mi.bLt (Mi.mVar 1) (Mi.mC (.int 0))))) Mi.mFail Mi.mSkip) (
    Mi.mSetF [0] (Mi.mVar 0) "left" (Mi.mVar 1))
noncomputable def m_Disk_fuse : MF := Mi.mDef 2 0 b_Disk_fuse
abbrev n_Disk_fuse : List Str := ["self", "many"]
abbrev p_Disk_fuse : List Str := ["self", "many"]
noncomputable def b_Disk_need_place : MS :=
    Mi.mIfS (Mi.mTnot (Mi.mTb (Mi.mCall m_is_between (Mi.mCons (Mi.mVar 1) (Mi.mCons (Mi.mC (.int 0)) (Mi.mCons (Mi.m2 Mi.bSub (Mi.mB Mi.fLen (Mi.mCons (Mi.mFld [0] (Mi.mVar 0) "blocks") Mi.mNil)) (Mi.mC (.int 1))) Mi.mNil)))))) Mi.mFail Mi.mSkip
noncomputable def m_Disk_need_place : MF := Mi.mDef 2 0 b_Disk_need_place
abbrev n_Disk_need_place : List Str := ["self", "place"]
abbrev p_Disk_need_place : List Str := ["self", "place"]
noncomputable def b_Disk_read : MS :=
    Mi.mSeq (Mi.mExpr (Mi.mMeth 0 "need_place" m_Disk_need_place (Mi.mVar 0) (Mi.mCons (Mi.mVar 1) Mi.mNil))) (
    Mi.mRet (Mi.mGet2 (Mi.mFld [0] (Mi.mVar 0) "newest") (Mi.mVar 1) (Mi.m2 Mi.bSubs (Mi.mFld [0] (Mi.mVar 0) "blocks") (Mi.mVar 1))))
noncomputable def m_Disk_read : MF := Mi.mDef 2 0 b_Disk_read
abbrev n_Disk_read : List Str := ["self", "place"]
abbrev p_Disk_read : List Str := ["self", "place"]
noncomputable def b_Disk_sizes : MS :=
    Mi.mRet (Mi.mTup (Mi.mCons (Mi.mFld [0] (Mi.mVar 0) "s") (Mi.mCons (Mi.mFld [0] (Mi.mVar 0) "k") (Mi.mCons (Mi.mFld [0] (Mi.mVar 0) "n") (Mi.mCons (Mi.mFld [0] (Mi.mVar 0) "r") Mi.mNil)))))
noncomputable def m_Disk_sizes : MF := Mi.mDef 1 0 b_Disk_sizes
abbrev n_Disk_sizes : List Str := ["self"]
abbrev p_Disk_sizes : List Str := ["self"]
noncomputable def b_Disk_standing : MS :=
    Mi.mRet (Mi.mB Mi.fTuple (Mi.mCons (Mi.mFld [0] (Mi.mVar 0) "blocks") Mi.mNil))
noncomputable def m_Disk_standing : MF := Mi.mDef 1 0 b_Disk_standing
abbrev n_Disk_standing : List Str := ["self"]
abbrev p_Disk_standing : List Str := ["self"]
noncomputable def b_Disk_waiting : MS :=
    Mi.mRet (Mi.mB Mi.fTuple (Mi.mCons (Mi.mFld [0] (Mi.mVar 0) "queue") Mi.mNil))
noncomputable def m_Disk_waiting : MF := Mi.mDef 1 0 b_Disk_waiting
abbrev n_Disk_waiting : List Str := ["self"]
abbrev p_Disk_waiting : List Str := ["self"]
noncomputable def b_law_many : MS :=
    Mi.mRet (Mi.m2 (Mi.bAdd false) (Mi.m2 (Mi.bMul false) (Mi.mC (.int 2)) (Mi.m2 Mi.bSubs (Mi.mVar 0) (Mi.mC (.int 3)))) (Mi.m2 (Mi.bMul false) (Mi.m2 Mi.bSubs (Mi.mVar 0) (Mi.mC (.int 0))) (Mi.m2 Mi.bSubs (Mi.mVar 0) (Mi.mC (.int 1)))))
noncomputable def m_law_many : MF := Mi.mDef 1 0 b_law_many
abbrev n_law_many : List Str := ["sizes"]
abbrev p_law_many : List Str := ["sizes"]
noncomputable def b_law_blank : MS :=
    Mi.mRet (Mi.mDisp [(Mi.mC (.str "sizes"), Mi.mVar 0), (Mi.mC (.str "stand"), Mi.m2 (Mi.bMul true) (Mi.mLst false (Mi.mCons (Mi.m2 (Mi.bMul false) (Mi.mTup (Mi.mCons (Mi.mC (.int 0)) Mi.mNil)) (Mi.mC (.int 32))) Mi.mNil)) (Mi.mCall m_law_many (Mi.mCons (Mi.mVar 0) Mi.mNil))), (Mi.mC (.str "wait"), Mi.mLst false Mi.mNil), (Mi.mC (.str "fuse"), Mi.mC .non)])
noncomputable def m_law_blank : MF := Mi.mDef 1 0 b_law_blank
abbrev n_law_blank : List Str := ["sizes"]
abbrev p_law_blank : List Str := ["sizes"]
noncomputable def qi_law_deck_1 : MI :=
    Mi.iSeq (Mi.mSlice false (Mi.mVar 0) none (some (Mi.mC (.int 63))))
noncomputable def qb_law_deck_1 : MS :=
    Mi.mAsg (Mi.m2 Mi.bMod (Mi.mB Mi.fInt (Mi.mCons (Mi.m2 (Mi.bAdd false) (Mi.m2 (Mi.bAdd false) (Mi.m2 (Mi.bMul false) (Mi.mVar 1) (Mi.mC (.int 40692))) (Mi.m2 Mi.bMod (Mi.mB Mi.fInt (Mi.mCons (Mi.mVar 2) Mi.mNil)) (Mi.mC (.int 2147483423)))) (Mi.mC (.int 59))) Mi.mNil)) (Mi.mC (.int 2147483549))) (Mi.gNm 1)
noncomputable def qf_law_deck_1 : MS :=
    Mi.mFor qi_law_deck_1 (Mi.gNm 2) qb_law_deck_1
noncomputable def qi_law_deck_2 : MI :=
    Mi.iSeq (Mi.mSlice false (Mi.mVar 0) none (some (Mi.mC (.int 63))))
noncomputable def qe_law_deck_1 : ME :=
    Mi.mB Mi.fInt (Mi.mCons (Mi.mVar 2) Mi.mNil)
noncomputable def ql_law_deck_1 : ME :=
    Mi.mLc false qi_law_deck_2 (Mi.gNm 2) Mi.tYes qe_law_deck_1 [2]
noncomputable def b_law_deck : MS :=
    Mi.mSeq (Mi.mAsg (Mi.mC (.int 13746440)) (Mi.gNm 1)) (
    Mi.mSeq qf_law_deck_1 (
    Mi.mRet (Mi.mDisp [(Mi.mC (.str "cells"), Mi.mRev true ql_law_deck_1), (Mi.mC (.str "mixed"), Mi.mVar 1), (Mi.mC (.str "turn"), Mi.mC (.int 0))])))
noncomputable def m_law_deck : MF := Mi.mDef 1 2 b_law_deck
abbrev n_law_deck : List Str := ["script", "mixed", "cell"]
abbrev p_law_deck : List Str := ["script"]
noncomputable def b_law_draw : MS :=
    Mi.mSeq (Mi.mSetK (Mi.mVar 0) (Mi.mC (.str "turn")) (Mi.m2 (Mi.bAdd false) (Mi.m2 Mi.bSubs (Mi.mVar 0) (Mi.mC (.str "turn"))) (Mi.mC (.int 1)))) (
    Mi.mSeq (Mi.mAsg (Mi.m2 (Mi.bAdd false) (Mi.m2 Mi.bSubs (Mi.mVar 0) (Mi.mC (.str "mixed"))) (Mi.m2 (Mi.bMul false) (Mi.mC (.int 53545)) (Mi.m2 Mi.bSubs (Mi.mVar 0) (Mi.mC (.str "turn"))))) (Mi.gNm 2)) (
    Mi.mSeq (Mi.mIfS (Mi.mTb (Mi.m2 (Mi.bEq true) (Mi.m2 Mi.bSubs (Mi.mVar 0) (Mi.mC (.str "cells"))) (Mi.mLst false Mi.mNil))) (Mi.mSeq (Mi.mAsg (Mi.mPop (Mi.m2 Mi.bSubs (Mi.mVar 0) (Mi.mC (.str "cells")))) (Mi.gNm 3)) (
    Mi.mSeq (Mi.mIfS (Mi.mTb (Mi.m2 Mi.bGe (Mi.mVar 3) (Mi.m2 Mi.bPow (Mi.mC (.int 10)) (Mi.mC (.int 18))))) (Mi.mSeq (Mi.mExpr (Mi.mAppend (Mi.m2 Mi.bSubs (Mi.mVar 0) (Mi.mC (.str "cells"))) (Mi.m2 Mi.bDiv (Mi.mVar 3) (Mi.mB Mi.fMax (Mi.mCons (Mi.mC (.int 2)) (Mi.mCons (Mi.mVar 1) Mi.mNil)))))) (
    Mi.mRet (Mi.m2 Mi.bMod (Mi.mB Mi.fInt (Mi.mCons (Mi.mVar 3) Mi.mNil)) (Mi.mVar 1)))) Mi.mSkip) (
    Mi.mAsg (Mi.m2 (Mi.bAdd false) (Mi.mVar 2) (Mi.m2 Mi.bMod (Mi.mB Mi.fInt (Mi.mCons (Mi.mVar 3) Mi.mNil)) (Mi.mC (.int 2147483423)))) (Mi.gNm 2)))) Mi.mSkip) (
    Mi.mSeq (Mi.mAsg (Mi.m2 Mi.bMod (Mi.mB Mi.fInt (Mi.mCons (Mi.m2 (Mi.bAdd false) (Mi.m2 (Mi.bMul false) (Mi.mVar 2) (Mi.mC (.int 39373))) (Mi.mC (.int 59))) Mi.mNil)) (Mi.mC (.int 2147483587))) (Mi.gNm 2)) (
    Mi.mSeq (Mi.mAsg (Mi.m2 Mi.bMod (Mi.mB Mi.fInt (Mi.mCons (Mi.m2 (Mi.bAdd false) (Mi.m2 (Mi.bAdd false) (Mi.m2 (Mi.bMul false) (Mi.mVar 2) (Mi.mVar 2)) (Mi.m2 (Mi.bMul false) (Mi.mC (.int 60993)) (Mi.m2 Mi.bSubs (Mi.mVar 0) (Mi.mC (.str "turn"))))) (Mi.mC (.int 59))) Mi.mNil)) (Mi.mC (.int 2147483549))) (Mi.gNm 2)) (
    Mi.mSeq (Mi.mAsg (Mi.m2 Mi.bMod (Mi.mB Mi.fInt (Mi.mCons (Mi.m2 (Mi.bMul false) (Mi.mVar 2) (Mi.mC (.int 40692))) Mi.mNil)) (Mi.mC (.int 2147483497))) (Mi.gNm 2)) (
    Mi.mRet (Mi.m2 Mi.bMod (Mi.mB Mi.fInt (Mi.mCons (Mi.m2 Mi.bDiv (Mi.mVar 2) (Mi.mC (.int 64))) Mi.mNil)) (Mi.mVar 1))))))))
noncomputable def m_law_draw : MF := Mi.mDef 2 2 b_law_draw
abbrev n_law_draw : List Str := ["deck", "below", "figure", "cell"]
abbrev p_law_draw : List Str := ["deck", "below"]
noncomputable def b_law_sizes : MS :=
    Mi.mSeq (Mi.mAsg (Mi.m2 (Mi.bMul false) (Mi.m2 Mi.bSub (Mi.mVar 0) (Mi.mC (.int 4))) (Mi.m2 Mi.bSub (Mi.mVar 1) (Mi.mC (.int 1)))) (Mi.gNm 2)) (
    Mi.mRet (Mi.mTup (Mi.mCons (Mi.mVar 0) (Mi.mCons (Mi.mVar 1) (Mi.mCons (Mi.mVar 2) (Mi.mCons (Mi.m2 Mi.bDiv (Mi.m2 (Mi.bAdd false) (Mi.m2 (Mi.bAdd false) (Mi.mVar 2) (Mi.mC (.int 4))) (Mi.mC (.int 27))) (Mi.mC (.int 28))) Mi.mNil))))))
noncomputable def m_law_sizes : MF := Mi.mDef 2 1 b_law_sizes
abbrev n_law_sizes : List Str := ["segments", "blocks", "room"]
abbrev p_law_sizes : List Str := ["segments", "blocks"]
noncomputable def b_law_drawn_sizes : MS :=
    Mi.mSeq (Mi.mIfS (Mi.mTb (Mi.m2 (Mi.bEq false) (Mi.mCall m_law_draw (Mi.mCons (Mi.mVar 0) (Mi.mCons (Mi.mC (.int 16)) Mi.mNil))) (Mi.mC (.int 0)))) (Mi.mRet (Mi.mCall m_law_sizes (Mi.mCons (Mi.m2 (Mi.bAdd false) (Mi.mC (.int 6)) (Mi.mCall m_law_draw (Mi.mCons (Mi.mVar 0) (Mi.mCons (Mi.mC (.int 35)) Mi.mNil)))) (Mi.mCons (Mi.m2 (Mi.bAdd false) (Mi.mC (.int 4)) (Mi.mCall m_law_draw (Mi.mCons (Mi.mVar 0) (Mi.mCons (Mi.mC (.int 21)) Mi.mNil)))) Mi.mNil)))) Mi.mSkip) (
    Mi.mRet (Mi.mCall m_law_sizes (Mi.mCons (Mi.m2 (Mi.bAdd false) (Mi.mC (.int 6)) (Mi.mCall m_law_draw (Mi.mCons (Mi.mVar 0) (Mi.mCons (Mi.mC (.int 4)) Mi.mNil)))) (Mi.mCons (Mi.m2 (Mi.bAdd false) (Mi.mC (.int 4)) (Mi.mCall m_law_draw (Mi.mCons (Mi.mVar 0) (Mi.mCons (Mi.mC (.int 5)) Mi.mNil)))) Mi.mNil))))
noncomputable def m_law_drawn_sizes : MF := Mi.mDef 1 0 b_law_drawn_sizes
abbrev n_law_drawn_sizes : List Str := ["deck"]
abbrev p_law_drawn_sizes : List Str := ["deck"]
noncomputable def qi_law_fell_1 : MI :=
    Mi.iEnum (Mi.m2 Mi.bSubs (Mi.mVar 0) (Mi.mC (.str "wait")))
noncomputable def qb_law_fell_1 : MS :=
    Mi.mSeq (Mi.mAsg (Mi.mIf (Mi.mTb (Mi.m2 Mi.bLt (Mi.mVar 3) (Mi.mB Mi.fLen (Mi.mCons (Mi.mVar 1) Mi.mNil)))) (Mi.m2 Mi.bSubs (Mi.mVar 1) (Mi.mVar 3)) (Mi.mC (.int 0))) (Mi.gNm 6)) (
    Mi.mSetI (Mi.mVar 2) (Mi.mVar 4) (Mi.m2 (Mi.bAdd false) (Mi.mSlice false (Mi.mVar 5) none (some (Mi.mVar 6))) (Mi.mSlice false (Mi.m2 Mi.bSubs (Mi.mVar 2) (Mi.mVar 4)) (some (Mi.mVar 6)) none)))
noncomputable def qf_law_fell_1 : MS :=
    Mi.mFor qi_law_fell_1 (Mi.gTup 2 (Mi.gCons (Mi.gNm 3) (Mi.gCons (Mi.gTup 2 (Mi.gCons (Mi.gNm 4) (Mi.gCons (Mi.gNm 5) Mi.gNil))) Mi.gNil))) qb_law_fell_1
noncomputable def b_law_fell : MS :=
    Mi.mSeq (Mi.mAsg (Mi.m2 Mi.bSubs (Mi.mVar 0) (Mi.mC (.str "stand"))) (Mi.gNm 2)) (
    Mi.mSeq qf_law_fell_1 (
    Mi.mSeq (Mi.mSetK (Mi.mVar 0) (Mi.mC (.str "wait")) (Mi.mLst false Mi.mNil)) (
    Mi.mSetK (Mi.mVar 0) (Mi.mC (.str "fuse")) (Mi.mC .non))))
noncomputable def m_law_fell : MF := Mi.mDef 2 5 b_law_fell
abbrev n_law_fell : List Str := ["it", "keep", "stand", "at", "place", "block", "many"]
abbrev p_law_fell : List Str := ["it", "keep"]
noncomputable def b_Disk_burn_x : MSX :=
    xIf (Mi.mTb (Mi.mIsN true (Mi.mFld [0] (Mi.mVar 0) "left"))) (xSeq (xIf (Mi.mTb (Mi.m2 (Mi.bEq false) (Mi.mFld [0] (Mi.mVar 0) "left") (Mi.mC (.int 0)))) (xRaise 1) (xLift Mi.mSkip)) (
    xLift (Mi.mAugF [0] (Mi.mVar 0) "left" Mi.bSub (Mi.mC (.int 1))))) (xLift Mi.mSkip)
noncomputable def m_Disk_burn_x : MFX := xDef 1 0 b_Disk_burn_x
abbrev n_Disk_burn_x : List Str := ["self"]
abbrev p_Disk_burn_x : List Str := ["self"]
noncomputable def qi_Disk_force_x_1 : MI :=
    Mi.iSeq (Mi.mFld [0] (Mi.mVar 0) "queue")
noncomputable def qb_Disk_force_x_1 : MS :=
    Mi.mSetI (Mi.mFld [0] (Mi.mVar 0) "blocks") (Mi.mVar 1) (Mi.mVar 2)
noncomputable def qf_Disk_force_x_1 : MS :=
    Mi.mFor qi_Disk_force_x_1 (Mi.gTup 2 (Mi.gCons (Mi.gNm 1) (Mi.gCons (Mi.gNm 2) Mi.gNil))) qb_Disk_force_x_1
noncomputable def b_Disk_force_x : MSX :=
    xSeq (xExpr (xMeth 0 "burn" m_Disk_burn_x (Mi.mVar 0) Mi.mNil)) (
    xSeq (xLift qf_Disk_force_x_1) (
    xSeq (xLift (Mi.mSetF [0] (Mi.mVar 0) "queue" (Mi.mLst true Mi.mNil))) (
    xLift (Mi.mSetF [0] (Mi.mVar 0) "newest" mDct0))))
noncomputable def m_Disk_force_x : MFX := xDef 1 2 b_Disk_force_x
abbrev n_Disk_force_x : List Str := ["self", "place", "block"]
abbrev p_Disk_force_x : List Str := ["self"]
noncomputable def b_Disk_need_place_x : MSX :=
    xIf (Mi.mTnot (Mi.mTb (Mi.mCall m_is_between (Mi.mCons (Mi.mVar 1) (Mi.mCons (Mi.mC (.int 0)) (Mi.mCons (Mi.m2 Mi.bSub (Mi.mB Mi.fLen (Mi.mCons (Mi.mFld [0] (Mi.mVar 0) "blocks") Mi.mNil)) (Mi.mC (.int 1))) Mi.mNil)))))) (xRaiseV 3 "thing" (Mi.mVar 1)) (xLift Mi.mSkip)
noncomputable def m_Disk_need_place_x : MFX := xDef 2 0 b_Disk_need_place_x
abbrev n_Disk_need_place_x : List Str := ["self", "place"]
abbrev p_Disk_need_place_x : List Str := ["self", "place"]
noncomputable def b_is_word : MS :=
    Mi.mRet (Mi.mCall m_is_between (Mi.mCons (Mi.mVar 0) (Mi.mCons (Mi.mC (.int 0)) (Mi.mCons (Mi.mC (.int 1000000000)) Mi.mNil))))
noncomputable def m_is_word : MF := Mi.mDef 1 0 b_is_word
abbrev n_is_word : List Str := ["thing"]
abbrev p_is_word : List Str := ["thing"]
noncomputable def qi_are_words_1 : MI :=
    Mi.iSeq (Mi.mVar 0)
noncomputable def qe_are_words_1 : ME :=
    Mi.mCall m_is_word (Mi.mCons (Mi.mVar 2) Mi.mNil)
noncomputable def ql_are_words_1 : ME :=
    Mi.mLc false qi_are_words_1 (Mi.gNm 2) Mi.tYes qe_are_words_1 [2]
noncomputable def b_are_words : MS :=
    Mi.mRet (Mi.mAnd (Mi.mIsI .tuple (Mi.mVar 0)) (Mi.mAnd (Mi.m2 (Mi.bEq false) (Mi.mB Mi.fLen (Mi.mCons (Mi.mVar 0) Mi.mNil)) (Mi.mVar 1)) (Mi.mB Mi.fAll (Mi.mCons ql_are_words_1 Mi.mNil))))
noncomputable def m_are_words : MF := Mi.mDef 2 1 b_are_words
abbrev n_are_words : List Str := ["thing", "many", "word"]
abbrev p_are_words : List Str := ["thing", "many"]
noncomputable def b_is_block : MS :=
    Mi.mRet (Mi.mCall m_are_words (Mi.mCons (Mi.mVar 0) (Mi.mCons (Mi.mC (.int 32)) Mi.mNil)))
noncomputable def m_is_block : MF := Mi.mDef 1 0 b_is_block
abbrev n_is_block : List Str := ["thing"]
abbrev p_is_block : List Str := ["thing"]
noncomputable def b_Disk_write_x : MSX :=
    xSeq (xExpr (xMeth 0 "need_place" m_Disk_need_place_x (Mi.mVar 0) (Mi.mCons (Mi.mVar 1) Mi.mNil))) (
    xSeq (xIf (Mi.mTnot (Mi.mTb (Mi.mCall m_is_block (Mi.mCons (Mi.mVar 2) Mi.mNil)))) (xRaiseV 2 "thing" (Mi.mVar 2)) (xLift Mi.mSkip)) (
    xSeq (xExpr (xMeth 0 "burn" m_Disk_burn_x (Mi.mVar 0) Mi.mNil)) (
    xSeq (xLift (Mi.mExpr (Mi.mAppend (Mi.mFld [0] (Mi.mVar 0) "queue") (Mi.mTup (Mi.mCons (Mi.mVar 1) (Mi.mCons (Mi.mVar 2) Mi.mNil)))))) (
    xLift (Mi.mSetK (Mi.mFld [0] (Mi.mVar 0) "newest") (Mi.mVar 1) (Mi.mVar 2))))))
noncomputable def m_Disk_write_x : MFX := xDef 3 0 b_Disk_write_x
abbrev n_Disk_write_x : List Str := ["self", "place", "block"]
abbrev p_Disk_write_x : List Str := ["self", "place", "block"]
noncomputable def qi_Disk_cut_x_1 : MI :=
    mZip (Mi.mFld [0] (Mi.mVar 0) "queue") (Mi.mVar 1)
noncomputable def qb_Disk_cut_x_1 : MS :=
    Mi.mSetI (Mi.mFld [0] (Mi.mVar 0) "blocks") (Mi.mVar 2) (Mi.m2 (Mi.bAdd false) (Mi.mSlice false (Mi.mVar 3) none (some (Mi.mVar 4))) (Mi.mSlice false (Mi.m2 Mi.bSubs (Mi.mFld [0] (Mi.mVar 0) "blocks") (Mi.mVar 2)) (some (Mi.mVar 4)) none))
noncomputable def qf_Disk_cut_x_1 : MS :=
    Mi.mFor qi_Disk_cut_x_1 (Mi.gTup 2 (Mi.gCons (Mi.gTup 2 (Mi.gCons (Mi.gNm 2) (Mi.gCons (Mi.gNm 3) Mi.gNil))) (Mi.gCons (Mi.gNm 4) Mi.gNil))) qb_Disk_cut_x_1
noncomputable def b_Disk_cut_x : MSX :=
    xSeq (xIf (Mi.mTnot (Mi.mTb (Mi.mCall m_is_keep (Mi.mCons (Mi.mVar 1) Mi.mNil)))) (xRaiseV 4 "thing" (Mi.mVar 1)) (xLift Mi.mSkip)) (
    xSeq (xLift qf_Disk_cut_x_1) (
    xSeq (xLift (Mi.mSetF [0] (Mi.mVar 0) "queue" (Mi.mLst true Mi.mNil))) (
    xSeq (xLift (Mi.mSetF [0] (Mi.mVar 0) "newest" mDct0)) (
    xLift (Mi.mSetF [0] (Mi.mVar 0) "left" (Mi.mC .non))))))
noncomputable def m_Disk_cut_x : MFX := xDef 2 3 b_Disk_cut_x
abbrev n_Disk_cut_x : List Str := ["self", "keep", "place", "block", "many"]
abbrev p_Disk_cut_x : List Str := ["self", "keep"]
noncomputable def b_Disk_fuse_x : MSX :=
    xSeq (xIf (Mi.mTor (Mi.mTnot (Mi.mTb (Mi.mCall m_is_integer (Mi.mCons (Mi.mVar 1) Mi.mNil)))) (Mi.mTb (Mi.m2 Mi.bLt (Mi.mVar 1) (Mi.mC (.int 0))))) (xRaiseV 5 "thing" (Mi.mVar 1)) (xLift Mi.mSkip)) (
    xLift (Mi.mSetF [0] (Mi.mVar 0) "left" (Mi.mVar 1)))
noncomputable def m_Disk_fuse_x : MFX := xDef 2 0 b_Disk_fuse_x
abbrev n_Disk_fuse_x : List Str := ["self", "many"]
abbrev p_Disk_fuse_x : List Str := ["self", "many"]
abbrev l_law_passed : Nat := 3
noncomputable def b_law_passed : MBg := fun zf zc zq zt =>
    Mi.mSeq (mTry sub_ (xAsg 1 (xRepr (xAct zf zc zq zt))) [(6, (some 2), fun ec ev => Mi.mSeq (Mi.mAsg (Mi.mAnd (mExIs sub_ bt_ [2, 4, 5, 3, 1] ec ev 2 (.own 1)) (Mi.mNot (mExIsT sub_ bt_ [2, 4, 5, 3, 1] ec ev 2 [.own 2, .own 4, .own 5, .own 3, .bi "ValueError", .bi "LookupError"]))) (Mi.gNm 3)) (
    Mi.mAsg (Mi.mIf (Mi.mTru (Mi.mVar 3)) (Mi.mC (.str "cut")) (Mi.mC (.str "other"))) (Mi.gNm 1)))]) (
    Mi.mRet (Mi.mVar 1))
abbrev n_law_passed : List Str := ["call", "found", "e", "is_cut"]
abbrev p_law_passed : List Str := ["call"]
noncomputable def b_law_pick : MS :=
    Mi.mRet (Mi.m2 Mi.bSubs (Mi.mVar 1) (Mi.mCall m_law_draw (Mi.mCons (Mi.mVar 0) (Mi.mCons (Mi.mB Mi.fLen (Mi.mCons (Mi.mVar 1) Mi.mNil)) Mi.mNil))))
noncomputable def m_law_pick : MF := Mi.mDef 2 0 b_law_pick
abbrev n_law_pick : List Str := ["deck", "some"]
abbrev p_law_pick : List Str := ["deck", "some"]
noncomputable def qz_law_are_wrong_refused_1 : MEX :=
    xMeth 0 "write" m_Disk_write_x (Mi.mVar 1) (Mi.mCons (Mi.m2 Mi.bSubs (Mi.mVar 5) (Mi.mC (.int 0))) (Mi.mCons (Mi.m2 Mi.bSubs (Mi.mVar 5) (Mi.mC (.int 1))) Mi.mNil))
noncomputable def qz_law_are_wrong_refused_2 : MEX :=
    xMeth 0 "cut" m_Disk_cut_x (Mi.mVar 1) (Mi.mCons (Mi.mVar 6) Mi.mNil)
noncomputable def qz_law_are_wrong_refused_3 : MEX :=
    xMeth 0 "fuse" m_Disk_fuse_x (Mi.mVar 1) (Mi.mCons (Mi.mVar 7) Mi.mNil)
noncomputable def b_law_are_wrong_refused : MS :=
    Mi.mSeq (Mi.mAsg (Mi.mCall m_law_pick (Mi.mCons (Mi.mVar 0) (Mi.mCons (Mi.mLst false (Mi.mCons (Mi.mTup (Mi.mCons (Mi.m1 Mi.uNeg (Mi.mC (.int 1))) (Mi.mCons (Mi.mVar 4) Mi.mNil))) (Mi.mCons (Mi.mTup (Mi.mCons (Mi.mCall m_law_many (Mi.mCons (Mi.m2 Mi.bSubs (Mi.mVar 2) (Mi.mC (.str "sizes"))) Mi.mNil)) (Mi.mCons (Mi.mVar 4) Mi.mNil))) (Mi.mCons (Mi.mTup (Mi.mCons (Mi.mVar 3) (Mi.mCons (Mi.mSlice false (Mi.mVar 4) (some (Mi.mC (.int 1))) none) Mi.mNil))) (Mi.mCons (Mi.mTup (Mi.mCons (Mi.mC .non) (Mi.mCons (Mi.mC .non) Mi.mNil))) Mi.mNil))))) Mi.mNil))) (Mi.gNm 5)) (
    Mi.mSeq (Mi.mAsg (Mi.mTup (Mi.mCons (Mi.mCall m_law_pick (Mi.mCons (Mi.mVar 0) (Mi.mCons (Mi.mLst false (Mi.mCons (Mi.mTup (Mi.mCons (Mi.mC (.int 33)) Mi.mNil)) (Mi.mCons (Mi.mLst false (Mi.mCons (Mi.mC (.int 32)) Mi.mNil)) (Mi.mCons (Mi.mTup (Mi.mCons (Mi.mC (.int 32)) (Mi.mCons (Mi.mC (.bl true)) Mi.mNil))) (Mi.mCons (Mi.mTup (Mi.mCons (Mi.mC (.int 32)) (Mi.mCons (Mi.mC (.int 32)) (Mi.mCons (Mi.m1 Mi.uNeg (Mi.mC (.int 1))) Mi.mNil)))) (Mi.mCons (Mi.mC .non) Mi.mNil)))))) Mi.mNil))) (Mi.mCons (Mi.mCall m_law_pick (Mi.mCons (Mi.mVar 0) (Mi.mCons (Mi.mLst false (Mi.mCons (Mi.m1 Mi.uNeg (Mi.mC (.int 1))) (Mi.mCons (Mi.mC .non) (Mi.mCons (Mi.mC (.bl true)) (Mi.mCons (Mi.mC (.str "1")) (Mi.mCons (Mi.mTup (Mi.mCons (Mi.mC (.int 1)) Mi.mNil)) Mi.mNil)))))) Mi.mNil))) Mi.mNil))) (Mi.gTup 2 (Mi.gCons (Mi.gNm 6) (Mi.gCons (Mi.gNm 7) Mi.gNil)))) (
    Mi.mSeq (Mi.mAsg (Mi.mLst true (Mi.mCons (mLam l_law_passed b_law_passed qz_law_are_wrong_refused_1) Mi.mNil)) (Mi.gNm 8)) (
    Mi.mSeq (Mi.mExpr (Mi.mAppend (Mi.mVar 8) (mLam l_law_passed b_law_passed qz_law_are_wrong_refused_2))) (
    Mi.mSeq (Mi.mExpr (Mi.mAppend (Mi.mVar 8) (mLam l_law_passed b_law_passed qz_law_are_wrong_refused_3))) (
    Mi.mRet (Mi.mAnd (Mi.m2 (bEqD false) (Mi.mVar 8) (Mi.m2 (Mi.bMul false) (Mi.mLst false (Mi.mCons (Mi.mC (.str "other")) Mi.mNil)) (Mi.mC (.int 3)))) (Mi.mReprEq false (Mi.mTup (Mi.mCons (Mi.mMeth 0 "waiting" m_Disk_waiting (Mi.mVar 1) Mi.mNil) (Mi.mCons (Mi.mMeth 0 "standing" m_Disk_standing (Mi.mVar 1) Mi.mNil) Mi.mNil))) (Mi.mTup (Mi.mCons (Mi.mB Mi.fTuple (Mi.mCons (Mi.m2 Mi.bSubs (Mi.mVar 2) (Mi.mC (.str "wait"))) Mi.mNil)) (Mi.mCons (Mi.mB Mi.fTuple (Mi.mCons (Mi.m2 Mi.bSubs (Mi.mVar 2) (Mi.mC (.str "stand"))) Mi.mNil)) Mi.mNil))))))))))
noncomputable def m_law_are_wrong_refused : MF := Mi.mDef 5 4 b_law_are_wrong_refused
abbrev n_law_are_wrong_refused : List Str := ["deck", "disk", "it", "place", "block", "wrong", "keep", "many", "told"]
abbrev p_law_are_wrong_refused : List Str := ["deck", "disk", "it", "place", "block"]
noncomputable def b_law_word : MS :=
    Mi.mRet (Mi.mCall m_law_pick (Mi.mCons (Mi.mVar 0) (Mi.mCons (Mi.mLst false (Mi.mCons (Mi.mC (.int 0)) (Mi.mCons (Mi.mC (.int 1)) (Mi.mCons (Mi.mC (.int 2)) (Mi.mCons (Mi.mC (.int 3)) (Mi.mCons (Mi.mC (.int 5)) (Mi.mCons (Mi.m2 Mi.bPow (Mi.mC (.int 10)) (Mi.mC (.int 9))) (Mi.mCons (Mi.mCall m_law_draw (Mi.mCons (Mi.mVar 0) (Mi.mCons (Mi.mC (.int 100)) Mi.mNil))) (Mi.mCons (Mi.mCall m_law_draw (Mi.mCons (Mi.mVar 0) (Mi.mCons (Mi.m2 (Mi.bAdd false) (Mi.m2 Mi.bPow (Mi.mC (.int 10)) (Mi.mC (.int 9))) (Mi.mC (.int 1))) Mi.mNil))) Mi.mNil))))))))) Mi.mNil)))
noncomputable def m_law_word : MF := Mi.mDef 1 0 b_law_word
abbrev n_law_word : List Str := ["deck"]
abbrev p_law_word : List Str := ["deck"]
noncomputable def qi_law_block_1 : MI :=
    Mi.iRange1 (Mi.mC (.int 29))
noncomputable def qe_law_block_1 : ME :=
    Mi.mCall m_law_draw (Mi.mCons (Mi.mVar 0) (Mi.mCons (Mi.mC (.int 9)) Mi.mNil))
noncomputable def ql_law_block_1 : ME :=
    Mi.mLc false qi_law_block_1 (Mi.gNm 3) Mi.tYes qe_law_block_1 [3]
noncomputable def qi_law_block_2 : MI :=
    Mi.iRange1 (Mi.mC (.int 32))
noncomputable def qe_law_block_2 : ME :=
    Mi.mIf (Mi.mTb (Mi.m2 (Mi.bEq false) (Mi.mCall m_law_draw (Mi.mCons (Mi.mVar 0) (Mi.mCons (Mi.mC (.int 2)) Mi.mNil))) (Mi.mC (.int 0)))) (Mi.mCall m_law_word (Mi.mCons (Mi.mVar 0) Mi.mNil)) (Mi.mVar 3)
noncomputable def ql_law_block_2 : ME :=
    Mi.mLc false qi_law_block_2 (Mi.gNm 3) Mi.tYes qe_law_block_2 [3]
noncomputable def b_law_block : MS :=
    Mi.mSeq (Mi.mPar 1 2 (Mi.mCons (Mi.mCall m_law_draw (Mi.mCons (Mi.mVar 0) (Mi.mCons (Mi.mC (.int 5)) Mi.mNil))) (Mi.mCons (Mi.mCall m_law_word (Mi.mCons (Mi.mVar 0) Mi.mNil)) Mi.mNil))) (
    Mi.mSeq (Mi.mIfS (Mi.mTb (Mi.m2 (Mi.bEq false) (Mi.mVar 1) (Mi.mC (.int 0)))) (Mi.mRet (Mi.m2 (Mi.bMul false) (Mi.mTup (Mi.mCons (Mi.mVar 2) Mi.mNil)) (Mi.mC (.int 32)))) Mi.mSkip) (
    Mi.mSeq (Mi.mIfS (Mi.mTb (Mi.m2 (Mi.bEq false) (Mi.mVar 1) (Mi.mC (.int 1)))) (Mi.mRet (Mi.m2 (Mi.bMul false) (Mi.mTup (Mi.mCons (Mi.mC (.int 0)) Mi.mNil)) (Mi.mC (.int 32)))) Mi.mSkip) (
    Mi.mSeq (Mi.mIfS (Mi.mTb (Mi.m2 (Mi.bEq false) (Mi.mVar 1) (Mi.mC (.int 2)))) (Mi.mRet (Mi.m2 (Mi.bAdd false) (Mi.m2 (Mi.bAdd false) (Mi.mTup (Mi.mCons (Mi.mVar 2) (Mi.mCons (Mi.m2 (Mi.bAdd false) (Mi.mC (.int 1)) (Mi.mCall m_law_draw (Mi.mCons (Mi.mVar 0) (Mi.mCons (Mi.mC (.int 3)) Mi.mNil)))) Mi.mNil))) (Mi.mB Mi.fTuple (Mi.mCons ql_law_block_1 Mi.mNil))) (Mi.mTup (Mi.mCons (Mi.mVar 2) Mi.mNil)))) Mi.mSkip) (
    Mi.mRet (Mi.mB Mi.fTuple (Mi.mCons ql_law_block_2 Mi.mNil))))))
noncomputable def m_law_block : MF := Mi.mDef 1 3 b_law_block
abbrev n_law_block : List Str := ["deck", "way", "word", "i"]
abbrev p_law_block : List Str := ["deck"]
noncomputable def qi_law_forced_1 : MI :=
    Mi.iSeq (Mi.m2 Mi.bSubs (Mi.mVar 0) (Mi.mC (.str "wait")))
noncomputable def qb_law_forced_1 : MS :=
    Mi.mSetI (Mi.mVar 1) (Mi.mVar 2) (Mi.mVar 3)
noncomputable def qf_law_forced_1 : MS :=
    Mi.mFor qi_law_forced_1 (Mi.gTup 2 (Mi.gCons (Mi.gNm 2) (Mi.gCons (Mi.gNm 3) Mi.gNil))) qb_law_forced_1
noncomputable def b_law_forced : MS :=
    Mi.mSeq (Mi.mAsg (Mi.m2 Mi.bSubs (Mi.mVar 0) (Mi.mC (.str "stand"))) (Mi.gNm 1)) (
    Mi.mSeq qf_law_forced_1 (
    Mi.mSetK (Mi.mVar 0) (Mi.mC (.str "wait")) (Mi.mLst false Mi.mNil)))
noncomputable def m_law_forced : MF := Mi.mDef 1 3 b_law_forced
abbrev n_law_forced : List Str := ["it", "stand", "place", "block"]
abbrev p_law_forced : List Str := ["it"]
noncomputable def qi_law_read_1 : MI :=
    Mi.iSeq (Mi.mRev false (Mi.m2 Mi.bSubs (Mi.mVar 0) (Mi.mC (.str "wait"))))
noncomputable def qb_law_read_1 : MS :=
    Mi.mIfS (Mi.mTb (Mi.m2 (Mi.bEq false) (Mi.mVar 2) (Mi.mVar 1))) (Mi.mRet (Mi.mVar 3)) Mi.mSkip
noncomputable def qf_law_read_1 : MS :=
    Mi.mFor qi_law_read_1 (Mi.gTup 2 (Mi.gCons (Mi.gNm 2) (Mi.gCons (Mi.gNm 3) Mi.gNil))) qb_law_read_1
noncomputable def b_law_read : MS :=
    Mi.mSeq qf_law_read_1 (
    Mi.mRet (Mi.m2 Mi.bSubs (Mi.m2 Mi.bSubs (Mi.mVar 0) (Mi.mC (.str "stand"))) (Mi.mVar 1)))
noncomputable def m_law_read : MF := Mi.mDef 2 2 b_law_read
abbrev n_law_read : List Str := ["it", "place", "at", "block"]
abbrev p_law_read : List Str := ["it", "place"]
noncomputable def qz_law_is_call_right_1 : MEX :=
    xIfE (Mi.mTb (Mi.m2 (Mi.bEq false) (Mi.mVar 5) (Mi.mC (.int 0)))) (xMeth 0 "force" m_Disk_force_x (Mi.mVar 1) Mi.mNil) (xIfE (Mi.mTb (Mi.m2 (Mi.bEq false) (Mi.mVar 5) (Mi.mC (.int 1)))) (xMeth 0 "write" m_Disk_write_x (Mi.mVar 1) (Mi.mCons (Mi.mVar 3) (Mi.mCons (Mi.mVar 4) Mi.mNil))) (xMethK 0 "write" m_Disk_write_x [0, 2, 1] (Mi.mVar 1) (Mi.mCons (Mi.mVar 4) (Mi.mCons (Mi.mVar 3) Mi.mNil))))
noncomputable def b_law_is_call_right : MS :=
    Mi.mSeq (Mi.mAsg (Mi.mTup (Mi.mCons (Mi.mCall m_law_draw (Mi.mCons (Mi.mVar 0) (Mi.mCons (Mi.mCall m_law_many (Mi.mCons (Mi.m2 Mi.bSubs (Mi.mVar 2) (Mi.mC (.str "sizes"))) Mi.mNil)) Mi.mNil))) (Mi.mCons (Mi.mCall m_law_block (Mi.mCons (Mi.mVar 0) Mi.mNil)) (Mi.mCons (Mi.mCall m_law_draw (Mi.mCons (Mi.mVar 0) (Mi.mCons (Mi.mC (.int 4)) Mi.mNil))) Mi.mNil)))) (Mi.gTup 3 (Mi.gCons (Mi.gNm 3) (Mi.gCons (Mi.gNm 4) (Mi.gCons (Mi.gNm 5) Mi.gNil))))) (
    Mi.mSeq (Mi.mIfS (Mi.mTand (Mi.mTb (Mi.m2 (Mi.bEq false) (Mi.mCall m_law_draw (Mi.mCons (Mi.mVar 0) (Mi.mCons (Mi.mC (.int 6)) Mi.mNil))) (Mi.mC (.int 0)))) (Mi.mTnot (Mi.mTb (Mi.mCall m_law_are_wrong_refused (Mi.mCons (Mi.mVar 0) (Mi.mCons (Mi.mVar 1) (Mi.mCons (Mi.mVar 2) (Mi.mCons (Mi.mVar 3) (Mi.mCons (Mi.mVar 4) Mi.mNil))))))))) (Mi.mRet (Mi.mC (.bl false))) Mi.mSkip) (
    Mi.mSeq (Mi.mAsg (mLam l_law_passed b_law_passed qz_law_is_call_right_1) (Mi.gNm 6)) (
    Mi.mSeq (Mi.mIfS (Mi.mTb (Mi.m2 (Mi.bEq false) (Mi.m2 Mi.bSubs (Mi.mVar 2) (Mi.mC (.str "fuse"))) (Mi.mC (.int 0)))) (Mi.mRet (Mi.mAnd (Mi.m2 (Mi.bEq false) (Mi.mVar 6) (Mi.mC (.str "cut"))) (Mi.mReprEq false (Mi.mMeth 0 "read" m_Disk_read (Mi.mVar 1) (Mi.mCons (Mi.mVar 3) Mi.mNil)) (Mi.mCall m_law_read (Mi.mCons (Mi.mVar 2) (Mi.mCons (Mi.mVar 3) Mi.mNil)))))) Mi.mSkip) (
    Mi.mSeq (Mi.mSetK (Mi.mVar 2) (Mi.mC (.str "fuse")) (Mi.mIf (Mi.mTb (Mi.mIsN false (Mi.m2 Mi.bSubs (Mi.mVar 2) (Mi.mC (.str "fuse"))))) (Mi.m2 Mi.bSubs (Mi.mVar 2) (Mi.mC (.str "fuse"))) (Mi.m2 Mi.bSub (Mi.m2 Mi.bSubs (Mi.mVar 2) (Mi.mC (.str "fuse"))) (Mi.mC (.int 1))))) (
    Mi.mSeq (Mi.mIfS (Mi.mTb (Mi.m2 (Mi.bEq false) (Mi.mVar 5) (Mi.mC (.int 0)))) (Mi.mExpr (Mi.mCall m_law_forced (Mi.mCons (Mi.mVar 2) Mi.mNil))) (Mi.mSetK (Mi.mVar 2) (Mi.mC (.str "wait")) (Mi.m2 (Mi.bAdd false) (Mi.m2 Mi.bSubs (Mi.mVar 2) (Mi.mC (.str "wait"))) (Mi.mLst false (Mi.mCons (Mi.mTup (Mi.mCons (Mi.mVar 3) (Mi.mCons (Mi.mVar 4) Mi.mNil))) Mi.mNil))))) (
    Mi.mRet (Mi.m2 (Mi.bEq false) (Mi.mVar 6) (Mi.mC (.str "None")))))))))
noncomputable def m_law_is_call_right : MF := Mi.mDef 3 4 b_law_is_call_right
abbrev n_law_is_call_right : List Str := ["deck", "disk", "it", "place", "block", "way", "told"]
abbrev p_law_is_call_right : List Str := ["deck", "disk", "it"]
noncomputable def qi_law_keep_1 : MI :=
    Mi.iRange1 (Mi.mVar 2)
noncomputable def qe_law_keep_1 : ME :=
    Mi.mCall m_law_pick (Mi.mCons (Mi.mVar 0) (Mi.mCons (Mi.mLst false (Mi.mCons (Mi.mC (.int 0)) (Mi.mCons (Mi.mC (.int 32)) (Mi.mCons (Mi.mC (.int 32)) (Mi.mCons (Mi.mC (.int 0)) (Mi.mCons (Mi.mC (.int 1)) (Mi.mCons (Mi.mC (.int 31)) (Mi.mCons (Mi.mCall m_law_draw (Mi.mCons (Mi.mVar 0) (Mi.mCons (Mi.mC (.int 33)) Mi.mNil))) Mi.mNil)))))))) Mi.mNil))
noncomputable def ql_law_keep_1 : ME :=
    Mi.mLc false qi_law_keep_1 (Mi.gNm 3) Mi.tYes qe_law_keep_1 [3]
noncomputable def b_law_keep : MS :=
    Mi.mSeq (Mi.mAsg (Mi.mB Mi.fMax (Mi.mCons (Mi.mC (.int 0)) (Mi.mCons (Mi.m2 (Mi.bAdd false) (Mi.mVar 1) (Mi.mCall m_law_pick (Mi.mCons (Mi.mVar 0) (Mi.mCons (Mi.mLst false (Mi.mCons (Mi.mC (.int 0)) (Mi.mCons (Mi.mC (.int 0)) (Mi.mCons (Mi.m1 Mi.uNeg (Mi.mC (.int 1))) (Mi.mCons (Mi.mC (.int 2)) (Mi.mCons (Mi.m1 Mi.uNeg (Mi.mVar 1)) Mi.mNil)))))) Mi.mNil)))) Mi.mNil))) (Mi.gNm 2)) (
    Mi.mRet (Mi.mB Mi.fTuple (Mi.mCons ql_law_keep_1 Mi.mNil)))
noncomputable def m_law_keep : MF := Mi.mDef 2 2 b_law_keep
abbrev n_law_keep : List Str := ["deck", "many", "length", "i"]
abbrev p_law_keep : List Str := ["deck", "many"]
noncomputable def qi_law_1 : MI :=
    Mi.iRange1 (Mi.mCall m_law_draw (Mi.mCons (Mi.mVar 1) (Mi.mCons (Mi.mC (.int 11)) Mi.mNil)))
noncomputable def qb_law_1 : MS :=
    Mi.mSeq (Mi.mIfS (Mi.mTb (Mi.m2 (Mi.bEq false) (Mi.mCall m_law_draw (Mi.mCons (Mi.mVar 1) (Mi.mCons (Mi.mC (.int 12)) Mi.mNil))) (Mi.mC (.int 0)))) (Mi.mSeq (Mi.mAsg (Mi.mCall m_law_pick (Mi.mCons (Mi.mVar 1) (Mi.mCons (Mi.mLst false (Mi.mCons (Mi.mC (.int 0)) (Mi.mCons (Mi.mC (.int 1)) (Mi.mCons (Mi.mC (.int 3)) (Mi.mCons (Mi.m2 Mi.bPow (Mi.mC (.int 10)) (Mi.mC (.int 30))) Mi.mNil))))) Mi.mNil))) (Mi.gNm 6)) (
    Mi.mSeq (Mi.mExpr (Mi.mMeth 0 "fuse" m_Disk_fuse (Mi.mVar 3) (Mi.mCons (Mi.mVar 6) Mi.mNil))) (
    Mi.mSetK (Mi.mVar 4) (Mi.mC (.str "fuse")) (Mi.mVar 6)))) Mi.mSkip) (
    Mi.mSeq (Mi.mIfS (Mi.mTnot (Mi.mTb (Mi.mCall m_law_is_call_right (Mi.mCons (Mi.mVar 1) (Mi.mCons (Mi.mVar 3) (Mi.mCons (Mi.mVar 4) Mi.mNil)))))) (Mi.mRet (Mi.mC (.bl false))) Mi.mSkip) (
    Mi.mSeq (Mi.mAsg (Mi.mCall m_law_draw (Mi.mCons (Mi.mVar 1) (Mi.mCons (Mi.mCall m_law_many (Mi.mCons (Mi.mVar 2) Mi.mNil)) Mi.mNil))) (Mi.gNm 8)) (
    Mi.mIfS (Mi.mTb (Mi.mReprEq true (Mi.mTup (Mi.mCons (Mi.mMeth 0 "read" m_Disk_read (Mi.mVar 3) (Mi.mCons (Mi.mVar 8) Mi.mNil)) (Mi.mCons (Mi.mB Mi.fLen (Mi.mCons (Mi.mMeth 0 "waiting" m_Disk_waiting (Mi.mVar 3) Mi.mNil) Mi.mNil)) Mi.mNil))) (Mi.mTup (Mi.mCons (Mi.mCall m_law_read (Mi.mCons (Mi.mVar 4) (Mi.mCons (Mi.mVar 8) Mi.mNil))) (Mi.mCons (Mi.mB Mi.fLen (Mi.mCons (Mi.m2 Mi.bSubs (Mi.mVar 4) (Mi.mC (.str "wait"))) Mi.mNil)) Mi.mNil))))) (Mi.mRet (Mi.mC (.bl false))) Mi.mSkip)))
noncomputable def qf_law_1 : MS :=
    Mi.mFor qi_law_1 (Mi.gNm 7) qb_law_1
noncomputable def qi_law_2 : MI :=
    Mi.iRange1 (Mi.mC (.int 5))
noncomputable def qb_law_2 : MS :=
    Mi.mSeq (Mi.mAsg (Mi.mCall m_law_draw (Mi.mCons (Mi.mVar 1) (Mi.mCons (Mi.mC (.int 7)) Mi.mNil))) (Mi.gNm 6)) (
    Mi.mSeq (Mi.mIfS (Mi.mTor (Mi.mTb (Mi.m2 Mi.bGt (Mi.mVar 5) (Mi.mC (.int 0)))) (Mi.mTb (Mi.m2 (Mi.bEq false) (Mi.mCall m_law_draw (Mi.mCons (Mi.mVar 1) (Mi.mCons (Mi.mC (.int 2)) Mi.mNil))) (Mi.mC (.int 0))))) (Mi.mSeq (Mi.mIfS (Mi.mTb (mReprIs true "None" (Mi.mIf (Mi.mTb (Mi.m2 Mi.bLt (Mi.mVar 5) (Mi.mC (.int 3)))) (Mi.mMeth 0 "fuse" m_Disk_fuse (Mi.mVar 3) (Mi.mCons (Mi.mVar 6) Mi.mNil)) (Mi.mMethK 0 "fuse" m_Disk_fuse [0, 1] (Mi.mVar 3) Mi.mNil (Mi.mCons (Mi.mVar 6) Mi.mNil))))) (Mi.mRet (Mi.mC (.bl false))) Mi.mSkip) (
    Mi.mSetK (Mi.mVar 4) (Mi.mC (.str "fuse")) (Mi.mVar 6))) Mi.mSkip) (
    Mi.mSeq qf_law_1 (
    Mi.mSeq (Mi.mIfS (Mi.mTb (Mi.mReprEq true (Mi.mTup (Mi.mCons (Mi.mMeth 0 "sizes" m_Disk_sizes (Mi.mVar 3) Mi.mNil) (Mi.mCons (Mi.mMeth 0 "waiting" m_Disk_waiting (Mi.mVar 3) Mi.mNil) (Mi.mCons (Mi.mMeth 0 "standing" m_Disk_standing (Mi.mVar 3) Mi.mNil) Mi.mNil)))) (Mi.mTup (Mi.mCons (Mi.mVar 2) (Mi.mCons (Mi.mB Mi.fTuple (Mi.mCons (Mi.m2 Mi.bSubs (Mi.mVar 4) (Mi.mC (.str "wait"))) Mi.mNil)) (Mi.mCons (Mi.mB Mi.fTuple (Mi.mCons (Mi.m2 Mi.bSubs (Mi.mVar 4) (Mi.mC (.str "stand"))) Mi.mNil)) Mi.mNil)))))) (Mi.mRet (Mi.mC (.bl false))) Mi.mSkip) (
    Mi.mIfS (Mi.mTb (Mi.m2 Mi.bGt (Mi.mCall m_law_draw (Mi.mCons (Mi.mVar 1) (Mi.mCons (Mi.mC (.int 4)) Mi.mNil))) (Mi.mC (.int 0)))) (Mi.mSeq (Mi.mAsg (Mi.mCall m_law_keep (Mi.mCons (Mi.mVar 1) (Mi.mCons (Mi.mB Mi.fLen (Mi.mCons (Mi.m2 Mi.bSubs (Mi.mVar 4) (Mi.mC (.str "wait"))) Mi.mNil)) Mi.mNil))) (Mi.gNm 9)) (
    Mi.mSeq (Mi.mExpr (Mi.mMeth 0 "cut" m_Disk_cut (Mi.mVar 3) (Mi.mCons (Mi.mVar 9) Mi.mNil))) (
    Mi.mSeq (Mi.mExpr (Mi.mCall m_law_fell (Mi.mCons (Mi.mVar 4) (Mi.mCons (Mi.mVar 9) Mi.mNil)))) (
    Mi.mIfS (Mi.mTor (Mi.mTnot (Mi.mTb (Mi.mCall m_law_is_call_right (Mi.mCons (Mi.mVar 1) (Mi.mCons (Mi.mVar 3) (Mi.mCons (Mi.mVar 4) Mi.mNil)))))) (Mi.mTnot (Mi.mTb (Mi.mCall m_law_is_call_right (Mi.mCons (Mi.mVar 1) (Mi.mCons (Mi.mVar 3) (Mi.mCons (Mi.mVar 4) Mi.mNil))))))) (Mi.mRet (Mi.mC (.bl false))) Mi.mSkip)))) Mi.mSkip))))
noncomputable def qf_law_2 : MS :=
    Mi.mFor qi_law_2 (Mi.gNm 5) qb_law_2
noncomputable def b_law : MS :=
    Mi.mSeq (Mi.mAsg (Mi.mCall m_law_deck (Mi.mCons (Mi.mVar 0) Mi.mNil)) (Mi.gNm 1)) (
    Mi.mSeq (Mi.mAsg (Mi.mCall m_law_drawn_sizes (Mi.mCons (Mi.mVar 1) Mi.mNil)) (Mi.gNm 2)) (
    Mi.mSeq (Mi.mPar 3 4 (Mi.mCons (Mi.mMake 0 m_Disk_mk (Mi.mCons (Mi.m2 Mi.bSubs (Mi.mVar 2) (Mi.mC (.int 0))) (Mi.mCons (Mi.m2 Mi.bSubs (Mi.mVar 2) (Mi.mC (.int 1))) Mi.mNil))) (Mi.mCons (Mi.mCall m_law_blank (Mi.mCons (Mi.mVar 2) Mi.mNil)) Mi.mNil))) (
    Mi.mSeq qf_law_2 (
    Mi.mRet (Mi.mC (.bl true))))))
noncomputable def m_law : MF := Mi.mDef 1 9 b_law
abbrev n_law : List Str := ["script", "deck", "sizes", "disk", "it", "go", "many", "turn", "place", "keep"]
abbrev p_law : List Str := ["script"]
end Lw

namespace Lw
open PySem L2 PyProof.Rows Ms
open Mi (Dv MO Sto Sl Rs bnd ME MT MA MS MF Fl MG MGs MI)
section
variable {P : Program} {w : World} {K : PySem.W.Frag} {kx : Kx} {mg : Str → Option Value} {base : Heap}
theorem sc_is_integer : FnScope n_is_integer p_is_integer (defScope s_is_integer) := ⟨rfl, rfl, rfl, by decide +kernel, rfl, by decide +kernel, by decide +kernel⟩
theorem d_is_integer (T : Tx K kx mg base) : Bdy P w K kx mg base 0 n_is_integer "is_integer" s_is_integer b_is_integer := by
  intro f cdv A outer s H E hr hgd
  have hu := u1 hr
  have h64 := u64 hr
  have nd := sc_is_integer.nd
  exact s_one (s_ret (m_and (m_isI (t := .int) (by intro c z; cases z) T.b_isinstance T.b_int (by decide +kernel) (m_var 0)) (m_one (m_not (m_isI (t := .bool) (by intro c z; cases z) T.b_isinstance T.b_bool (by decide +kernel) (m_var 0))))))
theorem c_is_integer (T : Tx K kx mg base) : Cal P w K kx mg base 1 "is_integer" s_is_integer p_is_integer m_is_integer := cal_of T.f_is_integer sc_is_integer rfl (fun _ _ _ _ _ _ us hl => match us, hl with | [_], _ => rfl) (d_is_integer T)
theorem sc_is_between : FnScope n_is_between p_is_between (defScope s_is_between) := ⟨rfl, rfl, rfl, by decide +kernel, rfl, by decide +kernel, by decide +kernel⟩
theorem d_is_between (T : Tx K kx mg base) : Bdy P w K kx mg base 1 n_is_between "is_between" s_is_between b_is_between := by
  intro f cdv A outer s H E hr hgd
  have hu := u1 hr
  have h64 := u64 hr
  have nd := sc_is_between.nd
  exact s_one (s_ret (m_and (m_cl (c_is_integer T) hgd (hr.mono (by decide)) (m_cons (m_var 0) m_nil)) (m_one (m_chain op_le op_le b_cmp b_cmp (m_var 1) (m_var 0) (m_var 2)))))
theorem c_is_between (T : Tx K kx mg base) : Cal P w K kx mg base 2 "is_between" s_is_between p_is_between m_is_between := cal_of T.f_is_between sc_is_between rfl (fun _ _ _ _ _ _ us hl => match us, hl with | [_, _, _], _ => rfl) (d_is_between T)
theorem sc_need_sizes : FnScope n_need_sizes p_need_sizes (defScope s_need_sizes) := ⟨rfl, rfl, rfl, by decide +kernel, rfl, by decide +kernel, by decide +kernel⟩
theorem d_need_sizes (T : Tx K kx mg base) : Bdy P w K kx mg base 2 n_need_sizes "need_sizes" s_need_sizes b_need_sizes := by
  intro f cdv A outer s H E hr hgd
  have hu := u1 hr
  have h64 := u64 hr
  have nd := sc_need_sizes.nd
  exact s_seq (s_if (m_tnot (m_val (m_cl (c_is_between T) hgd (hr.mono (by decide)) (m_cons (m_var 0) (m_cons (m_globI T.c_LEAST_SEGMENTS) (m_cons (m_globI T.c_MOST_SEGMENTS) m_nil)))))) (s_one s_fail) s_nil) (
    s_one (s_if (m_tnot (m_val (m_cl (c_is_between T) hgd (hr.mono (by decide)) (m_cons (m_var 1) (m_cons (m_globI T.c_LEAST_BLOCKS) (m_cons (m_globI T.c_MOST_BLOCKS) m_nil)))))) (s_one s_fail) s_nil))
theorem c_need_sizes (T : Tx K kx mg base) : Cal P w K kx mg base 3 "need_sizes" s_need_sizes p_need_sizes m_need_sizes := cal_of T.f_need_sizes sc_need_sizes rfl (fun _ _ _ _ _ _ us hl => match us, hl with | [_, _], _ => rfl) (d_need_sizes T)
theorem sc_room_of : FnScope n_room_of p_room_of (defScope s_room_of) := ⟨rfl, rfl, rfl, by decide +kernel, rfl, by decide +kernel, by decide +kernel⟩
theorem d_room_of (T : Tx K kx mg base) : Bdy P w K kx mg base 0 n_room_of "room_of" s_room_of b_room_of := by
  intro f cdv A outer s H E hr hgd
  have hu := u1 hr
  have h64 := u64 hr
  have nd := sc_room_of.nd
  exact s_one (s_ret (m_op op_muls (b_mul false) (m_op op_sub b_sub (m_var 0) (m_globI T.c_SPARE_SEGMENTS)) (m_op op_sub b_sub (m_var 1) m_int)))
theorem c_room_of (T : Tx K kx mg base) : Cal P w K kx mg base 1 "room_of" s_room_of p_room_of m_room_of := cal_of T.f_room_of sc_room_of rfl (fun _ _ _ _ _ _ us hl => match us, hl with | [_, _], _ => rfl) (d_room_of T)
theorem sc_root_blocks_of : FnScope n_root_blocks_of p_root_blocks_of (defScope s_root_blocks_of) := ⟨rfl, rfl, rfl, by decide +kernel, rfl, by decide +kernel, by decide +kernel⟩
theorem d_root_blocks_of (T : Tx K kx mg base) : Bdy P w K kx mg base 1 n_root_blocks_of "root_blocks_of" s_root_blocks_of b_root_blocks_of := by
  intro f cdv A outer s H E hr hgd
  have hu := u1 hr
  have h64 := u64 hr
  have nd := sc_root_blocks_of.nd
  exact s_one (s_ret (m_op op_fdiv b_div (m_op op_sub b_sub (m_op op_adds (b_add false) (m_op op_adds (b_add false) (m_cl (c_room_of T) hgd (hr.mono (by decide)) (m_cons (m_var 0) (m_cons (m_var 1) m_nil))) (m_globI T.c_ROOT_WORDS)) (m_globI T.c_CONTENT)) m_int) (m_globI T.c_CONTENT)))
theorem c_root_blocks_of (T : Tx K kx mg base) : Cal P w K kx mg base 2 "root_blocks_of" s_root_blocks_of p_root_blocks_of m_root_blocks_of := cal_of T.f_root_blocks_of sc_root_blocks_of rfl (fun _ _ _ _ _ _ us hl => match us, hl with | [_, _], _ => rfl) (d_root_blocks_of T)
theorem sc_Disk_mk : FnScope n_Disk_mk p_Disk_mk (defScope s_Disk_mk) := ⟨rfl, rfl, rfl, by decide +kernel, rfl, by decide +kernel, by decide +kernel⟩
theorem d_Disk_mk (T : Tx K kx mg base) : Bdy P w K kx mg base 3 n_Disk_mk "Disk.__init__" s_Disk_mk b_Disk_mk := by
  intro f cdv A outer s H E hr hgd
  have hu := u1 hr
  have h64 := u64 hr
  have nd := sc_Disk_mk.nd
  exact s_seq (s_expr (m_cl (c_need_sizes T) hgd (hr.mono (by decide)) (m_cons (m_var 1) (m_cons (m_var 2) m_nil)))) (
    s_seq (s_setF T.a_Disk_s (m_var 0) (m_var 1)) (
    s_seq (s_setF T.a_Disk_k (m_var 0) (m_var 2)) (
    s_seq (s_setF T.a_Disk_n (m_var 0) (m_cl (c_room_of T) hgd (hr.mono (by decide)) (m_cons (m_var 1) (m_cons (m_var 2) m_nil)))) (
    s_seq (s_setF T.a_Disk_r (m_var 0) (m_cl (c_root_blocks_of T) hgd (hr.mono (by decide)) (m_cons (m_var 1) (m_cons (m_var 2) m_nil)))) (
    s_seq (s_setF T.a_Disk_blocks (m_var 0) (m_op op_muls (b_mul true) (m_lst false (m_cons (m_globT T.c_BLANK) m_nil)) (m_op op_adds (b_add false) (m_op op_muls (b_mul false) m_int (m_fld T.a_Disk_r (m_var 0))) (m_op op_muls (b_mul false) (m_var 1) (m_var 2))))) (
    s_seq (s_setF T.a_Disk_queue (m_var 0) (m_lst true m_nil)) (
    s_seq (s_setF T.a_Disk_newest (m_var 0) m_dct0) (
    s_one (s_setF T.a_Disk_left (m_var 0) m_non)))))))))
theorem c_Disk_mk (T : Tx K kx mg base) : Mak P w K kx mg base 4 0 "Disk" "Disk.__init__" s_Disk_mk p_Disk_mk m_Disk_mk := mak_of T.f_Disk_mk sc_Disk_mk rfl (fun _ _ _ _ _ _ us hl => match us, hl with | [_, _, _], _ => rfl) (d_Disk_mk T)
theorem sc_is_keep : FnScope n_is_keep p_is_keep (defScope s_is_keep) := ⟨rfl, rfl, rfl, by decide +kernel, rfl, by decide +kernel, by decide +kernel⟩
theorem d_is_keep (T : Tx K kx mg base) : Bdy P w K kx mg base 2 n_is_keep "is_keep" s_is_keep b_is_keep := by
  intro f cdv A outer s H E hr hgd
  have hu := u1 hr
  have h64 := u64 hr
  have nd := sc_is_keep.nd
  exact s_one (s_ret (m_and (m_isI (t := .tuple) (by intro c z; cases z) T.b_isinstance T.b_tuple (by decide +kernel) (m_var 0)) (m_one (m_callB (cr_all rfl) f_all T.b_all (by decide +kernel) (m_cons (m_lc false (own := [("many", 1)]) rfl nd (i_seq (m_var 0)) (blkOk_by (N := n_is_keep) (sc := defScope s_is_keep) (by decide +kernel)) (by decide) (fun _ _ _ _ _ => g_name 1 nd) (fun _ _ _ _ _ => mt_yes) (fun _ _ _ _ _ => m_cl (c_is_between T) hgd (hr.mono (by decide)) (m_cons (m_var 1) (m_cons m_int (m_cons (m_globI T.c_WORDS) m_nil))))) m_nil)))))
theorem c_is_keep (T : Tx K kx mg base) : Cal P w K kx mg base 3 "is_keep" s_is_keep p_is_keep m_is_keep := cal_of T.f_is_keep sc_is_keep rfl (fun _ _ _ _ _ _ us hl => match us, hl with | [_], _ => rfl) (d_is_keep T)
theorem sc_Disk_cut : FnScope n_Disk_cut p_Disk_cut (defScope s_Disk_cut) := ⟨rfl, rfl, rfl, by decide +kernel, rfl, by decide +kernel, by decide +kernel⟩
theorem d_Disk_cut (T : Tx K kx mg base) : Bdy P w K kx mg base 3 n_Disk_cut "Disk.cut" s_Disk_cut b_Disk_cut := by
  intro f cdv A outer s H E hr hgd
  have hu := u1 hr
  have h64 := u64 hr
  have nd := sc_Disk_cut.nd
  exact s_seq (s_if (m_tnot (m_val (m_cl (c_is_keep T) hgd (hr.mono (by decide)) (m_cons (m_var 1) m_nil)))) (s_one s_fail) s_nil) (
    s_seq (s_for PassesOwn.never rfl (i_zip T.b_zip (m_fld T.a_Disk_queue (m_var 0)) (m_var 1)) (g_tup rfl (g_cons (g_tup rfl (g_cons (g_name 2 nd) (g_cons (g_name 3 nd) g_nil))) (g_cons (g_name 4 nd) g_nil))) (
    s_one (s_setI (m_fld T.a_Disk_blocks (m_var 0)) (m_var 2) (m_op op_adds (b_add false) (m_slice false (m_var 3) mo_none (mo_some (m_var 4))) (m_slice false (m_sub hu (m_fld T.a_Disk_blocks (m_var 0)) (m_var 2)) (mo_some (m_var 4)) mo_none))))) (
    s_seq (s_setF T.a_Disk_queue (m_var 0) (m_lst true m_nil)) (
    s_seq (s_setF T.a_Disk_newest (m_var 0) m_dct0) (
    s_one (s_setF T.a_Disk_left (m_var 0) m_non)))))
theorem c_Disk_cut (T : Tx K kx mg base) : Met P w K kx mg base 4 0 "cut" "Disk.cut" s_Disk_cut p_Disk_cut m_Disk_cut := met_of T.cl_Disk T.f_Disk_cut sc_Disk_cut rfl (fun _ _ _ _ _ _ us hl => match us, hl with | [_, _], _ => rfl) (d_Disk_cut T)
theorem sc_Disk_fuse : FnScope n_Disk_fuse p_Disk_fuse (defScope s_Disk_fuse) := ⟨rfl, rfl, rfl, by decide +kernel, rfl, by decide +kernel, by decide +kernel⟩
theorem d_Disk_fuse (T : Tx K kx mg base) : Bdy P w K kx mg base 1 n_Disk_fuse "Disk.fuse" s_Disk_fuse b_Disk_fuse := by
  intro f cdv A outer s H E hr hgd
  have hu := u1 hr
  have h64 := u64 hr
  have nd := sc_Disk_fuse.nd
  exact s_seq (s_if ((m_tor (m_tnot (m_val (m_cl (c_is_integer T) hgd (hr.mono (by decide)) (m_cons (m_var 1) m_nil)))) (m_tor1 (m_cmpT op_lt b_cmp (m_var 1) m_int (nomark _)))).pt) (s_one s_fail) s_nil) (
    s_one (s_setF T.a_Disk_left (m_var 0) (m_var 1)))
theorem c_Disk_fuse (T : Tx K kx mg base) : Met P w K kx mg base 2 0 "fuse" "Disk.fuse" s_Disk_fuse p_Disk_fuse m_Disk_fuse := met_of T.cl_Disk T.f_Disk_fuse sc_Disk_fuse rfl (fun _ _ _ _ _ _ us hl => match us, hl with | [_, _], _ => rfl) (d_Disk_fuse T)
theorem sc_Disk_need_place : FnScope n_Disk_need_place p_Disk_need_place (defScope s_Disk_need_place) := ⟨rfl, rfl, rfl, by decide +kernel, rfl, by decide +kernel, by decide +kernel⟩
theorem d_Disk_need_place (T : Tx K kx mg base) : Bdy P w K kx mg base 2 n_Disk_need_place "Disk.need_place" s_Disk_need_place b_Disk_need_place := by
  intro f cdv A outer s H E hr hgd
  have hu := u1 hr
  have h64 := u64 hr
  have nd := sc_Disk_need_place.nd
  exact s_one (s_if (m_tnot (m_val (m_cl (c_is_between T) hgd (hr.mono (by decide)) (m_cons (m_var 1) (m_cons m_int (m_cons (m_op op_sub b_sub (m_callB call_len_seq f_len T.b_len (by decide +kernel) (m_cons (m_fld T.a_Disk_blocks (m_var 0)) m_nil)) m_int) m_nil)))))) (s_one s_fail) s_nil)
theorem c_Disk_need_place (T : Tx K kx mg base) : Met P w K kx mg base 3 0 "need_place" "Disk.need_place" s_Disk_need_place p_Disk_need_place m_Disk_need_place := met_of T.cl_Disk T.f_Disk_need_place sc_Disk_need_place rfl (fun _ _ _ _ _ _ us hl => match us, hl with | [_, _], _ => rfl) (d_Disk_need_place T)
theorem sc_Disk_read : FnScope n_Disk_read p_Disk_read (defScope s_Disk_read) := ⟨rfl, rfl, rfl, by decide +kernel, rfl, by decide +kernel, by decide +kernel⟩
theorem d_Disk_read (T : Tx K kx mg base) : Bdy P w K kx mg base 3 n_Disk_read "Disk.read" s_Disk_read b_Disk_read := by
  intro f cdv A outer s H E hr hgd
  have hu := u1 hr
  have h64 := u64 hr
  have nd := sc_Disk_read.nd
  exact s_seq (s_expr (m_mt (c_Disk_need_place T) hgd (hr.mono (by decide)) (m_var 0) (m_cons (m_var 1) m_nil))) (
    s_one (s_ret (m_get2 hu (m_fld T.a_Disk_newest (m_var 0)) (m_var 1) (m_sub hu (m_fld T.a_Disk_blocks (m_var 0)) (m_var 1)))))
theorem c_Disk_read (T : Tx K kx mg base) : Met P w K kx mg base 4 0 "read" "Disk.read" s_Disk_read p_Disk_read m_Disk_read := met_of T.cl_Disk T.f_Disk_read sc_Disk_read rfl (fun _ _ _ _ _ _ us hl => match us, hl with | [_, _], _ => rfl) (d_Disk_read T)
theorem sc_Disk_sizes : FnScope n_Disk_sizes p_Disk_sizes (defScope s_Disk_sizes) := ⟨rfl, rfl, rfl, by decide +kernel, rfl, by decide +kernel, by decide +kernel⟩
theorem d_Disk_sizes (T : Tx K kx mg base) : Bdy P w K kx mg base 0 n_Disk_sizes "Disk.sizes" s_Disk_sizes b_Disk_sizes := by
  intro f cdv A outer s H E hr hgd
  have hu := u1 hr
  have h64 := u64 hr
  have nd := sc_Disk_sizes.nd
  exact s_one (s_ret (m_tup (m_cons (m_fld T.a_Disk_s (m_var 0)) (m_cons (m_fld T.a_Disk_k (m_var 0)) (m_cons (m_fld T.a_Disk_n (m_var 0)) (m_cons (m_fld T.a_Disk_r (m_var 0)) m_nil))))))
theorem c_Disk_sizes (T : Tx K kx mg base) : Met P w K kx mg base 1 0 "sizes" "Disk.sizes" s_Disk_sizes p_Disk_sizes m_Disk_sizes := met_of T.cl_Disk T.f_Disk_sizes sc_Disk_sizes rfl (fun _ _ _ _ _ _ us hl => match us, hl with | [_], _ => rfl) (d_Disk_sizes T)
theorem sc_Disk_standing : FnScope n_Disk_standing p_Disk_standing (defScope s_Disk_standing) := ⟨rfl, rfl, rfl, by decide +kernel, rfl, by decide +kernel, by decide +kernel⟩
theorem d_Disk_standing (T : Tx K kx mg base) : Bdy P w K kx mg base 0 n_Disk_standing "Disk.standing" s_Disk_standing b_Disk_standing := by
  intro f cdv A outer s H E hr hgd
  have hu := u1 hr
  have h64 := u64 hr
  have nd := sc_Disk_standing.nd
  exact s_one (s_ret (m_callT call_tuple_of f_tuple T.b_tuple (by decide +kernel) (m_cons (m_fld T.a_Disk_blocks (m_var 0)) m_nil)))
theorem c_Disk_standing (T : Tx K kx mg base) : Met P w K kx mg base 1 0 "standing" "Disk.standing" s_Disk_standing p_Disk_standing m_Disk_standing := met_of T.cl_Disk T.f_Disk_standing sc_Disk_standing rfl (fun _ _ _ _ _ _ us hl => match us, hl with | [_], _ => rfl) (d_Disk_standing T)
theorem sc_Disk_waiting : FnScope n_Disk_waiting p_Disk_waiting (defScope s_Disk_waiting) := ⟨rfl, rfl, rfl, by decide +kernel, rfl, by decide +kernel, by decide +kernel⟩
theorem d_Disk_waiting (T : Tx K kx mg base) : Bdy P w K kx mg base 0 n_Disk_waiting "Disk.waiting" s_Disk_waiting b_Disk_waiting := by
  intro f cdv A outer s H E hr hgd
  have hu := u1 hr
  have h64 := u64 hr
  have nd := sc_Disk_waiting.nd
  exact s_one (s_ret (m_callT call_tuple_of f_tuple T.b_tuple (by decide +kernel) (m_cons (m_fld T.a_Disk_queue (m_var 0)) m_nil)))
theorem c_Disk_waiting (T : Tx K kx mg base) : Met P w K kx mg base 1 0 "waiting" "Disk.waiting" s_Disk_waiting p_Disk_waiting m_Disk_waiting := met_of T.cl_Disk T.f_Disk_waiting sc_Disk_waiting rfl (fun _ _ _ _ _ _ us hl => match us, hl with | [_], _ => rfl) (d_Disk_waiting T)
theorem sc_law_many : FnScope n_law_many p_law_many (defScope s_law_many) := ⟨rfl, rfl, rfl, by decide +kernel, rfl, by decide +kernel, by decide +kernel⟩
theorem d_law_many (T : Tx K kx mg base) : Bdy P w K kx mg base 0 n_law_many "_law_many" s_law_many b_law_many := by
  intro f cdv A outer s H E hr hgd
  have hu := u1 hr
  have h64 := u64 hr
  have nd := sc_law_many.nd
  exact s_one (s_ret (m_op op_adds (b_add false) (m_op op_muls (b_mul false) m_int (m_sub hu (m_var 0) m_int)) (m_op op_muls (b_mul false) (m_sub hu (m_var 0) m_int) (m_sub hu (m_var 0) m_int))))
theorem c_law_many (T : Tx K kx mg base) : Cal P w K kx mg base 1 "_law_many" s_law_many p_law_many m_law_many := cal_of T.f_law_many sc_law_many rfl (fun _ _ _ _ _ _ us hl => match us, hl with | [_], _ => rfl) (d_law_many T)
theorem sc_law_blank : FnScope n_law_blank p_law_blank (defScope s_law_blank) := ⟨rfl, rfl, rfl, by decide +kernel, rfl, by decide +kernel, by decide +kernel⟩
theorem d_law_blank (T : Tx K kx mg base) : Bdy P w K kx mg base 1 n_law_blank "_law_blank" s_law_blank b_law_blank := by
  intro f cdv A outer s H E hr hgd
  have hu := u1 hr
  have h64 := u64 hr
  have nd := sc_law_blank.nd
  exact s_one (s_ret (m_disp (m_pcons m_str (m_var 0) (m_pcons m_str (m_op op_muls (b_mul true) (m_lst false (m_cons (m_op op_muls (b_mul false) (m_tup (m_cons m_int m_nil)) m_int) m_nil)) (m_cl (c_law_many T) hgd (hr.mono (by decide)) (m_cons (m_var 0) m_nil))) (m_pcons m_str (m_lst false m_nil) (m_pcons m_str m_non m_pnil))))))
theorem c_law_blank (T : Tx K kx mg base) : Cal P w K kx mg base 2 "_law_blank" s_law_blank p_law_blank m_law_blank := cal_of T.f_law_blank sc_law_blank rfl (fun _ _ _ _ _ _ us hl => match us, hl with | [_], _ => rfl) (d_law_blank T)
theorem sc_law_deck : FnScope n_law_deck p_law_deck (defScope s_law_deck) := ⟨rfl, rfl, rfl, by decide +kernel, rfl, by decide +kernel, by decide +kernel⟩
theorem d_law_deck (T : Tx K kx mg base) : Bdy P w K kx mg base 0 n_law_deck "_law_deck" s_law_deck b_law_deck := by
  intro f cdv A outer s H E hr hgd
  have hu := u1 hr
  have h64 := u64 hr
  have nd := sc_law_deck.nd
  exact s_seq (s_set 1 nd m_int) (
    s_seq (s_for PassesOwn.never rfl (i_seq (m_slice false (m_var 0) mo_none (mo_some m_int))) (g_name 2 nd) (
    s_one (s_set 1 nd (m_op op_mod b_mod (m_callT call_int1 f_int T.b_int (by decide +kernel) (m_cons (m_op op_adds (b_add false) (m_op op_adds (b_add false) (m_op op_muls (b_mul false) (m_var 1) m_int) (m_op op_mod b_mod (m_callT call_int1 f_int T.b_int (by decide +kernel) (m_cons (m_var 2) m_nil)) m_int)) m_int) m_nil)) m_int)))) (
    s_one (s_ret (m_disp (m_pcons m_str (m_rev true (m_lc false (own := [("cell", 2)]) rfl nd (i_seq (m_slice false (m_var 0) mo_none (mo_some m_int))) (blkOk_by (N := n_law_deck) (sc := defScope s_law_deck) (by decide +kernel)) (by decide) (fun _ _ _ _ _ => g_name 2 nd) (fun _ _ _ _ _ => mt_yes) (fun _ _ _ _ _ => m_callT call_int1 f_int T.b_int (by decide +kernel) (m_cons (m_var 2) m_nil)))) (m_pcons m_str (m_var 1) (m_pcons m_str m_int m_pnil)))))))
theorem c_law_deck (T : Tx K kx mg base) : Cal P w K kx mg base 1 "_law_deck" s_law_deck p_law_deck m_law_deck := cal_of T.f_law_deck sc_law_deck rfl (fun _ _ _ _ _ _ us hl => match us, hl with | [_], _ => rfl) (d_law_deck T)
theorem sc_law_draw : FnScope n_law_draw p_law_draw (defScope s_law_draw) := ⟨rfl, rfl, rfl, by decide +kernel, rfl, by decide +kernel, by decide +kernel⟩
theorem d_law_draw (T : Tx K kx mg base) : Bdy P w K kx mg base 0 n_law_draw "_law_draw" s_law_draw b_law_draw := by
  intro f cdv A outer s H E hr hgd
  have hu := u1 hr
  have h64 := u64 hr
  have nd := sc_law_draw.nd
  exact s_seq (s_setK hu (m_var 0) m_str (m_op op_adds (b_add false) (m_sub hu (m_var 0) m_str) m_int)) (
    s_seq (s_set 2 nd (m_op op_adds (b_add false) (m_sub hu (m_var 0) m_str) (m_op op_muls (b_mul false) m_int (m_sub hu (m_var 0) m_str)))) (
    s_seq (s_if (m_cmpT (op_nes h64) b_ne (m_sub hu (m_var 0) m_str) (m_lst false m_nil) (nomark _)) (s_seq (s_set 3 nd (m_pop (m_sub hu (m_var 0) m_str))) (
    s_seq (s_if (m_cmpT op_ge b_cmp (m_var 3) (m_op op_pow b_pow m_int m_int) (nomark _)) (s_seq (s_expr (m_append (m_sub hu (m_var 0) m_str) (m_op op_fdiv b_div (m_var 3) (m_callB (call_max2 rfl) f_max T.b_max (by decide +kernel) (m_cons m_int (m_cons (m_var 1) m_nil)))))) (
    s_one (s_ret (m_op op_mod b_mod (m_callT call_int1 f_int T.b_int (by decide +kernel) (m_cons (m_var 3) m_nil)) (m_var 1))))) s_nil) (
    s_one (s_set 2 nd (m_op op_adds (b_add false) (m_var 2) (m_op op_mod b_mod (m_callT call_int1 f_int T.b_int (by decide +kernel) (m_cons (m_var 3) m_nil)) m_int)))))) s_nil) (
    s_seq (s_set 2 nd (m_op op_mod b_mod (m_callT call_int1 f_int T.b_int (by decide +kernel) (m_cons (m_op op_adds (b_add false) (m_op op_muls (b_mul false) (m_var 2) m_int) m_int) m_nil)) m_int)) (
    s_seq (s_set 2 nd (m_op op_mod b_mod (m_callT call_int1 f_int T.b_int (by decide +kernel) (m_cons (m_op op_adds (b_add false) (m_op op_adds (b_add false) (m_op op_muls (b_mul false) (m_var 2) (m_var 2)) (m_op op_muls (b_mul false) m_int (m_sub hu (m_var 0) m_str))) m_int) m_nil)) m_int)) (
    s_seq (s_set 2 nd (m_op op_mod b_mod (m_callT call_int1 f_int T.b_int (by decide +kernel) (m_cons (m_op op_muls (b_mul false) (m_var 2) m_int) m_nil)) m_int)) (
    s_one (s_ret (m_op op_mod b_mod (m_callT call_int1 f_int T.b_int (by decide +kernel) (m_cons (m_op op_fdiv b_div (m_var 2) m_int) m_nil)) (m_var 1)))))))))
theorem c_law_draw (T : Tx K kx mg base) : Cal P w K kx mg base 1 "_law_draw" s_law_draw p_law_draw m_law_draw := cal_of T.f_law_draw sc_law_draw rfl (fun _ _ _ _ _ _ us hl => match us, hl with | [_, _], _ => rfl) (d_law_draw T)
theorem sc_law_sizes : FnScope n_law_sizes p_law_sizes (defScope s_law_sizes) := ⟨rfl, rfl, rfl, by decide +kernel, rfl, by decide +kernel, by decide +kernel⟩
theorem d_law_sizes (T : Tx K kx mg base) : Bdy P w K kx mg base 0 n_law_sizes "_law_sizes" s_law_sizes b_law_sizes := by
  intro f cdv A outer s H E hr hgd
  have hu := u1 hr
  have h64 := u64 hr
  have nd := sc_law_sizes.nd
  exact s_seq (s_set 2 nd (m_op op_muls (b_mul false) (m_op op_sub b_sub (m_var 0) m_int) (m_op op_sub b_sub (m_var 1) m_int))) (
    s_one (s_ret (m_tup (m_cons (m_var 0) (m_cons (m_var 1) (m_cons (m_var 2) (m_cons (m_op op_fdiv b_div (m_op op_adds (b_add false) (m_op op_adds (b_add false) (m_var 2) m_int) m_int) m_int) m_nil)))))))
theorem c_law_sizes (T : Tx K kx mg base) : Cal P w K kx mg base 1 "_law_sizes" s_law_sizes p_law_sizes m_law_sizes := cal_of T.f_law_sizes sc_law_sizes rfl (fun _ _ _ _ _ _ us hl => match us, hl with | [_, _], _ => rfl) (d_law_sizes T)
theorem sc_law_drawn_sizes : FnScope n_law_drawn_sizes p_law_drawn_sizes (defScope s_law_drawn_sizes) := ⟨rfl, rfl, rfl, by decide +kernel, rfl, by decide +kernel, by decide +kernel⟩
theorem d_law_drawn_sizes (T : Tx K kx mg base) : Bdy P w K kx mg base 1 n_law_drawn_sizes "_law_drawn_sizes" s_law_drawn_sizes b_law_drawn_sizes := by
  intro f cdv A outer s H E hr hgd
  have hu := u1 hr
  have h64 := u64 hr
  have nd := sc_law_drawn_sizes.nd
  exact s_seq (s_if (m_cmpT (op_eqs h64) b_eq (m_cl (c_law_draw T) hgd (hr.mono (by decide)) (m_cons (m_var 0) (m_cons m_int m_nil))) m_int (nomark _)) (s_one (s_ret (m_cl (c_law_sizes T) hgd (hr.mono (by decide)) (m_cons (m_op op_adds (b_add false) m_int (m_cl (c_law_draw T) hgd (hr.mono (by decide)) (m_cons (m_var 0) (m_cons m_int m_nil)))) (m_cons (m_op op_adds (b_add false) m_int (m_cl (c_law_draw T) hgd (hr.mono (by decide)) (m_cons (m_var 0) (m_cons m_int m_nil)))) m_nil))))) s_nil) (
    s_one (s_ret (m_cl (c_law_sizes T) hgd (hr.mono (by decide)) (m_cons (m_op op_adds (b_add false) m_int (m_cl (c_law_draw T) hgd (hr.mono (by decide)) (m_cons (m_var 0) (m_cons m_int m_nil)))) (m_cons (m_op op_adds (b_add false) m_int (m_cl (c_law_draw T) hgd (hr.mono (by decide)) (m_cons (m_var 0) (m_cons m_int m_nil)))) m_nil)))))
theorem c_law_drawn_sizes (T : Tx K kx mg base) : Cal P w K kx mg base 2 "_law_drawn_sizes" s_law_drawn_sizes p_law_drawn_sizes m_law_drawn_sizes := cal_of T.f_law_drawn_sizes sc_law_drawn_sizes rfl (fun _ _ _ _ _ _ us hl => match us, hl with | [_], _ => rfl) (d_law_drawn_sizes T)
theorem sc_law_fell : FnScope n_law_fell p_law_fell (defScope s_law_fell) := ⟨rfl, rfl, rfl, by decide +kernel, rfl, by decide +kernel, by decide +kernel⟩
theorem d_law_fell (T : Tx K kx mg base) : Bdy P w K kx mg base 0 n_law_fell "_law_fell" s_law_fell b_law_fell := by
  intro f cdv A outer s H E hr hgd
  have hu := u1 hr
  have h64 := u64 hr
  have nd := sc_law_fell.nd
  exact s_seq (s_set 2 nd (m_sub hu (m_var 0) m_str)) (
    s_seq (s_for PassesOwn.never rfl (i_enum T.b_enumerate (m_sub hu (m_var 0) m_str)) (g_tup rfl (g_cons (g_name 3 nd) (g_cons (g_tup rfl (g_cons (g_name 4 nd) (g_cons (g_name 5 nd) g_nil))) g_nil))) (
    s_seq (s_set 6 nd (m_if (m_cmpT op_lt b_cmp (m_var 3) (m_callB call_len_seq f_len T.b_len (by decide +kernel) (m_cons (m_var 1) m_nil)) (nomark _)) (m_sub hu (m_var 1) (m_var 3)) m_int)) (
    s_one (s_setI (m_var 2) (m_var 4) (m_op op_adds (b_add false) (m_slice false (m_var 5) mo_none (mo_some (m_var 6))) (m_slice false (m_sub hu (m_var 2) (m_var 4)) (mo_some (m_var 6)) mo_none)))))) (
    s_seq (s_setK hu (m_var 0) m_str (m_lst false m_nil)) (
    s_one (s_setK hu (m_var 0) m_str m_non))))
theorem c_law_fell (T : Tx K kx mg base) : Cal P w K kx mg base 1 "_law_fell" s_law_fell p_law_fell m_law_fell := cal_of T.f_law_fell sc_law_fell rfl (fun _ _ _ _ _ _ us hl => match us, hl with | [_, _], _ => rfl) (d_law_fell T)
theorem sc_Disk_burn_x : FnScope n_Disk_burn_x p_Disk_burn_x (defScope s_Disk_burn_x) := ⟨rfl, rfl, rfl, by decide +kernel, rfl, by decide +kernel, by decide +kernel⟩
theorem d_Disk_burn_x (T : Tx K kx mg base) : BdyX P w K kx mg base 0 n_Disk_burn_x "Disk.burn" s_Disk_burn_x b_Disk_burn_x := by
  intro f cdv A outer s H E hr hgd tk
  have hu := u1 hr
  have h64 := u64 hr
  have nd := sc_Disk_burn_x.nd
  exact x_one (x_if (m_isNT (neg := true) rfl (m_fld T.a_Disk_left (m_var 0))) (x_seq (x_if (m_cmpT (op_eqs h64) b_eq (m_fld T.a_Disk_left (m_var 0)) m_int (nomark _)) (x_one (x_raise rfl tk T.x_PowerCut)) (xs_lift s_nil)) (
    x_one (x_lift (s_augF T.a_Disk_left in_sub b_subR (m_var 0) m_int)))) (xs_lift s_nil))
theorem c_Disk_burn_x (T : Tx K kx mg base) : MetX P w K kx mg base 1 0 "burn" "Disk.burn" s_Disk_burn_x p_Disk_burn_x m_Disk_burn_x := mex_of T.cl_Disk T.f_Disk_burn_x sc_Disk_burn_x rfl (fun _ _ _ _ _ _ us hl => match us, hl with | [_], _ => rfl) (d_Disk_burn_x T)
theorem sc_Disk_force_x : FnScope n_Disk_force_x p_Disk_force_x (defScope s_Disk_force_x) := ⟨rfl, rfl, rfl, by decide +kernel, rfl, by decide +kernel, by decide +kernel⟩
theorem d_Disk_force_x (T : Tx K kx mg base) : BdyX P w K kx mg base 1 n_Disk_force_x "Disk.force" s_Disk_force_x b_Disk_force_x := by
  intro f cdv A outer s H E hr hgd tk
  have hu := u1 hr
  have h64 := u64 hr
  have nd := sc_Disk_force_x.nd
  exact x_seq (x_expr (x_mt0 (c_Disk_burn_x T) hgd (hr.mono (by decide)) tk (m_var 0))) (
    x_seq (x_lift (s_for PassesOwn.never rfl (i_seq (m_fld T.a_Disk_queue (m_var 0))) (g_tup rfl (g_cons (g_name 1 nd) (g_cons (g_name 2 nd) g_nil))) (
    s_one (s_setI (m_fld T.a_Disk_blocks (m_var 0)) (m_var 1) (m_var 2))))) (
    x_seq (x_lift (s_setF T.a_Disk_queue (m_var 0) (m_lst true m_nil))) (
    x_one (x_lift (s_setF T.a_Disk_newest (m_var 0) m_dct0)))))
theorem c_Disk_force_x (T : Tx K kx mg base) : MetX P w K kx mg base 2 0 "force" "Disk.force" s_Disk_force_x p_Disk_force_x m_Disk_force_x := mex_of T.cl_Disk T.f_Disk_force_x sc_Disk_force_x rfl (fun _ _ _ _ _ _ us hl => match us, hl with | [_], _ => rfl) (d_Disk_force_x T)
theorem sc_Disk_need_place_x : FnScope n_Disk_need_place_x p_Disk_need_place_x (defScope s_Disk_need_place_x) := ⟨rfl, rfl, rfl, by decide +kernel, rfl, by decide +kernel, by decide +kernel⟩
theorem d_Disk_need_place_x (T : Tx K kx mg base) : BdyX P w K kx mg base 2 n_Disk_need_place_x "Disk.need_place" s_Disk_need_place_x b_Disk_need_place_x := by
  intro f cdv A outer s H E hr hgd tk
  have hu := u1 hr
  have h64 := u64 hr
  have nd := sc_Disk_need_place_x.nd
  exact x_one (x_if (m_tnot (m_val (m_cl (c_is_between T) hgd (hr.mono (by decide)) (m_cons (m_var 1) (m_cons m_int (m_cons (m_op op_sub b_sub (m_callB call_len_seq f_len T.b_len (by decide +kernel) (m_cons (m_fld T.a_Disk_blocks (m_var 0)) m_nil)) m_int) m_nil)))))) (x_one (x_raiseV rfl tk T.x_BadPlace (k := 0) (hr.mono (by decide)) (m_var 1))) (xs_lift s_nil))
theorem c_Disk_need_place_x (T : Tx K kx mg base) : MetX P w K kx mg base 3 0 "need_place" "Disk.need_place" s_Disk_need_place_x p_Disk_need_place_x m_Disk_need_place_x := mex_of T.cl_Disk T.f_Disk_need_place sc_Disk_need_place_x rfl (fun _ _ _ _ _ _ us hl => match us, hl with | [_, _], _ => rfl) (d_Disk_need_place_x T)
theorem sc_is_word : FnScope n_is_word p_is_word (defScope s_is_word) := ⟨rfl, rfl, rfl, by decide +kernel, rfl, by decide +kernel, by decide +kernel⟩
theorem d_is_word (T : Tx K kx mg base) : Bdy P w K kx mg base 2 n_is_word "is_word" s_is_word b_is_word := by
  intro f cdv A outer s H E hr hgd
  have hu := u1 hr
  have h64 := u64 hr
  have nd := sc_is_word.nd
  exact s_one (s_ret (m_cl (c_is_between T) hgd (hr.mono (by decide)) (m_cons (m_var 0) (m_cons m_int (m_cons (m_globI T.c_MOST_WORD) m_nil)))))
theorem c_is_word (T : Tx K kx mg base) : Cal P w K kx mg base 3 "is_word" s_is_word p_is_word m_is_word := cal_of T.f_is_word sc_is_word rfl (fun _ _ _ _ _ _ us hl => match us, hl with | [_], _ => rfl) (d_is_word T)
theorem sc_are_words : FnScope n_are_words p_are_words (defScope s_are_words) := ⟨rfl, rfl, rfl, by decide +kernel, rfl, by decide +kernel, by decide +kernel⟩
theorem d_are_words (T : Tx K kx mg base) : Bdy P w K kx mg base 3 n_are_words "are_words" s_are_words b_are_words := by
  intro f cdv A outer s H E hr hgd
  have hu := u1 hr
  have h64 := u64 hr
  have nd := sc_are_words.nd
  exact s_one (s_ret (m_and (m_isI (t := .tuple) (by intro c z; cases z) T.b_isinstance T.b_tuple (by decide +kernel) (m_var 0)) (m_and (m_cmp (op_eqs h64) b_eq (m_callB call_len_seq f_len T.b_len (by decide +kernel) (m_cons (m_var 0) m_nil)) (m_var 1) (nomark _)) (m_one (m_callB (cr_all rfl) f_all T.b_all (by decide +kernel) (m_cons (m_lc false (own := [("word", 2)]) rfl nd (i_seq (m_var 0)) (blkOk_by (N := n_are_words) (sc := defScope s_are_words) (by decide +kernel)) (by decide) (fun _ _ _ _ _ => g_name 2 nd) (fun _ _ _ _ _ => mt_yes) (fun _ _ _ _ _ => m_cl (c_is_word T) hgd (hr.mono (by decide)) (m_cons (m_var 2) m_nil))) m_nil))))))
theorem c_are_words (T : Tx K kx mg base) : Cal P w K kx mg base 4 "are_words" s_are_words p_are_words m_are_words := cal_of T.f_are_words sc_are_words rfl (fun _ _ _ _ _ _ us hl => match us, hl with | [_, _], _ => rfl) (d_are_words T)
theorem sc_is_block : FnScope n_is_block p_is_block (defScope s_is_block) := ⟨rfl, rfl, rfl, by decide +kernel, rfl, by decide +kernel, by decide +kernel⟩
theorem d_is_block (T : Tx K kx mg base) : Bdy P w K kx mg base 4 n_is_block "is_block" s_is_block b_is_block := by
  intro f cdv A outer s H E hr hgd
  have hu := u1 hr
  have h64 := u64 hr
  have nd := sc_is_block.nd
  exact s_one (s_ret (m_cl (c_are_words T) hgd (hr.mono (by decide)) (m_cons (m_var 0) (m_cons (m_globI T.c_WORDS) m_nil))))
theorem c_is_block (T : Tx K kx mg base) : Cal P w K kx mg base 5 "is_block" s_is_block p_is_block m_is_block := cal_of T.f_is_block sc_is_block rfl (fun _ _ _ _ _ _ us hl => match us, hl with | [_], _ => rfl) (d_is_block T)
theorem sc_Disk_write_x : FnScope n_Disk_write_x p_Disk_write_x (defScope s_Disk_write_x) := ⟨rfl, rfl, rfl, by decide +kernel, rfl, by decide +kernel, by decide +kernel⟩
theorem d_Disk_write_x (T : Tx K kx mg base) : BdyX P w K kx mg base 5 n_Disk_write_x "Disk.write" s_Disk_write_x b_Disk_write_x := by
  intro f cdv A outer s H E hr hgd tk
  have hu := u1 hr
  have h64 := u64 hr
  have nd := sc_Disk_write_x.nd
  exact x_seq (x_expr (x_mt (c_Disk_need_place_x T) hgd (hr.mono (by decide)) tk (m_var 0) (m_cons (m_var 1) m_nil))) (
    x_seq (x_if (m_tnot (m_val (m_cl (c_is_block T) hgd (hr.mono (by decide)) (m_cons (m_var 2) m_nil)))) (x_one (x_raiseV rfl tk T.x_BadBlock (k := 0) (hr.mono (by decide)) (m_var 2))) (xs_lift s_nil)) (
    x_seq (x_expr (x_mt0 (c_Disk_burn_x T) hgd (hr.mono (by decide)) tk (m_var 0))) (
    x_seq (x_lift (s_expr (m_append (m_fld T.a_Disk_queue (m_var 0)) (m_tup (m_cons (m_var 1) (m_cons (m_var 2) m_nil)))))) (
    x_one (x_lift (s_setK hu (m_fld T.a_Disk_newest (m_var 0)) (m_var 1) (m_var 2)))))))
theorem c_Disk_write_x (T : Tx K kx mg base) : MetX P w K kx mg base 6 0 "write" "Disk.write" s_Disk_write_x p_Disk_write_x m_Disk_write_x := mex_of T.cl_Disk T.f_Disk_write_x sc_Disk_write_x rfl (fun _ _ _ _ _ _ us hl => match us, hl with | [_, _, _], _ => rfl) (d_Disk_write_x T)
theorem sc_Disk_cut_x : FnScope n_Disk_cut_x p_Disk_cut_x (defScope s_Disk_cut_x) := ⟨rfl, rfl, rfl, by decide +kernel, rfl, by decide +kernel, by decide +kernel⟩
theorem d_Disk_cut_x (T : Tx K kx mg base) : BdyX P w K kx mg base 3 n_Disk_cut_x "Disk.cut" s_Disk_cut_x b_Disk_cut_x := by
  intro f cdv A outer s H E hr hgd tk
  have hu := u1 hr
  have h64 := u64 hr
  have nd := sc_Disk_cut_x.nd
  exact x_seq (x_if (m_tnot (m_val (m_cl (c_is_keep T) hgd (hr.mono (by decide)) (m_cons (m_var 1) m_nil)))) (x_one (x_raiseV rfl tk T.x_BadCut (k := 0) (hr.mono (by decide)) (m_var 1))) (xs_lift s_nil)) (
    x_seq (x_lift (s_for PassesOwn.never rfl (i_zip T.b_zip (m_fld T.a_Disk_queue (m_var 0)) (m_var 1)) (g_tup rfl (g_cons (g_tup rfl (g_cons (g_name 2 nd) (g_cons (g_name 3 nd) g_nil))) (g_cons (g_name 4 nd) g_nil))) (
    s_one (s_setI (m_fld T.a_Disk_blocks (m_var 0)) (m_var 2) (m_op op_adds (b_add false) (m_slice false (m_var 3) mo_none (mo_some (m_var 4))) (m_slice false (m_sub hu (m_fld T.a_Disk_blocks (m_var 0)) (m_var 2)) (mo_some (m_var 4)) mo_none)))))) (
    x_seq (x_lift (s_setF T.a_Disk_queue (m_var 0) (m_lst true m_nil))) (
    x_seq (x_lift (s_setF T.a_Disk_newest (m_var 0) m_dct0)) (
    x_one (x_lift (s_setF T.a_Disk_left (m_var 0) m_non))))))
theorem c_Disk_cut_x (T : Tx K kx mg base) : MetX P w K kx mg base 4 0 "cut" "Disk.cut" s_Disk_cut_x p_Disk_cut_x m_Disk_cut_x := mex_of T.cl_Disk T.f_Disk_cut sc_Disk_cut_x rfl (fun _ _ _ _ _ _ us hl => match us, hl with | [_, _], _ => rfl) (d_Disk_cut_x T)
theorem sc_Disk_fuse_x : FnScope n_Disk_fuse_x p_Disk_fuse_x (defScope s_Disk_fuse_x) := ⟨rfl, rfl, rfl, by decide +kernel, rfl, by decide +kernel, by decide +kernel⟩
theorem d_Disk_fuse_x (T : Tx K kx mg base) : BdyX P w K kx mg base 2 n_Disk_fuse_x "Disk.fuse" s_Disk_fuse_x b_Disk_fuse_x := by
  intro f cdv A outer s H E hr hgd tk
  have hu := u1 hr
  have h64 := u64 hr
  have nd := sc_Disk_fuse_x.nd
  exact x_seq (x_if ((m_tor (m_tnot (m_val (m_cl (c_is_integer T) hgd (hr.mono (by decide)) (m_cons (m_var 1) m_nil)))) (m_tor1 (m_cmpT op_lt b_cmp (m_var 1) m_int (nomark _)))).pt) (x_one (x_raiseV rfl tk T.x_BadNumber (k := 0) (hr.mono (by decide)) (m_var 1))) (xs_lift s_nil)) (
    x_one (x_lift (s_setF T.a_Disk_left (m_var 0) (m_var 1))))
theorem c_Disk_fuse_x (T : Tx K kx mg base) : MetX P w K kx mg base 3 0 "fuse" "Disk.fuse" s_Disk_fuse_x p_Disk_fuse_x m_Disk_fuse_x := mex_of T.cl_Disk T.f_Disk_fuse sc_Disk_fuse_x rfl (fun _ _ _ _ _ _ us hl => match us, hl with | [_, _], _ => rfl) (d_Disk_fuse_x T)
theorem sc_law_passed : FnScope n_law_passed p_law_passed (defScope s_law_passed) := ⟨rfl, rfl, rfl, by decide +kernel, rfl, by decide +kernel, by decide +kernel⟩
theorem d_law_passed (T : Tx K kx mg base) : TldOk P w K kx mg base 7 n_law_passed "_law_passed" "call" s_law_passed b_law_passed := by
  intro cs zf zc zq zt g cdv A outer s H hr hgd act
  have hu := u1 hr
  have h64 := u64 hr
  have nd := sc_law_passed.nd
  exact s_seq (s_try rfl rfl nd T.sub (fun W pn xe tk => x_one (x_set 1 nd (x_repr hgd h64 T.b_repr (act _ _ _ _ _ tk)))) (.named T.g_TrailError (fun a dd oe c o pn hz hd => s_seq (s_set 3 nd (m_and (m_exIs hz hd T.xi_BadBlock_BadCut_BadNumber_BadPlace_PowerCut T.xik T.sub T.bt T.b_isinstance (pe_glob rfl T.g_PowerCut rfl)) (m_one (m_not (m_exIsT hz hd T.xi_BadBlock_BadCut_BadNumber_BadPlace_PowerCut T.xik T.sub T.bt T.b_isinstance (pa_cons (pe_glob rfl T.g_BadBlock rfl) (pa_cons (pe_glob rfl T.g_BadCut rfl) (pa_cons (pe_glob rfl T.g_BadNumber rfl) (pa_cons (pe_glob rfl T.g_BadPlace rfl) (pa_cons (pe_bltn (v := .ty "ValueError") rfl T.b_ValueError (by decide +kernel) rfl (by decide) (by decide)) (pa_cons (pe_bltn (v := .ty "LookupError") rfl T.b_LookupError (by decide +kernel) rfl (by decide) (by decide)) (pa_nil)))))))))))) (
    s_one (s_set 1 nd (m_if (m_truth (m_var 3)) m_str m_str)))) .nil)) (
    s_one (s_ret (m_var 1)))
theorem c_law_passed (T : Tx K kx mg base) : Tld P w K kx mg base 7 l_law_passed "_law_passed" s_law_passed b_law_passed := tld_of T.f_law_passed sc_law_passed rfl rfl (.inl rfl) (fun _ _ _ _ _ _ us hl => match us, hl with | [_], _ => rfl) (by decide) (by decide) (d_law_passed T)
theorem sc_law_pick : FnScope n_law_pick p_law_pick (defScope s_law_pick) := ⟨rfl, rfl, rfl, by decide +kernel, rfl, by decide +kernel, by decide +kernel⟩
theorem d_law_pick (T : Tx K kx mg base) : Bdy P w K kx mg base 1 n_law_pick "_law_pick" s_law_pick b_law_pick := by
  intro f cdv A outer s H E hr hgd
  have hu := u1 hr
  have h64 := u64 hr
  have nd := sc_law_pick.nd
  exact s_one (s_ret (m_sub hu (m_var 1) (m_cl (c_law_draw T) hgd (hr.mono (by decide)) (m_cons (m_var 0) (m_cons (m_callB call_len_seq f_len T.b_len (by decide +kernel) (m_cons (m_var 1) m_nil)) m_nil)))))
theorem c_law_pick (T : Tx K kx mg base) : Cal P w K kx mg base 2 "_law_pick" s_law_pick p_law_pick m_law_pick := cal_of T.f_law_pick sc_law_pick rfl (fun _ _ _ _ _ _ us hl => match us, hl with | [_, _], _ => rfl) (d_law_pick T)
theorem sc_law_are_wrong_refused : FnScope n_law_are_wrong_refused p_law_are_wrong_refused (defScope s_law_are_wrong_refused) := ⟨rfl, rfl, rfl, by decide +kernel, rfl, by decide +kernel, by decide +kernel⟩
theorem d_law_are_wrong_refused (T : Tx K kx mg base) : BdyC P w K kx mg base 8 n_law_are_wrong_refused "_law_are_wrong_refused" s_law_are_wrong_refused b_law_are_wrong_refused := by
  intro f cdv A outer s H E mk hr hgd
  have hu := u1 hr
  have h64 := u64 hr
  have nd := sc_law_are_wrong_refused.nd
  exact s_seq (s_set 5 nd (m_cl (c_law_pick T) hgd (hr.mono (by decide)) (m_cons (m_var 0) (m_cons (m_lst false (m_cons (m_tup (m_cons (m_neg m_int) (m_cons (m_var 4) m_nil))) (m_cons (m_tup (m_cons (m_cl (c_law_many T) hgd (hr.mono (by decide)) (m_cons (m_sub hu (m_var 2) m_str) m_nil)) (m_cons (m_var 4) m_nil))) (m_cons (m_tup (m_cons (m_var 3) (m_cons (m_slice false (m_var 4) (mo_some m_int) mo_none) m_nil))) (m_cons (m_tup (m_cons m_non (m_cons m_non m_nil))) m_nil))))) m_nil)))) (
    s_seq (s_asg (m_tup (m_cons (m_cl (c_law_pick T) hgd (hr.mono (by decide)) (m_cons (m_var 0) (m_cons (m_lst false (m_cons (m_tup (m_cons m_int m_nil)) (m_cons (m_lst false (m_cons m_int m_nil)) (m_cons (m_tup (m_cons m_int (m_cons m_bl m_nil))) (m_cons (m_tup (m_cons m_int (m_cons m_int (m_cons (m_neg m_int) m_nil)))) (m_cons m_non m_nil)))))) m_nil))) (m_cons (m_cl (c_law_pick T) hgd (hr.mono (by decide)) (m_cons (m_var 0) (m_cons (m_lst false (m_cons (m_neg m_int) (m_cons m_non (m_cons m_bl (m_cons m_str (m_cons (m_tup (m_cons m_int m_nil)) m_nil)))))) m_nil))) m_nil))) (g_tup rfl (g_cons (g_name 6 nd) (g_cons (g_name 7 nd) g_nil)))) (
    s_seq (s_set 8 nd (m_lst true (m_cons (m_lam (k := 6) (c_law_passed T) mk hgd (hr.mono (by decide)) (by decide) (LamX.lamS_by (sc := defScope s_law_are_wrong_refused) (by decide +kernel)) rfl (fun _ _ _ _ _ => rfl) (fun A outer s2 H2 E f c hgd hr tk => by
      have hu := u1 hr
      have h64 := u64 hr
      exact x_mt (c_Disk_write_x T) hgd (hr.mono (by decide)) tk (m_var 1) (m_cons (m_sub hu (m_var 5) m_int) (m_cons (m_sub hu (m_var 5) m_int) m_nil)))) m_nil))) (
    s_seq (s_expr (m_append (m_var 8) (m_lam (k := 6) (c_law_passed T) mk hgd (hr.mono (by decide)) (by decide) (LamX.lamS_by (sc := defScope s_law_are_wrong_refused) (by decide +kernel)) rfl (fun _ _ _ _ _ => rfl) (fun A outer s2 H2 E f c hgd hr tk => by
      have hu := u1 hr
      have h64 := u64 hr
      exact x_mt (c_Disk_cut_x T) hgd (hr.mono (by decide)) tk (m_var 1) (m_cons (m_var 6) m_nil))))) (
    s_seq (s_expr (m_append (m_var 8) (m_lam (k := 6) (c_law_passed T) mk hgd (hr.mono (by decide)) (by decide) (LamX.lamS_by (sc := defScope s_law_are_wrong_refused) (by decide +kernel)) rfl (fun _ _ _ _ _ => rfl) (fun A outer s2 H2 E f c hgd hr tk => by
      have hu := u1 hr
      have h64 := u64 hr
      exact x_mt (c_Disk_fuse_x T) hgd (hr.mono (by decide)) tk (m_var 1) (m_cons (m_var 7) m_nil))))) (
    s_one (s_ret (m_and (m_cmp (op_eqD h64) b_eqDt (m_var 8) (m_op op_muls (b_mul false) (m_lst false (m_cons m_str m_nil)) m_int) (nomark _)) (m_one (m_reprEq hgd h64 T.b_repr (m_tup (m_cons (m_mt0 (c_Disk_waiting T) hgd (hr.mono (by decide)) (m_var 1)) (m_cons (m_mt0 (c_Disk_standing T) hgd (hr.mono (by decide)) (m_var 1)) m_nil))) (m_tup (m_cons (m_callT call_tuple_of f_tuple T.b_tuple (by decide +kernel) (m_cons (m_sub hu (m_var 2) m_str) m_nil)) (m_cons (m_callT call_tuple_of f_tuple T.b_tuple (by decide +kernel) (m_cons (m_sub hu (m_var 2) m_str) m_nil)) m_nil))))))))))))
theorem c_law_are_wrong_refused (T : Tx K kx mg base) : Cal P w K kx mg base 9 "_law_are_wrong_refused" s_law_are_wrong_refused p_law_are_wrong_refused m_law_are_wrong_refused := cal_ofC T.f_law_are_wrong_refused sc_law_are_wrong_refused rfl (fun _ _ _ _ _ _ us hl => match us, hl with | [_, _, _, _, _], _ => rfl) (d_law_are_wrong_refused T)
theorem sc_law_word : FnScope n_law_word p_law_word (defScope s_law_word) := ⟨rfl, rfl, rfl, by decide +kernel, rfl, by decide +kernel, by decide +kernel⟩
theorem d_law_word (T : Tx K kx mg base) : Bdy P w K kx mg base 2 n_law_word "_law_word" s_law_word b_law_word := by
  intro f cdv A outer s H E hr hgd
  have hu := u1 hr
  have h64 := u64 hr
  have nd := sc_law_word.nd
  exact s_one (s_ret (m_cl (c_law_pick T) hgd (hr.mono (by decide)) (m_cons (m_var 0) (m_cons (m_lst false (m_cons m_int (m_cons m_int (m_cons m_int (m_cons m_int (m_cons m_int (m_cons (m_op op_pow b_pow m_int m_int) (m_cons (m_cl (c_law_draw T) hgd (hr.mono (by decide)) (m_cons (m_var 0) (m_cons m_int m_nil))) (m_cons (m_cl (c_law_draw T) hgd (hr.mono (by decide)) (m_cons (m_var 0) (m_cons (m_op op_adds (b_add false) (m_op op_pow b_pow m_int m_int) m_int) m_nil))) m_nil))))))))) m_nil))))
theorem c_law_word (T : Tx K kx mg base) : Cal P w K kx mg base 3 "_law_word" s_law_word p_law_word m_law_word := cal_of T.f_law_word sc_law_word rfl (fun _ _ _ _ _ _ us hl => match us, hl with | [_], _ => rfl) (d_law_word T)
theorem sc_law_block : FnScope n_law_block p_law_block (defScope s_law_block) := ⟨rfl, rfl, rfl, by decide +kernel, rfl, by decide +kernel, by decide +kernel⟩
theorem d_law_block (T : Tx K kx mg base) : Bdy P w K kx mg base 3 n_law_block "_law_block" s_law_block b_law_block := by
  intro f cdv A outer s H E hr hgd
  have hu := u1 hr
  have h64 := u64 hr
  have nd := sc_law_block.nd
  exact s_seq (s_par 1 2 rfl nd (m_cons (m_cl (c_law_draw T) hgd (hr.mono (by decide)) (m_cons (m_var 0) (m_cons m_int m_nil))) (m_cons (m_cl (c_law_word T) hgd (hr.mono (by decide)) (m_cons (m_var 0) m_nil)) m_nil))) (
    s_seq (s_if (m_cmpT (op_eqs h64) b_eq (m_var 1) m_int (nomark _)) (s_one (s_ret (m_op op_muls (b_mul false) (m_tup (m_cons (m_var 2) m_nil)) m_int))) s_nil) (
    s_seq (s_if (m_cmpT (op_eqs h64) b_eq (m_var 1) m_int (nomark _)) (s_one (s_ret (m_op op_muls (b_mul false) (m_tup (m_cons m_int m_nil)) m_int))) s_nil) (
    s_seq (s_if (m_cmpT (op_eqs h64) b_eq (m_var 1) m_int (nomark _)) (s_one (s_ret (m_op op_adds (b_add false) (m_op op_adds (b_add false) (m_tup (m_cons (m_var 2) (m_cons (m_op op_adds (b_add false) m_int (m_cl (c_law_draw T) hgd (hr.mono (by decide)) (m_cons (m_var 0) (m_cons m_int m_nil)))) m_nil))) (m_callT call_tuple_of f_tuple T.b_tuple (by decide +kernel) (m_cons (m_lc false (own := [("i", 3)]) rfl nd (i_range1 T.b_range m_int) (blkOk_by (N := n_law_block) (sc := defScope s_law_block) (by decide +kernel)) (by decide) (fun _ _ _ _ _ => g_name 3 nd) (fun _ _ _ _ _ => mt_yes) (fun _ _ _ _ _ => m_cl (c_law_draw T) hgd (hr.mono (by decide)) (m_cons (m_var 0) (m_cons m_int m_nil)))) m_nil))) (m_tup (m_cons (m_var 2) m_nil))))) s_nil) (
    s_one (s_ret (m_callT call_tuple_of f_tuple T.b_tuple (by decide +kernel) (m_cons (m_lc false (own := [("i", 3)]) rfl nd (i_range1 T.b_range m_int) (blkOk_by (N := n_law_block) (sc := defScope s_law_block) (by decide +kernel)) (by decide) (fun _ _ _ _ _ => g_name 3 nd) (fun _ _ _ _ _ => mt_yes) (fun _ _ _ _ _ => m_if (m_cmpT (op_eqs h64) b_eq (m_cl (c_law_draw T) hgd (hr.mono (by decide)) (m_cons (m_var 0) (m_cons m_int m_nil))) m_int (nomark _)) (m_cl (c_law_word T) hgd (hr.mono (by decide)) (m_cons (m_var 0) m_nil)) (m_var 3))) m_nil)))))))
theorem c_law_block (T : Tx K kx mg base) : Cal P w K kx mg base 4 "_law_block" s_law_block p_law_block m_law_block := cal_of T.f_law_block sc_law_block rfl (fun _ _ _ _ _ _ us hl => match us, hl with | [_], _ => rfl) (d_law_block T)
theorem sc_law_forced : FnScope n_law_forced p_law_forced (defScope s_law_forced) := ⟨rfl, rfl, rfl, by decide +kernel, rfl, by decide +kernel, by decide +kernel⟩
theorem d_law_forced (T : Tx K kx mg base) : Bdy P w K kx mg base 0 n_law_forced "_law_forced" s_law_forced b_law_forced := by
  intro f cdv A outer s H E hr hgd
  have hu := u1 hr
  have h64 := u64 hr
  have nd := sc_law_forced.nd
  exact s_seq (s_set 1 nd (m_sub hu (m_var 0) m_str)) (
    s_seq (s_for PassesOwn.never rfl (i_seq (m_sub hu (m_var 0) m_str)) (g_tup rfl (g_cons (g_name 2 nd) (g_cons (g_name 3 nd) g_nil))) (
    s_one (s_setI (m_var 1) (m_var 2) (m_var 3)))) (
    s_one (s_setK hu (m_var 0) m_str (m_lst false m_nil))))
theorem c_law_forced (T : Tx K kx mg base) : Cal P w K kx mg base 1 "_law_forced" s_law_forced p_law_forced m_law_forced := cal_of T.f_law_forced sc_law_forced rfl (fun _ _ _ _ _ _ us hl => match us, hl with | [_], _ => rfl) (d_law_forced T)
theorem sc_law_read : FnScope n_law_read p_law_read (defScope s_law_read) := ⟨rfl, rfl, rfl, by decide +kernel, rfl, by decide +kernel, by decide +kernel⟩
theorem d_law_read (T : Tx K kx mg base) : Bdy P w K kx mg base 0 n_law_read "_law_read" s_law_read b_law_read := by
  intro f cdv A outer s H E hr hgd
  have hu := u1 hr
  have h64 := u64 hr
  have nd := sc_law_read.nd
  exact s_seq (s_for PassesOwn.never rfl (i_seq (m_rev false (m_sub hu (m_var 0) m_str))) (g_tup rfl (g_cons (g_name 2 nd) (g_cons (g_name 3 nd) g_nil))) (
    s_one (s_if (m_cmpT (op_eqs h64) b_eq (m_var 2) (m_var 1) (nomark _)) (s_one (s_ret (m_var 3))) s_nil))) (
    s_one (s_ret (m_sub hu (m_sub hu (m_var 0) m_str) (m_var 1))))
theorem c_law_read (T : Tx K kx mg base) : Cal P w K kx mg base 1 "_law_read" s_law_read p_law_read m_law_read := cal_of T.f_law_read sc_law_read rfl (fun _ _ _ _ _ _ us hl => match us, hl with | [_, _], _ => rfl) (d_law_read T)
theorem sc_law_is_call_right : FnScope n_law_is_call_right p_law_is_call_right (defScope s_law_is_call_right) := ⟨rfl, rfl, rfl, by decide +kernel, rfl, by decide +kernel, by decide +kernel⟩
theorem d_law_is_call_right (T : Tx K kx mg base) : BdyC P w K kx mg base 9 n_law_is_call_right "_law_is_call_right" s_law_is_call_right b_law_is_call_right := by
  intro f cdv A outer s H E mk hr hgd
  have hu := u1 hr
  have h64 := u64 hr
  have nd := sc_law_is_call_right.nd
  exact s_seq (s_asg (m_tup (m_cons (m_cl (c_law_draw T) hgd (hr.mono (by decide)) (m_cons (m_var 0) (m_cons (m_cl (c_law_many T) hgd (hr.mono (by decide)) (m_cons (m_sub hu (m_var 2) m_str) m_nil)) m_nil))) (m_cons (m_cl (c_law_block T) hgd (hr.mono (by decide)) (m_cons (m_var 0) m_nil)) (m_cons (m_cl (c_law_draw T) hgd (hr.mono (by decide)) (m_cons (m_var 0) (m_cons m_int m_nil))) m_nil)))) (g_tup rfl (g_cons (g_name 3 nd) (g_cons (g_name 4 nd) (g_cons (g_name 5 nd) g_nil))))) (
    s_seq (s_if ((m_tand (m_cmpT (op_eqs h64) b_eq (m_cl (c_law_draw T) hgd (hr.mono (by decide)) (m_cons (m_var 0) (m_cons m_int m_nil))) m_int (nomark _)) (m_tand1 (m_tnot (m_val (m_cl (c_law_are_wrong_refused T) hgd (hr.mono (by decide)) (m_cons (m_var 0) (m_cons (m_var 1) (m_cons (m_var 2) (m_cons (m_var 3) (m_cons (m_var 4) m_nil)))))))))).pt) (s_one (s_ret m_bl)) s_nil) (
    s_seq (s_set 6 nd (m_lam (k := 6) (c_law_passed T) mk hgd (hr.mono (by decide)) (by decide) (LamX.lamS_by (sc := defScope s_law_is_call_right) (by decide +kernel)) rfl (fun _ _ _ _ _ => rfl) (fun A outer s2 H2 E f c hgd hr tk => by
      have hu := u1 hr
      have h64 := u64 hr
      exact x_ifE (m_cmpT (op_eqs h64) b_eq (m_var 5) m_int (nomark _)) (x_mt0 (c_Disk_force_x T) hgd (hr.mono (by decide)) tk (m_var 1)) (x_ifE (m_cmpT (op_eqs h64) b_eq (m_var 5) m_int (nomark _)) (x_mt (c_Disk_write_x T) hgd (hr.mono (by decide)) tk (m_var 1) (m_cons (m_var 3) (m_cons (m_var 4) m_nil))) (x_mtK0 (ks := ["block", "place"]) (ix := [0, 2, 1]) (c_Disk_write_x T) hgd (hr.mono (by decide)) tk (fun _ _ _ _ _ _ us ws h1 h2 => match us, ws, h1, h2 with | [_], [_, _], _, _ => rfl) (len_cons (len_cons len_nil)) (m_var 1) (mk_cons (m_var 4) (mk_cons (m_var 3) mk_nil))))))) (
    s_seq (s_if (m_cmpT (op_eqs h64) b_eq (m_sub hu (m_var 2) m_str) m_int (nomark _)) (s_one (s_ret (m_and (m_cmp (op_eqs h64) b_eq (m_var 6) m_str (nomark _)) (m_one (m_reprEq hgd h64 T.b_repr (m_mt (c_Disk_read T) hgd (hr.mono (by decide)) (m_var 1) (m_cons (m_var 3) m_nil)) (m_cl (c_law_read T) hgd (hr.mono (by decide)) (m_cons (m_var 2) (m_cons (m_var 3) m_nil)))))))) s_nil) (
    s_seq (s_setK hu (m_var 2) m_str (m_if (m_isNT (neg := false) rfl (m_sub hu (m_var 2) m_str)) (m_sub hu (m_var 2) m_str) (m_op op_sub b_sub (m_sub hu (m_var 2) m_str) m_int))) (
    s_seq (s_if (m_cmpT (op_eqs h64) b_eq (m_var 5) m_int (nomark _)) (s_one (s_expr (m_cl (c_law_forced T) hgd (hr.mono (by decide)) (m_cons (m_var 2) m_nil)))) (s_one (s_setK hu (m_var 2) m_str (m_op op_adds (b_add false) (m_sub hu (m_var 2) m_str) (m_lst false (m_cons (m_tup (m_cons (m_var 3) (m_cons (m_var 4) m_nil))) m_nil)))))) (
    s_one (s_ret (m_cmp (op_eqs h64) b_eq (m_var 6) m_str (nomark _)))))))))
theorem c_law_is_call_right (T : Tx K kx mg base) : Cal P w K kx mg base 10 "_law_is_call_right" s_law_is_call_right p_law_is_call_right m_law_is_call_right := cal_ofC T.f_law_is_call_right sc_law_is_call_right rfl (fun _ _ _ _ _ _ us hl => match us, hl with | [_, _, _], _ => rfl) (d_law_is_call_right T)
theorem sc_law_keep : FnScope n_law_keep p_law_keep (defScope s_law_keep) := ⟨rfl, rfl, rfl, by decide +kernel, rfl, by decide +kernel, by decide +kernel⟩
theorem d_law_keep (T : Tx K kx mg base) : Bdy P w K kx mg base 2 n_law_keep "_law_keep" s_law_keep b_law_keep := by
  intro f cdv A outer s H E hr hgd
  have hu := u1 hr
  have h64 := u64 hr
  have nd := sc_law_keep.nd
  exact s_seq (s_set 2 nd (m_callB (call_max2 rfl) f_max T.b_max (by decide +kernel) (m_cons m_int (m_cons (m_op op_adds (b_add false) (m_var 1) (m_cl (c_law_pick T) hgd (hr.mono (by decide)) (m_cons (m_var 0) (m_cons (m_lst false (m_cons m_int (m_cons m_int (m_cons (m_neg m_int) (m_cons m_int (m_cons (m_neg (m_var 1)) m_nil)))))) m_nil)))) m_nil)))) (
    s_one (s_ret (m_callT call_tuple_of f_tuple T.b_tuple (by decide +kernel) (m_cons (m_lc false (own := [("i", 3)]) rfl nd (i_range1 T.b_range (m_var 2)) (blkOk_by (N := n_law_keep) (sc := defScope s_law_keep) (by decide +kernel)) (by decide) (fun _ _ _ _ _ => g_name 3 nd) (fun _ _ _ _ _ => mt_yes) (fun _ _ _ _ _ => m_cl (c_law_pick T) hgd (hr.mono (by decide)) (m_cons (m_var 0) (m_cons (m_lst false (m_cons m_int (m_cons m_int (m_cons m_int (m_cons m_int (m_cons m_int (m_cons m_int (m_cons (m_cl (c_law_draw T) hgd (hr.mono (by decide)) (m_cons (m_var 0) (m_cons m_int m_nil))) m_nil)))))))) m_nil)))) m_nil))))
theorem c_law_keep (T : Tx K kx mg base) : Cal P w K kx mg base 3 "_law_keep" s_law_keep p_law_keep m_law_keep := cal_of T.f_law_keep sc_law_keep rfl (fun _ _ _ _ _ _ us hl => match us, hl with | [_, _], _ => rfl) (d_law_keep T)
theorem sc_law : FnScope n_law p_law (defScope s_law) := ⟨rfl, rfl, rfl, by decide +kernel, rfl, by decide +kernel, by decide +kernel⟩
theorem d_law (T : Tx K kx mg base) : Bdy P w K kx mg base 10 n_law "law" s_law b_law := by
  intro f cdv A outer s H E hr hgd
  have hu := u1 hr
  have h64 := u64 hr
  have nd := sc_law.nd
  exact s_seq (s_set 1 nd (m_cl (c_law_deck T) hgd (hr.mono (by decide)) (m_cons (m_var 0) m_nil))) (
    s_seq (s_set 2 nd (m_cl (c_law_drawn_sizes T) hgd (hr.mono (by decide)) (m_cons (m_var 1) m_nil))) (
    s_seq (s_par 3 4 rfl nd (m_cons (m_mk (c_Disk_mk T) hgd (hr.mono (by decide)) (m_cons (m_sub hu (m_var 2) m_int) (m_cons (m_sub hu (m_var 2) m_int) m_nil))) (m_cons (m_cl (c_law_blank T) hgd (hr.mono (by decide)) (m_cons (m_var 2) m_nil)) m_nil))) (
    s_seq (s_for PassesOwn.never rfl (i_range1 T.b_range m_int) (g_name 5 nd) (
    s_seq (s_set 6 nd (m_cl (c_law_draw T) hgd (hr.mono (by decide)) (m_cons (m_var 1) (m_cons m_int m_nil)))) (
    s_seq (s_if ((m_tor (m_cmpT op_gt b_cmp (m_var 5) m_int (nomark _)) (m_tor1 (m_cmpT (op_eqs h64) b_eq (m_cl (c_law_draw T) hgd (hr.mono (by decide)) (m_cons (m_var 1) (m_cons m_int m_nil))) m_int (nomark _)))).pt) (s_seq (s_if (m_reprNotT (z := "None") hgd h64 T.b_repr (m_if (m_cmpT op_lt b_cmp (m_var 5) m_int (nomark _)) (m_mt (c_Disk_fuse T) hgd (hr.mono (by decide)) (m_var 3) (m_cons (m_var 6) m_nil)) (m_mtK0 (ks := ["many"]) (ix := [0, 1]) (c_Disk_fuse T) hgd (hr.mono (by decide)) (fun _ _ _ _ _ _ us ws h1 h2 => match us, ws, h1, h2 with | [_], [_], _, _ => rfl) (len_cons len_nil) (m_var 3) (mk_cons (m_var 6) mk_nil)))) (s_one (s_ret m_bl)) s_nil) (
    s_one (s_setK hu (m_var 4) m_str (m_var 6)))) s_nil) (
    s_seq (s_for PassesOwn.never rfl (i_range1 T.b_range (m_cl (c_law_draw T) hgd (hr.mono (by decide)) (m_cons (m_var 1) (m_cons m_int m_nil)))) (g_name 7 nd) (
    s_seq (s_if (m_cmpT (op_eqs h64) b_eq (m_cl (c_law_draw T) hgd (hr.mono (by decide)) (m_cons (m_var 1) (m_cons m_int m_nil))) m_int (nomark _)) (s_seq (s_set 6 nd (m_cl (c_law_pick T) hgd (hr.mono (by decide)) (m_cons (m_var 1) (m_cons (m_lst false (m_cons m_int (m_cons m_int (m_cons m_int (m_cons (m_op op_pow b_pow m_int m_int) m_nil))))) m_nil)))) (
    s_seq (s_expr (m_mt (c_Disk_fuse T) hgd (hr.mono (by decide)) (m_var 3) (m_cons (m_var 6) m_nil))) (
    s_one (s_setK hu (m_var 4) m_str (m_var 6))))) s_nil) (
    s_seq (s_if (m_tnot (m_val (m_cl (c_law_is_call_right T) hgd (hr.mono (by decide)) (m_cons (m_var 1) (m_cons (m_var 3) (m_cons (m_var 4) m_nil)))))) (s_one (s_ret m_bl)) s_nil) (
    s_seq (s_set 8 nd (m_cl (c_law_draw T) hgd (hr.mono (by decide)) (m_cons (m_var 1) (m_cons (m_cl (c_law_many T) hgd (hr.mono (by decide)) (m_cons (m_var 2) m_nil)) m_nil)))) (
    s_one (s_if (m_reprNeT hgd h64 T.b_repr (m_tup (m_cons (m_mt (c_Disk_read T) hgd (hr.mono (by decide)) (m_var 3) (m_cons (m_var 8) m_nil)) (m_cons (m_callB call_len_seq f_len T.b_len (by decide +kernel) (m_cons (m_mt0 (c_Disk_waiting T) hgd (hr.mono (by decide)) (m_var 3)) m_nil)) m_nil))) (m_tup (m_cons (m_cl (c_law_read T) hgd (hr.mono (by decide)) (m_cons (m_var 4) (m_cons (m_var 8) m_nil))) (m_cons (m_callB call_len_seq f_len T.b_len (by decide +kernel) (m_cons (m_sub hu (m_var 4) m_str) m_nil)) m_nil)))) (s_one (s_ret m_bl)) s_nil)))))) (
    s_seq (s_if (m_reprNeT hgd h64 T.b_repr (m_tup (m_cons (m_mt0 (c_Disk_sizes T) hgd (hr.mono (by decide)) (m_var 3)) (m_cons (m_mt0 (c_Disk_waiting T) hgd (hr.mono (by decide)) (m_var 3)) (m_cons (m_mt0 (c_Disk_standing T) hgd (hr.mono (by decide)) (m_var 3)) m_nil)))) (m_tup (m_cons (m_var 2) (m_cons (m_callT call_tuple_of f_tuple T.b_tuple (by decide +kernel) (m_cons (m_sub hu (m_var 4) m_str) m_nil)) (m_cons (m_callT call_tuple_of f_tuple T.b_tuple (by decide +kernel) (m_cons (m_sub hu (m_var 4) m_str) m_nil)) m_nil))))) (s_one (s_ret m_bl)) s_nil) (
    s_one (s_if (m_cmpT op_gt b_cmp (m_cl (c_law_draw T) hgd (hr.mono (by decide)) (m_cons (m_var 1) (m_cons m_int m_nil))) m_int (nomark _)) (s_seq (s_set 9 nd (m_cl (c_law_keep T) hgd (hr.mono (by decide)) (m_cons (m_var 1) (m_cons (m_callB call_len_seq f_len T.b_len (by decide +kernel) (m_cons (m_sub hu (m_var 4) m_str) m_nil)) m_nil)))) (
    s_seq (s_expr (m_mt (c_Disk_cut T) hgd (hr.mono (by decide)) (m_var 3) (m_cons (m_var 9) m_nil))) (
    s_seq (s_expr (m_cl (c_law_fell T) hgd (hr.mono (by decide)) (m_cons (m_var 4) (m_cons (m_var 9) m_nil)))) (
    s_one (s_if ((m_tor (m_tnot (m_val (m_cl (c_law_is_call_right T) hgd (hr.mono (by decide)) (m_cons (m_var 1) (m_cons (m_var 3) (m_cons (m_var 4) m_nil)))))) (m_tor1 (m_tnot (m_val (m_cl (c_law_is_call_right T) hgd (hr.mono (by decide)) (m_cons (m_var 1) (m_cons (m_var 3) (m_cons (m_var 4) m_nil)))))))).pt) (s_one (s_ret m_bl)) s_nil))))) s_nil))))))) (
    s_one (s_ret m_bl)))))
theorem c_law (T : Tx K kx mg base) : Cal P w K kx mg base 11 "law" s_law p_law m_law := cal_of T.f_law sc_law rfl (fun _ _ _ _ _ _ us hl => match us, hl with | [_], _ => rfl) (d_law T)
theorem xinit_BadBlock : ∃ q1 q2 q3 q4 : Pos, FnScope ["self", "thing"] ["self", "thing"] (defScope s_BadBlock_mk) ∧ defBody s_BadBlock_mk = [.Assign [.Attribute (.Name "self" q1) "thing" q2] (.Name "thing" q3) q4] ∧ Bp "__init__" "BadBlock.__init__" s_BadBlock_mk ["self", "thing"] :=
  ⟨_, _, _, _, ⟨rfl, rfl, rfl, by decide +kernel, rfl, by decide +kernel, by decide +kernel⟩, rfl, fun _ _ _ _ _ _ us hl => match us, hl with | [_, _], _ => rfl⟩
theorem xinit_BadCut : ∃ q1 q2 q3 q4 : Pos, FnScope ["self", "thing"] ["self", "thing"] (defScope s_BadCut_mk) ∧ defBody s_BadCut_mk = [.Assign [.Attribute (.Name "self" q1) "thing" q2] (.Name "thing" q3) q4] ∧ Bp "__init__" "BadCut.__init__" s_BadCut_mk ["self", "thing"] :=
  ⟨_, _, _, _, ⟨rfl, rfl, rfl, by decide +kernel, rfl, by decide +kernel, by decide +kernel⟩, rfl, fun _ _ _ _ _ _ us hl => match us, hl with | [_, _], _ => rfl⟩
theorem xinit_BadNumber : ∃ q1 q2 q3 q4 : Pos, FnScope ["self", "thing"] ["self", "thing"] (defScope s_BadNumber_mk) ∧ defBody s_BadNumber_mk = [.Assign [.Attribute (.Name "self" q1) "thing" q2] (.Name "thing" q3) q4] ∧ Bp "__init__" "BadNumber.__init__" s_BadNumber_mk ["self", "thing"] :=
  ⟨_, _, _, _, ⟨rfl, rfl, rfl, by decide +kernel, rfl, by decide +kernel, by decide +kernel⟩, rfl, fun _ _ _ _ _ _ us hl => match us, hl with | [_, _], _ => rfl⟩
theorem xinit_BadPlace : ∃ q1 q2 q3 q4 : Pos, FnScope ["self", "thing"] ["self", "thing"] (defScope s_BadPlace_mk) ∧ defBody s_BadPlace_mk = [.Assign [.Attribute (.Name "self" q1) "thing" q2] (.Name "thing" q3) q4] ∧ Bp "__init__" "BadPlace.__init__" s_BadPlace_mk ["self", "thing"] :=
  ⟨_, _, _, _, ⟨rfl, rfl, rfl, by decide +kernel, rfl, by decide +kernel, by decide +kernel⟩, rfl, fun _ _ _ _ _ _ us hl => match us, hl with | [_, _], _ => rfl⟩
end
end Lw

namespace Lw
open PySem L2 PyProof.Rows Ms
open Mi (Dv MO Sto Sl Rs bnd ME MT MA MS MF Fl MG MGs MI)
def ms_ : List Str := ["_law_are_wrong_refused", "_law_is_call_right"]
def lv : List (Str × PySem.W.WData) := [("MOST_WORD", .int 1000000000), ("BLANK", .tuple (ns_BLANK.map PySem.W.WData.int))]
theorem all_mk {l : PySem.W.OpenLaw} {w : World} {K : PySem.W.Frag} {h : Heap} {mg : Str → Option Value} {fa C1 C2 C3 C4 C5 C6 C0 f0 f1 f2 f3 f4 f5 f6 f7 f8 f9 f10 f11 f12 f13 f14 f15 f16 f17 f18 f19 f20 f21 f22 f23 f24 f25 f26 f27 f28 f29 KC0 KP0 f30 f31 f32 f33 f34 KC1 KP1 f35 f36 : Addr} {lw : List (Str × PySem.W.WData)} (hlw : lw = lv) (kin : K.In h) (hns : h.Ns mainGlobals mg) (hfa : mg "law" = some (.ref fa)) (L0 : PySem.W.LooseAre lw mg h)
    {nmV2 qnV2 : Str} {NV2 TTV2 fIV2 : Addr} {bsV2 subV2 : List Value} {snV2 : List Str} {abV2 : Bool} {colV2 : Option Bool} {ddV2 odV2 anV2 : Option Addr} {kaV2 kbV2 kcV2 kdV2 keV2 : Option Value} {ocV2 kVV2 dcV2 pmV2 cdV2 ctV2 : Value} {slV2 : Array (Option Value)} {nmV4 qnV4 : Str} {NV4 TTV4 fIV4 : Addr} {bsV4 subV4 : List Value} {snV4 : List Str} {abV4 : Bool} {colV4 : Option Bool} {ddV4 odV4 anV4 : Option Addr} {kaV4 kbV4 kcV4 kdV4 keV4 : Option Value} {ocV4 kVV4 dcV4 pmV4 cdV4 ctV4 : Value} {slV4 : Array (Option Value)} {nmV5 qnV5 : Str} {NV5 TTV5 fIV5 : Addr} {bsV5 subV5 : List Value} {snV5 : List Str} {abV5 : Bool} {colV5 : Option Bool} {ddV5 odV5 anV5 : Option Addr} {kaV5 kbV5 kcV5 kdV5 keV5 : Option Value} {ocV5 kVV5 dcV5 pmV5 cdV5 ctV5 : Value} {slV5 : Array (Option Value)} {nmV3 qnV3 : Str} {NV3 TTV3 fIV3 : Addr} {bsV3 subV3 : List Value} {snV3 : List Str} {abV3 : Bool} {colV3 : Option Bool} {ddV3 odV3 anV3 : Option Addr} {kaV3 kbV3 kcV3 kdV3 keV3 : Option Value} {ocV3 kVV3 dcV3 pmV3 cdV3 ctV3 : Value} {slV3 : Array (Option Value)}
    {od0 od1 od2 od3 od4 od5 od6 od7 od8 od9 od10 od11 od12 od13 od14 od15 od16 od17 od18 od19 od20 od21 od22 od23 od24 od25 od26 od27 od28 od29 od30 od31 od32 od33 od34 od35 od36 an0 an1 an2 an3 an4 an5 an6 an7 an8 an9 an10 an11 an12 an13 an14 an15 an16 an17 an18 an19 an20 an21 an22 an23 an24 an25 an26 an27 an28 an29 an30 an31 an32 an33 an34 an35 an36 : Option Addr} {sl0 sl1 sl2 sl3 sl4 sl5 sl6 sl7 sl8 sl9 sl10 sl11 sl12 sl13 sl14 sl15 sl16 sl17 sl18 sl19 sl20 sl21 sl22 sl23 sl24 sl25 sl26 sl27 sl28 sl29 sl30 sl31 sl32 sl33 sl34 sl35 sl36 : Array (Option Value)} {oc0 oc1 oc2 oc3 oc4 oc5 oc6 oc7 oc8 oc9 oc10 oc11 oc12 oc13 oc14 oc15 oc16 oc17 oc18 oc19 oc20 oc21 oc22 oc23 oc24 oc25 oc26 oc27 oc28 oc29 oc30 oc31 oc32 oc33 oc34 oc35 oc36 kV0 kV1 kV2 kV3 kV4 kV5 kV6 kV7 kV8 kV9 kV10 kV11 kV12 kV13 kV14 kV15 kV16 kV17 kV18 kV19 kV20 kV21 kV22 kV23 kV24 kV25 kV26 kV27 kV28 kV29 kV30 kV31 kV32 kV33 kV34 kV35 kV36 dc0 dc1 dc2 dc3 dc4 dc5 dc6 dc7 dc8 dc9 dc10 dc11 dc12 dc13 dc14 dc15 dc16 dc17 dc18 dc19 dc20 dc21 dc22 dc23 dc24 dc25 dc26 dc27 dc28 dc29 dc30 dc31 dc32 dc33 dc34 dc35 dc36 pm0 pm1 pm2 pm3 pm4 pm5 pm6 pm7 pm8 pm9 pm10 pm11 pm12 pm13 pm14 pm15 pm16 pm17 pm18 pm19 pm20 pm21 pm22 pm23 pm24 pm25 pm26 pm27 pm28 pm29 pm30 pm31 pm32 pm33 pm34 pm35 pm36 cd0 cd1 cd2 cd3 cd4 cd5 cd6 cd7 cd8 cd9 cd10 cd11 cd12 cd13 cd14 cd15 cd16 cd17 cd18 cd19 cd20 cd21 cd22 cd23 cd24 cd25 cd26 cd27 cd28 cd29 cd30 cd31 cd32 cd33 cd34 cd35 cd36 ct0 ct1 ct2 ct3 ct4 ct5 ct6 ct7 ct8 ct9 ct10 ct11 ct12 ct13 ct14 ct15 ct16 ct17 ct18 ct19 ct20 ct21 ct22 ct23 ct24 ct25 ct26 ct27 ct28 ct29 ct30 ct31 ct32 ct33 ct34 ct35 ct36 : Value} {t_CONTENT t_LEAST_BLOCKS t_LEAST_SEGMENTS t_MOST_BLOCKS t_MOST_SEGMENTS t_ROOT_WORDS t_SPARE_SEGMENTS t_WORDS : Tok}
    (aC_Disk : PySem.W.nsIn K mainGlobals "Disk" = some (some (.ref C0)))
    (aC_PowerCut : PySem.W.nsIn K mainGlobals "PowerCut" = some (some (.ref C1)))
    (aC_BadBlock : PySem.W.nsIn K mainGlobals "BadBlock" = some (some (.ref C2)))
    (aC_BadPlace : PySem.W.nsIn K mainGlobals "BadPlace" = some (some (.ref C3)))
    (aC_BadCut : PySem.W.nsIn K mainGlobals "BadCut" = some (some (.ref C4)))
    (aC_BadNumber : PySem.W.nsIn K mainGlobals "BadNumber" = some (some (.ref C5)))
    (aC_TrailError : PySem.W.nsIn K mainGlobals "TrailError" = some (some (.ref C6)))
    (zb_LookupError : PySem.W.nsIn K mainGlobals "LookupError" = some none)
    (zb_ValueError : PySem.W.nsIn K mainGlobals "ValueError" = some none)
    (zb_all : PySem.W.nsIn K mainGlobals "all" = some none)
    (zb_bool : PySem.W.nsIn K mainGlobals "bool" = some none)
    (zb_enumerate : PySem.W.nsIn K mainGlobals "enumerate" = some none)
    (zb_int : PySem.W.nsIn K mainGlobals "int" = some none)
    (zb_isinstance : PySem.W.nsIn K mainGlobals "isinstance" = some none)
    (zb_len : PySem.W.nsIn K mainGlobals "len" = some none)
    (zb_max : PySem.W.nsIn K mainGlobals "max" = some none)
    (zb_range : PySem.W.nsIn K mainGlobals "range" = some none)
    (zb_repr : PySem.W.nsIn K mainGlobals "repr" = some none)
    (zb_tuple : PySem.W.nsIn K mainGlobals "tuple" = some none)
    (zb_zip : PySem.W.nsIn K mainGlobals "zip" = some none)
    (zc_CONTENT : PySem.W.nsIn K mainGlobals "CONTENT" = some (some (.int 28 t_CONTENT)))
    (zc_LEAST_BLOCKS : PySem.W.nsIn K mainGlobals "LEAST_BLOCKS" = some (some (.int 4 t_LEAST_BLOCKS)))
    (zc_LEAST_SEGMENTS : PySem.W.nsIn K mainGlobals "LEAST_SEGMENTS" = some (some (.int 6 t_LEAST_SEGMENTS)))
    (zc_MOST_BLOCKS : PySem.W.nsIn K mainGlobals "MOST_BLOCKS" = some (some (.int 24 t_MOST_BLOCKS)))
    (zc_MOST_SEGMENTS : PySem.W.nsIn K mainGlobals "MOST_SEGMENTS" = some (some (.int 40 t_MOST_SEGMENTS)))
    (zc_ROOT_WORDS : PySem.W.nsIn K mainGlobals "ROOT_WORDS" = some (some (.int 4 t_ROOT_WORDS)))
    (zc_SPARE_SEGMENTS : PySem.W.nsIn K mainGlobals "SPARE_SEGMENTS" = some (some (.int 4 t_SPARE_SEGMENTS)))
    (zc_WORDS : PySem.W.nsIn K mainGlobals "WORDS" = some (some (.int 32 t_WORDS)))
    (xk_PowerCut : PySem.W.keepIn K (.ref C1) = true)
    (xb_PowerCut : PySem.W.subIn K (.ref C1) (.type "BaseException") = some true)
    (xt_PowerCut : PySem.W.typeIn K (.ref C1) = some (.type "type"))
    (xi_PowerCut : PySem.W.isClsIn K C1 = true)
    (xk_BadBlock : PySem.W.keepIn K (.ref C2) = true)
    (xb_BadBlock : PySem.W.subIn K (.ref C2) (.type "BaseException") = some true)
    (xt_BadBlock : PySem.W.typeIn K (.ref C2) = some (.type "type"))
    (xi_BadBlock : PySem.W.isClsIn K C2 = true)
    (xk_BadPlace : PySem.W.keepIn K (.ref C3) = true)
    (xb_BadPlace : PySem.W.subIn K (.ref C3) (.type "BaseException") = some true)
    (xt_BadPlace : PySem.W.typeIn K (.ref C3) = some (.type "type"))
    (xi_BadPlace : PySem.W.isClsIn K C3 = true)
    (xk_BadCut : PySem.W.keepIn K (.ref C4) = true)
    (xb_BadCut : PySem.W.subIn K (.ref C4) (.type "BaseException") = some true)
    (xt_BadCut : PySem.W.typeIn K (.ref C4) = some (.type "type"))
    (xi_BadCut : PySem.W.isClsIn K C4 = true)
    (xk_BadNumber : PySem.W.keepIn K (.ref C5) = true)
    (xb_BadNumber : PySem.W.subIn K (.ref C5) (.type "BaseException") = some true)
    (xt_BadNumber : PySem.W.typeIn K (.ref C5) = some (.type "type"))
    (xi_BadNumber : PySem.W.isClsIn K C5 = true)
    (xk_TrailError : PySem.W.keepIn K (.ref C6) = true)
    (xb_TrailError : PySem.W.subIn K (.ref C6) (.type "BaseException") = some true)
    (xt_TrailError : PySem.W.typeIn K (.ref C6) = some (.type "type"))
    (xi_TrailError : PySem.W.isClsIn K C6 = true)
    (xs_BadBlock_BadBlock : PySem.W.subIn K (.ref C2) (.ref C2) = some true)
    (xs_BadBlock_BadCut : PySem.W.subIn K (.ref C2) (.ref C4) = some false)
    (xs_BadBlock_BadNumber : PySem.W.subIn K (.ref C2) (.ref C5) = some false)
    (xs_BadBlock_BadPlace : PySem.W.subIn K (.ref C2) (.ref C3) = some false)
    (xs_BadBlock_PowerCut : PySem.W.subIn K (.ref C2) (.ref C1) = some false)
    (xs_BadBlock_TrailError : PySem.W.subIn K (.ref C2) (.ref C6) = some true)
    (xs_BadCut_BadBlock : PySem.W.subIn K (.ref C4) (.ref C2) = some false)
    (xs_BadCut_BadCut : PySem.W.subIn K (.ref C4) (.ref C4) = some true)
    (xs_BadCut_BadNumber : PySem.W.subIn K (.ref C4) (.ref C5) = some false)
    (xs_BadCut_BadPlace : PySem.W.subIn K (.ref C4) (.ref C3) = some false)
    (xs_BadCut_PowerCut : PySem.W.subIn K (.ref C4) (.ref C1) = some false)
    (xs_BadCut_TrailError : PySem.W.subIn K (.ref C4) (.ref C6) = some true)
    (xs_BadNumber_BadBlock : PySem.W.subIn K (.ref C5) (.ref C2) = some false)
    (xs_BadNumber_BadCut : PySem.W.subIn K (.ref C5) (.ref C4) = some false)
    (xs_BadNumber_BadNumber : PySem.W.subIn K (.ref C5) (.ref C5) = some true)
    (xs_BadNumber_BadPlace : PySem.W.subIn K (.ref C5) (.ref C3) = some false)
    (xs_BadNumber_PowerCut : PySem.W.subIn K (.ref C5) (.ref C1) = some false)
    (xs_BadNumber_TrailError : PySem.W.subIn K (.ref C5) (.ref C6) = some true)
    (xs_BadPlace_BadBlock : PySem.W.subIn K (.ref C3) (.ref C2) = some false)
    (xs_BadPlace_BadCut : PySem.W.subIn K (.ref C3) (.ref C4) = some false)
    (xs_BadPlace_BadNumber : PySem.W.subIn K (.ref C3) (.ref C5) = some false)
    (xs_BadPlace_BadPlace : PySem.W.subIn K (.ref C3) (.ref C3) = some true)
    (xs_BadPlace_PowerCut : PySem.W.subIn K (.ref C3) (.ref C1) = some false)
    (xs_BadPlace_TrailError : PySem.W.subIn K (.ref C3) (.ref C6) = some true)
    (xs_PowerCut_BadBlock : PySem.W.subIn K (.ref C1) (.ref C2) = some false)
    (xs_PowerCut_BadCut : PySem.W.subIn K (.ref C1) (.ref C4) = some false)
    (xs_PowerCut_BadNumber : PySem.W.subIn K (.ref C1) (.ref C5) = some false)
    (xs_PowerCut_BadPlace : PySem.W.subIn K (.ref C1) (.ref C3) = some false)
    (xs_PowerCut_PowerCut : PySem.W.subIn K (.ref C1) (.ref C1) = some true)
    (xs_PowerCut_TrailError : PySem.W.subIn K (.ref C1) (.ref C6) = some true)
    (xq_PowerCut : PySem.W.excIn K C1 [.type "Exception", .type "BaseException", .type "object"] "Exception.__new__" = true)
    (ev_BadBlock : K.lookup C2 = some (excClassObj nmV2 qnV2 C2 NV2 bsV2 [.ref TTV2, .type "Exception", .type "BaseException", .type "object"] true snV2 subV2 abV2 colV2 ddV2 kaV2 kbV2 kcV2 kdV2 keV2 "Exception.__new__"))
    (va_BadBlock : PySem.W.findIn K (.ref C2) "__setattr__" = some (some (.builtin "object.__setattr__")))
    (vi_BadBlock : PySem.W.findIn K (.ref C2) "__init__" = some (some (.ref fIV2)))
    (vt_BadBlock : PySem.W.typeIn K (.ref fIV2) = some (.type "function"))
    (vl_BadBlock : K.lookup fIV2 = some ⟨ocV2, odV2, .func (PySem.W.fnOf "__init__" "BadBlock.__init__" (defArgs s_BadBlock_mk) (defBody s_BadBlock_mk) (defScope s_BadBlock_mk) .none kVV2 dcV2 pmV2 anV2 cdV2 ctV2), slV2⟩)
    (vc_BadBlock : PySem.W.codeIn K cdV2 "BadBlock.__init__" = true)
    (vk_BadBlock : PySem.W.keepIn K (.ref fIV2) = true)
    (ev_BadCut : K.lookup C4 = some (excClassObj nmV4 qnV4 C4 NV4 bsV4 [.ref TTV4, .type "Exception", .type "BaseException", .type "object"] true snV4 subV4 abV4 colV4 ddV4 kaV4 kbV4 kcV4 kdV4 keV4 "Exception.__new__"))
    (va_BadCut : PySem.W.findIn K (.ref C4) "__setattr__" = some (some (.builtin "object.__setattr__")))
    (vi_BadCut : PySem.W.findIn K (.ref C4) "__init__" = some (some (.ref fIV4)))
    (vt_BadCut : PySem.W.typeIn K (.ref fIV4) = some (.type "function"))
    (vl_BadCut : K.lookup fIV4 = some ⟨ocV4, odV4, .func (PySem.W.fnOf "__init__" "BadCut.__init__" (defArgs s_BadCut_mk) (defBody s_BadCut_mk) (defScope s_BadCut_mk) .none kVV4 dcV4 pmV4 anV4 cdV4 ctV4), slV4⟩)
    (vc_BadCut : PySem.W.codeIn K cdV4 "BadCut.__init__" = true)
    (vk_BadCut : PySem.W.keepIn K (.ref fIV4) = true)
    (ev_BadNumber : K.lookup C5 = some (excClassObj nmV5 qnV5 C5 NV5 bsV5 [.ref TTV5, .type "Exception", .type "BaseException", .type "object"] true snV5 subV5 abV5 colV5 ddV5 kaV5 kbV5 kcV5 kdV5 keV5 "Exception.__new__"))
    (va_BadNumber : PySem.W.findIn K (.ref C5) "__setattr__" = some (some (.builtin "object.__setattr__")))
    (vi_BadNumber : PySem.W.findIn K (.ref C5) "__init__" = some (some (.ref fIV5)))
    (vt_BadNumber : PySem.W.typeIn K (.ref fIV5) = some (.type "function"))
    (vl_BadNumber : K.lookup fIV5 = some ⟨ocV5, odV5, .func (PySem.W.fnOf "__init__" "BadNumber.__init__" (defArgs s_BadNumber_mk) (defBody s_BadNumber_mk) (defScope s_BadNumber_mk) .none kVV5 dcV5 pmV5 anV5 cdV5 ctV5), slV5⟩)
    (vc_BadNumber : PySem.W.codeIn K cdV5 "BadNumber.__init__" = true)
    (vk_BadNumber : PySem.W.keepIn K (.ref fIV5) = true)
    (ev_BadPlace : K.lookup C3 = some (excClassObj nmV3 qnV3 C3 NV3 bsV3 [.ref TTV3, .type "Exception", .type "BaseException", .type "object"] true snV3 subV3 abV3 colV3 ddV3 kaV3 kbV3 kcV3 kdV3 keV3 "Exception.__new__"))
    (va_BadPlace : PySem.W.findIn K (.ref C3) "__setattr__" = some (some (.builtin "object.__setattr__")))
    (vi_BadPlace : PySem.W.findIn K (.ref C3) "__init__" = some (some (.ref fIV3)))
    (vt_BadPlace : PySem.W.typeIn K (.ref fIV3) = some (.type "function"))
    (vl_BadPlace : K.lookup fIV3 = some ⟨ocV3, odV3, .func (PySem.W.fnOf "__init__" "BadPlace.__init__" (defArgs s_BadPlace_mk) (defBody s_BadPlace_mk) (defScope s_BadPlace_mk) .none kVV3 dcV3 pmV3 anV3 cdV3 ctV3), slV3⟩)
    (vc_BadPlace : PySem.W.codeIn K cdV3 "BadPlace.__init__" = true)
    (vk_BadPlace : PySem.W.keepIn K (.ref fIV3) = true)
    (xu_BadBlock_LookupError : PySem.W.subIn K (.ref C2) (.type "LookupError") = some false)
    (xu_BadBlock_ValueError : PySem.W.subIn K (.ref C2) (.type "ValueError") = some false)
    (xu_BadCut_LookupError : PySem.W.subIn K (.ref C4) (.type "LookupError") = some false)
    (xu_BadCut_ValueError : PySem.W.subIn K (.ref C4) (.type "ValueError") = some false)
    (xu_BadNumber_LookupError : PySem.W.subIn K (.ref C5) (.type "LookupError") = some false)
    (xu_BadNumber_ValueError : PySem.W.subIn K (.ref C5) (.type "ValueError") = some false)
    (xu_BadPlace_LookupError : PySem.W.subIn K (.ref C3) (.type "LookupError") = some false)
    (xu_BadPlace_ValueError : PySem.W.subIn K (.ref C3) (.type "ValueError") = some false)
    (xu_PowerCut_LookupError : PySem.W.subIn K (.ref C1) (.type "LookupError") = some false)
    (xu_PowerCut_ValueError : PySem.W.subIn K (.ref C1) (.type "ValueError") = some false)
    (xi_get : PySem.W.specialIn K (.builtin "object.__class__") "__get__" = some (some (.builtin "getset_descriptor.__get__")))
    (xi_take : PySem.W.takesIn K (.builtin "object.__class__") = some true)
    (xh_BadBlock : PySem.W.findIn K (.ref C2) "__getattribute__" = some (some (.builtin "BaseException.__getattribute__")))
    (xj_BadBlock : PySem.W.findIn K (.ref C2) "__getattr__" = some none)
    (xd_BadBlock : PySem.W.hasDictIn K C2 = true)
    (xca_BadBlock : PySem.W.findIn K (.ref C2) "__class__" = some (some (.builtin "object.__class__")))
    (xmo_BadBlock : PySem.W.mroIn K C2 (.type "object") = some true)
    (xh_BadCut : PySem.W.findIn K (.ref C4) "__getattribute__" = some (some (.builtin "BaseException.__getattribute__")))
    (xj_BadCut : PySem.W.findIn K (.ref C4) "__getattr__" = some none)
    (xd_BadCut : PySem.W.hasDictIn K C4 = true)
    (xca_BadCut : PySem.W.findIn K (.ref C4) "__class__" = some (some (.builtin "object.__class__")))
    (xmo_BadCut : PySem.W.mroIn K C4 (.type "object") = some true)
    (xh_BadNumber : PySem.W.findIn K (.ref C5) "__getattribute__" = some (some (.builtin "BaseException.__getattribute__")))
    (xj_BadNumber : PySem.W.findIn K (.ref C5) "__getattr__" = some none)
    (xd_BadNumber : PySem.W.hasDictIn K C5 = true)
    (xca_BadNumber : PySem.W.findIn K (.ref C5) "__class__" = some (some (.builtin "object.__class__")))
    (xmo_BadNumber : PySem.W.mroIn K C5 (.type "object") = some true)
    (xh_BadPlace : PySem.W.findIn K (.ref C3) "__getattribute__" = some (some (.builtin "BaseException.__getattribute__")))
    (xj_BadPlace : PySem.W.findIn K (.ref C3) "__getattr__" = some none)
    (xd_BadPlace : PySem.W.hasDictIn K C3 = true)
    (xca_BadPlace : PySem.W.findIn K (.ref C3) "__class__" = some (some (.builtin "object.__class__")))
    (xmo_BadPlace : PySem.W.mroIn K C3 (.type "object") = some true)
    (xh_PowerCut : PySem.W.findIn K (.ref C1) "__getattribute__" = some (some (.builtin "BaseException.__getattribute__")))
    (xj_PowerCut : PySem.W.findIn K (.ref C1) "__getattr__" = some none)
    (xd_PowerCut : PySem.W.hasDictIn K C1 = true)
    (xca_PowerCut : PySem.W.findIn K (.ref C1) "__class__" = some (some (.builtin "object.__class__")))
    (xmo_PowerCut : PySem.W.mroIn K C1 (.type "object") = some true)
    (no_BadBlock_thing : PySem.W.findIn K (.ref C2) "thing" = some none)
    (no_BadCut_thing : PySem.W.findIn K (.ref C4) "thing" = some none)
    (no_BadNumber_thing : PySem.W.findIn K (.ref C5) "thing" = some none)
    (no_BadPlace_thing : PySem.W.findIn K (.ref C3) "thing" = some none)
    (pg_Disk : PySem.W.plainGet K C0 Str.empty = true)
    (hd_Disk : PySem.W.hasDictIn K C0 = true)
    (po_Disk : PySem.W.plainOver K C0 = true)
    (sa_Disk : PySem.W.findIn K (.ref C0) "__setattr__" = some (some (.builtin "object.__setattr__")))
    (na_Disk_blocks : PySem.W.findIn K (.ref C0) "blocks" = some none)
    (na_Disk_k : PySem.W.findIn K (.ref C0) "k" = some none)
    (na_Disk_left : PySem.W.findIn K (.ref C0) "left" = some none)
    (na_Disk_n : PySem.W.findIn K (.ref C0) "n" = some none)
    (na_Disk_newest : PySem.W.findIn K (.ref C0) "newest" = some none)
    (na_Disk_queue : PySem.W.findIn K (.ref C0) "queue" = some none)
    (na_Disk_r : PySem.W.findIn K (.ref C0) "r" = some none)
    (na_Disk_s : PySem.W.findIn K (.ref C0) "s" = some none)
    (a0 : PySem.W.nsIn K mainGlobals "is_integer" = some (some (.ref f0)))
    (l0 : K.lookup f0 = some ⟨oc0, od0, .func (PySem.W.fnOf "is_integer" "is_integer" (defArgs s_is_integer) (defBody s_is_integer) (defScope s_is_integer) .none kV0 dc0 pm0 an0 cd0 ct0), sl0⟩)
    (c0 : PySem.W.codeIn K cd0 "is_integer" = true)
    (k0 : PySem.W.keepIn K (.ref f0) = true)
    (a1 : PySem.W.nsIn K mainGlobals "is_between" = some (some (.ref f1)))
    (l1 : K.lookup f1 = some ⟨oc1, od1, .func (PySem.W.fnOf "is_between" "is_between" (defArgs s_is_between) (defBody s_is_between) (defScope s_is_between) .none kV1 dc1 pm1 an1 cd1 ct1), sl1⟩)
    (c1 : PySem.W.codeIn K cd1 "is_between" = true)
    (k1 : PySem.W.keepIn K (.ref f1) = true)
    (a2 : PySem.W.nsIn K mainGlobals "need_sizes" = some (some (.ref f2)))
    (l2 : K.lookup f2 = some ⟨oc2, od2, .func (PySem.W.fnOf "need_sizes" "need_sizes" (defArgs s_need_sizes) (defBody s_need_sizes) (defScope s_need_sizes) .none kV2 dc2 pm2 an2 cd2 ct2), sl2⟩)
    (c2 : PySem.W.codeIn K cd2 "need_sizes" = true)
    (k2 : PySem.W.keepIn K (.ref f2) = true)
    (a3 : PySem.W.nsIn K mainGlobals "room_of" = some (some (.ref f3)))
    (l3 : K.lookup f3 = some ⟨oc3, od3, .func (PySem.W.fnOf "room_of" "room_of" (defArgs s_room_of) (defBody s_room_of) (defScope s_room_of) .none kV3 dc3 pm3 an3 cd3 ct3), sl3⟩)
    (c3 : PySem.W.codeIn K cd3 "room_of" = true)
    (k3 : PySem.W.keepIn K (.ref f3) = true)
    (a4 : PySem.W.nsIn K mainGlobals "root_blocks_of" = some (some (.ref f4)))
    (l4 : K.lookup f4 = some ⟨oc4, od4, .func (PySem.W.fnOf "root_blocks_of" "root_blocks_of" (defArgs s_root_blocks_of) (defBody s_root_blocks_of) (defScope s_root_blocks_of) .none kV4 dc4 pm4 an4 cd4 ct4), sl4⟩)
    (c4 : PySem.W.codeIn K cd4 "root_blocks_of" = true)
    (k4 : PySem.W.keepIn K (.ref f4) = true)
    (a5 : PySem.W.findIn K (.ref C0) "__init__" = some (some (.ref f5)))
    (i5 : PySem.W.isFn K (.ref f5) = true)
    (l5 : K.lookup f5 = some ⟨oc5, od5, .func (PySem.W.fnOf "__init__" "Disk.__init__" (defArgs s_Disk_mk) (defBody s_Disk_mk) (defScope s_Disk_mk) .none kV5 dc5 pm5 an5 cd5 ct5), sl5⟩)
    (c5 : PySem.W.codeIn K cd5 "Disk.__init__" = true)
    (k5 : PySem.W.keepIn K (.ref f5) = true)
    (mk_Disk : PySem.W.makesIn K C0 = true)
    (kc_Disk : PySem.W.keepIn K (.ref C0) = true)
    (a6 : PySem.W.nsIn K mainGlobals "is_keep" = some (some (.ref f6)))
    (l6 : K.lookup f6 = some ⟨oc6, od6, .func (PySem.W.fnOf "is_keep" "is_keep" (defArgs s_is_keep) (defBody s_is_keep) (defScope s_is_keep) .none kV6 dc6 pm6 an6 cd6 ct6), sl6⟩)
    (c6 : PySem.W.codeIn K cd6 "is_keep" = true)
    (k6 : PySem.W.keepIn K (.ref f6) = true)
    (a7 : PySem.W.findIn K (.ref C0) "cut" = some (some (.ref f7)))
    (i7 : PySem.W.isFn K (.ref f7) = true)
    (l7 : K.lookup f7 = some ⟨oc7, od7, .func (PySem.W.fnOf "cut" "Disk.cut" (defArgs s_Disk_cut) (defBody s_Disk_cut) (defScope s_Disk_cut) .none kV7 dc7 pm7 an7 cd7 ct7), sl7⟩)
    (c7 : PySem.W.codeIn K cd7 "Disk.cut" = true)
    (k7 : PySem.W.keepIn K (.ref f7) = true)
    (a8 : PySem.W.findIn K (.ref C0) "fuse" = some (some (.ref f8)))
    (i8 : PySem.W.isFn K (.ref f8) = true)
    (l8 : K.lookup f8 = some ⟨oc8, od8, .func (PySem.W.fnOf "fuse" "Disk.fuse" (defArgs s_Disk_fuse) (defBody s_Disk_fuse) (defScope s_Disk_fuse) .none kV8 dc8 pm8 an8 cd8 ct8), sl8⟩)
    (c8 : PySem.W.codeIn K cd8 "Disk.fuse" = true)
    (k8 : PySem.W.keepIn K (.ref f8) = true)
    (a9 : PySem.W.findIn K (.ref C0) "need_place" = some (some (.ref f9)))
    (i9 : PySem.W.isFn K (.ref f9) = true)
    (l9 : K.lookup f9 = some ⟨oc9, od9, .func (PySem.W.fnOf "need_place" "Disk.need_place" (defArgs s_Disk_need_place) (defBody s_Disk_need_place) (defScope s_Disk_need_place) .none kV9 dc9 pm9 an9 cd9 ct9), sl9⟩)
    (c9 : PySem.W.codeIn K cd9 "Disk.need_place" = true)
    (k9 : PySem.W.keepIn K (.ref f9) = true)
    (a10 : PySem.W.findIn K (.ref C0) "read" = some (some (.ref f10)))
    (i10 : PySem.W.isFn K (.ref f10) = true)
    (l10 : K.lookup f10 = some ⟨oc10, od10, .func (PySem.W.fnOf "read" "Disk.read" (defArgs s_Disk_read) (defBody s_Disk_read) (defScope s_Disk_read) .none kV10 dc10 pm10 an10 cd10 ct10), sl10⟩)
    (c10 : PySem.W.codeIn K cd10 "Disk.read" = true)
    (k10 : PySem.W.keepIn K (.ref f10) = true)
    (a11 : PySem.W.findIn K (.ref C0) "sizes" = some (some (.ref f11)))
    (i11 : PySem.W.isFn K (.ref f11) = true)
    (l11 : K.lookup f11 = some ⟨oc11, od11, .func (PySem.W.fnOf "sizes" "Disk.sizes" (defArgs s_Disk_sizes) (defBody s_Disk_sizes) (defScope s_Disk_sizes) .none kV11 dc11 pm11 an11 cd11 ct11), sl11⟩)
    (c11 : PySem.W.codeIn K cd11 "Disk.sizes" = true)
    (k11 : PySem.W.keepIn K (.ref f11) = true)
    (a12 : PySem.W.findIn K (.ref C0) "standing" = some (some (.ref f12)))
    (i12 : PySem.W.isFn K (.ref f12) = true)
    (l12 : K.lookup f12 = some ⟨oc12, od12, .func (PySem.W.fnOf "standing" "Disk.standing" (defArgs s_Disk_standing) (defBody s_Disk_standing) (defScope s_Disk_standing) .none kV12 dc12 pm12 an12 cd12 ct12), sl12⟩)
    (c12 : PySem.W.codeIn K cd12 "Disk.standing" = true)
    (k12 : PySem.W.keepIn K (.ref f12) = true)
    (a13 : PySem.W.findIn K (.ref C0) "waiting" = some (some (.ref f13)))
    (i13 : PySem.W.isFn K (.ref f13) = true)
    (l13 : K.lookup f13 = some ⟨oc13, od13, .func (PySem.W.fnOf "waiting" "Disk.waiting" (defArgs s_Disk_waiting) (defBody s_Disk_waiting) (defScope s_Disk_waiting) .none kV13 dc13 pm13 an13 cd13 ct13), sl13⟩)
    (c13 : PySem.W.codeIn K cd13 "Disk.waiting" = true)
    (k13 : PySem.W.keepIn K (.ref f13) = true)
    (a14 : PySem.W.nsIn K mainGlobals "_law_many" = some (some (.ref f14)))
    (l14 : K.lookup f14 = some ⟨oc14, od14, .func (PySem.W.fnOf "_law_many" "_law_many" (defArgs s_law_many) (defBody s_law_many) (defScope s_law_many) .none kV14 dc14 pm14 an14 cd14 ct14), sl14⟩)
    (c14 : PySem.W.codeIn K cd14 "_law_many" = true)
    (k14 : PySem.W.keepIn K (.ref f14) = true)
    (a15 : PySem.W.nsIn K mainGlobals "_law_blank" = some (some (.ref f15)))
    (l15 : K.lookup f15 = some ⟨oc15, od15, .func (PySem.W.fnOf "_law_blank" "_law_blank" (defArgs s_law_blank) (defBody s_law_blank) (defScope s_law_blank) .none kV15 dc15 pm15 an15 cd15 ct15), sl15⟩)
    (c15 : PySem.W.codeIn K cd15 "_law_blank" = true)
    (k15 : PySem.W.keepIn K (.ref f15) = true)
    (a16 : PySem.W.nsIn K mainGlobals "_law_deck" = some (some (.ref f16)))
    (l16 : K.lookup f16 = some ⟨oc16, od16, .func (PySem.W.fnOf "_law_deck" "_law_deck" (defArgs s_law_deck) (defBody s_law_deck) (defScope s_law_deck) .none kV16 dc16 pm16 an16 cd16 ct16), sl16⟩)
    (c16 : PySem.W.codeIn K cd16 "_law_deck" = true)
    (k16 : PySem.W.keepIn K (.ref f16) = true)
    (a17 : PySem.W.nsIn K mainGlobals "_law_draw" = some (some (.ref f17)))
    (l17 : K.lookup f17 = some ⟨oc17, od17, .func (PySem.W.fnOf "_law_draw" "_law_draw" (defArgs s_law_draw) (defBody s_law_draw) (defScope s_law_draw) .none kV17 dc17 pm17 an17 cd17 ct17), sl17⟩)
    (c17 : PySem.W.codeIn K cd17 "_law_draw" = true)
    (k17 : PySem.W.keepIn K (.ref f17) = true)
    (a18 : PySem.W.nsIn K mainGlobals "_law_sizes" = some (some (.ref f18)))
    (l18 : K.lookup f18 = some ⟨oc18, od18, .func (PySem.W.fnOf "_law_sizes" "_law_sizes" (defArgs s_law_sizes) (defBody s_law_sizes) (defScope s_law_sizes) .none kV18 dc18 pm18 an18 cd18 ct18), sl18⟩)
    (c18 : PySem.W.codeIn K cd18 "_law_sizes" = true)
    (k18 : PySem.W.keepIn K (.ref f18) = true)
    (a19 : PySem.W.nsIn K mainGlobals "_law_drawn_sizes" = some (some (.ref f19)))
    (l19 : K.lookup f19 = some ⟨oc19, od19, .func (PySem.W.fnOf "_law_drawn_sizes" "_law_drawn_sizes" (defArgs s_law_drawn_sizes) (defBody s_law_drawn_sizes) (defScope s_law_drawn_sizes) .none kV19 dc19 pm19 an19 cd19 ct19), sl19⟩)
    (c19 : PySem.W.codeIn K cd19 "_law_drawn_sizes" = true)
    (k19 : PySem.W.keepIn K (.ref f19) = true)
    (a20 : PySem.W.nsIn K mainGlobals "_law_fell" = some (some (.ref f20)))
    (l20 : K.lookup f20 = some ⟨oc20, od20, .func (PySem.W.fnOf "_law_fell" "_law_fell" (defArgs s_law_fell) (defBody s_law_fell) (defScope s_law_fell) .none kV20 dc20 pm20 an20 cd20 ct20), sl20⟩)
    (c20 : PySem.W.codeIn K cd20 "_law_fell" = true)
    (k20 : PySem.W.keepIn K (.ref f20) = true)
    (a21 : PySem.W.findIn K (.ref C0) "burn" = some (some (.ref f21)))
    (i21 : PySem.W.isFn K (.ref f21) = true)
    (l21 : K.lookup f21 = some ⟨oc21, od21, .func (PySem.W.fnOf "burn" "Disk.burn" (defArgs s_Disk_burn_x) (defBody s_Disk_burn_x) (defScope s_Disk_burn_x) .none kV21 dc21 pm21 an21 cd21 ct21), sl21⟩)
    (c21 : PySem.W.codeIn K cd21 "Disk.burn" = true)
    (k21 : PySem.W.keepIn K (.ref f21) = true)
    (a22 : PySem.W.findIn K (.ref C0) "force" = some (some (.ref f22)))
    (i22 : PySem.W.isFn K (.ref f22) = true)
    (l22 : K.lookup f22 = some ⟨oc22, od22, .func (PySem.W.fnOf "force" "Disk.force" (defArgs s_Disk_force_x) (defBody s_Disk_force_x) (defScope s_Disk_force_x) .none kV22 dc22 pm22 an22 cd22 ct22), sl22⟩)
    (c22 : PySem.W.codeIn K cd22 "Disk.force" = true)
    (k22 : PySem.W.keepIn K (.ref f22) = true)
    (a23 : PySem.W.nsIn K mainGlobals "is_word" = some (some (.ref f23)))
    (l23 : K.lookup f23 = some ⟨oc23, od23, .func (PySem.W.fnOf "is_word" "is_word" (defArgs s_is_word) (defBody s_is_word) (defScope s_is_word) .none kV23 dc23 pm23 an23 cd23 ct23), sl23⟩)
    (c23 : PySem.W.codeIn K cd23 "is_word" = true)
    (k23 : PySem.W.keepIn K (.ref f23) = true)
    (a24 : PySem.W.nsIn K mainGlobals "are_words" = some (some (.ref f24)))
    (l24 : K.lookup f24 = some ⟨oc24, od24, .func (PySem.W.fnOf "are_words" "are_words" (defArgs s_are_words) (defBody s_are_words) (defScope s_are_words) .none kV24 dc24 pm24 an24 cd24 ct24), sl24⟩)
    (c24 : PySem.W.codeIn K cd24 "are_words" = true)
    (k24 : PySem.W.keepIn K (.ref f24) = true)
    (a25 : PySem.W.nsIn K mainGlobals "is_block" = some (some (.ref f25)))
    (l25 : K.lookup f25 = some ⟨oc25, od25, .func (PySem.W.fnOf "is_block" "is_block" (defArgs s_is_block) (defBody s_is_block) (defScope s_is_block) .none kV25 dc25 pm25 an25 cd25 ct25), sl25⟩)
    (c25 : PySem.W.codeIn K cd25 "is_block" = true)
    (k25 : PySem.W.keepIn K (.ref f25) = true)
    (a26 : PySem.W.findIn K (.ref C0) "write" = some (some (.ref f26)))
    (i26 : PySem.W.isFn K (.ref f26) = true)
    (l26 : K.lookup f26 = some ⟨oc26, od26, .func (PySem.W.fnOf "write" "Disk.write" (defArgs s_Disk_write_x) (defBody s_Disk_write_x) (defScope s_Disk_write_x) .none kV26 dc26 pm26 an26 cd26 ct26), sl26⟩)
    (c26 : PySem.W.codeIn K cd26 "Disk.write" = true)
    (k26 : PySem.W.keepIn K (.ref f26) = true)
    (a27 : PySem.W.nsIn K mainGlobals "_law_passed" = some (some (.ref f27)))
    (l27 : K.lookup f27 = some ⟨oc27, od27, .func (PySem.W.fnOf "_law_passed" "_law_passed" (defArgs s_law_passed) (defBody s_law_passed) (defScope s_law_passed) .none kV27 dc27 pm27 an27 cd27 ct27), sl27⟩)
    (c27 : PySem.W.codeIn K cd27 "_law_passed" = true)
    (k27 : PySem.W.keepIn K (.ref f27) = true)
    (a28 : PySem.W.nsIn K mainGlobals "_law_pick" = some (some (.ref f28)))
    (l28 : K.lookup f28 = some ⟨oc28, od28, .func (PySem.W.fnOf "_law_pick" "_law_pick" (defArgs s_law_pick) (defBody s_law_pick) (defScope s_law_pick) .none kV28 dc28 pm28 an28 cd28 ct28), sl28⟩)
    (c28 : PySem.W.codeIn K cd28 "_law_pick" = true)
    (k28 : PySem.W.keepIn K (.ref f28) = true)
    (a29 : PySem.W.nsIn K mainGlobals "_law_are_wrong_refused" = some (some (.ref f29)))
    (l29 : K.lookup f29 = some ⟨oc29, od29, .func (PySem.W.fnOf "_law_are_wrong_refused" "_law_are_wrong_refused" (defArgs s_law_are_wrong_refused) (defBody s_law_are_wrong_refused) (defScope s_law_are_wrong_refused) .none kV29 dc29 pm29 an29 cd29 ct29), sl29⟩)
    (c29 : PySem.W.codeIn K cd29 "_law_are_wrong_refused" = true)
    (k29 : PySem.W.keepIn K (.ref f29) = true)
    (ht_0 : PySem.W.tabIn K "_law_are_wrong_refused" = some (KC0, KP0))
    (hn_0 : K.lookup KP0 = none)
    (a30 : PySem.W.nsIn K mainGlobals "_law_word" = some (some (.ref f30)))
    (l30 : K.lookup f30 = some ⟨oc30, od30, .func (PySem.W.fnOf "_law_word" "_law_word" (defArgs s_law_word) (defBody s_law_word) (defScope s_law_word) .none kV30 dc30 pm30 an30 cd30 ct30), sl30⟩)
    (c30 : PySem.W.codeIn K cd30 "_law_word" = true)
    (k30 : PySem.W.keepIn K (.ref f30) = true)
    (a31 : PySem.W.nsIn K mainGlobals "_law_block" = some (some (.ref f31)))
    (l31 : K.lookup f31 = some ⟨oc31, od31, .func (PySem.W.fnOf "_law_block" "_law_block" (defArgs s_law_block) (defBody s_law_block) (defScope s_law_block) .none kV31 dc31 pm31 an31 cd31 ct31), sl31⟩)
    (c31 : PySem.W.codeIn K cd31 "_law_block" = true)
    (k31 : PySem.W.keepIn K (.ref f31) = true)
    (a32 : PySem.W.nsIn K mainGlobals "_law_forced" = some (some (.ref f32)))
    (l32 : K.lookup f32 = some ⟨oc32, od32, .func (PySem.W.fnOf "_law_forced" "_law_forced" (defArgs s_law_forced) (defBody s_law_forced) (defScope s_law_forced) .none kV32 dc32 pm32 an32 cd32 ct32), sl32⟩)
    (c32 : PySem.W.codeIn K cd32 "_law_forced" = true)
    (k32 : PySem.W.keepIn K (.ref f32) = true)
    (a33 : PySem.W.nsIn K mainGlobals "_law_read" = some (some (.ref f33)))
    (l33 : K.lookup f33 = some ⟨oc33, od33, .func (PySem.W.fnOf "_law_read" "_law_read" (defArgs s_law_read) (defBody s_law_read) (defScope s_law_read) .none kV33 dc33 pm33 an33 cd33 ct33), sl33⟩)
    (c33 : PySem.W.codeIn K cd33 "_law_read" = true)
    (k33 : PySem.W.keepIn K (.ref f33) = true)
    (a34 : PySem.W.nsIn K mainGlobals "_law_is_call_right" = some (some (.ref f34)))
    (l34 : K.lookup f34 = some ⟨oc34, od34, .func (PySem.W.fnOf "_law_is_call_right" "_law_is_call_right" (defArgs s_law_is_call_right) (defBody s_law_is_call_right) (defScope s_law_is_call_right) .none kV34 dc34 pm34 an34 cd34 ct34), sl34⟩)
    (c34 : PySem.W.codeIn K cd34 "_law_is_call_right" = true)
    (k34 : PySem.W.keepIn K (.ref f34) = true)
    (ht_1 : PySem.W.tabIn K "_law_is_call_right" = some (KC1, KP1))
    (hn_1 : K.lookup KP1 = none)
    (a35 : PySem.W.nsIn K mainGlobals "_law_keep" = some (some (.ref f35)))
    (l35 : K.lookup f35 = some ⟨oc35, od35, .func (PySem.W.fnOf "_law_keep" "_law_keep" (defArgs s_law_keep) (defBody s_law_keep) (defScope s_law_keep) .none kV35 dc35 pm35 an35 cd35 ct35), sl35⟩)
    (c35 : PySem.W.codeIn K cd35 "_law_keep" = true)
    (k35 : PySem.W.keepIn K (.ref f35) = true)
    (a36 : PySem.W.nsIn K mainGlobals "law" = some (some (.ref f36)))
    (l36 : K.lookup f36 = some ⟨oc36, od36, .func (PySem.W.fnOf "law" "law" (defArgs s_law) (defBody s_law) (defScope s_law) .none kV36 dc36 pm36 an36 cd36 ct36), sl36⟩)
    (c36 : PySem.W.codeIn K cd36 "law" = true)
    (k36 : PySem.W.keepIn K (.ref f36) = true)
    (tn_ : ([KP0, KP1] : List Addr).Nodup) :
    ∃ (fd : FuncData) (kx : Kx) (ts : List (Addr × List Int)) (ct : List (Addr × Addr × Str)), Held K h ts ∧ (kx.cs = ts.map fun p => (V.ref p.1, Dv.tup (p.2.map Dv.int))) ∧ (kx.tt = ct.map fun p => (p.2.1, p.2.2)) ∧ (∀ p ∈ ct, ∃ m ∈ ms_, PySem.W.tabIn K m = some (p.1, p.2.1) ∧ K.lookup p.2.1 = none) ∧ (∀ (s : Shared) (v : Value), BindsTo s fd ⟨[v], []⟩ [("script", v)]) ∧
      ∀ base : Heap, K.In base → base.Ns mainGlobals mg → (∀ p ∈ ct, LamX.TabB base mg p.1 p.2.1) → FnM l.prog w K kx mg base 11 fa fd ["script"] m_law := by
  subst hlw
  have L := L0
  obtain ⟨t0, h_BLANK⟩ := loose_tup (K := K) (x := "BLANK") (ns := ns_BLANK) L (by decide +kernel) (by rw [show ns_BLANK.length = 32 from rfl, ← big_line]; decide)
  let ct : List (Addr × Addr × Str) := [(KC0, KP0, ("_law_are_wrong_refused" : Str) ++ ".<locals>." ++ "<lambda>"), (KC1, KP1, ("_law_is_call_right" : Str) ++ ".<locals>." ++ "<lambda>")]
  let kx : Kx := ⟨fun n => [C0, C1, C2, C3, C4, C5, C6].getD n 0, ([(t0, ns_BLANK)] : List (Addr × List Int)).map fun p => (V.ref p.1, Dv.tup (p.2.map Dv.int)), ct.map fun p => (p.2.1, p.2.2)⟩
  have e := hfa.symm.trans (PySem.W.mg_of kin hns a36)
  cases e
  refine ⟨PySem.W.fnOf "law" "law" (defArgs s_law) (defBody s_law) (defScope s_law) .none kV36 dc36 pm36 an36 cd36 ct36, kx, [(t0, ns_BLANK)], ct, h_BLANK.2, rfl, rfl, ?_, fun s v => .of_eq rfl, fun base _ _ TB => ?_⟩
  · intro p hp
    simp only [ct, List.mem_cons, List.not_mem_nil, or_false] at hp
    rcases hp with rfl | rfl
    · exact ⟨"_law_are_wrong_refused", by simp [ms_], ht_0, hn_0⟩
    · exact ⟨"_law_is_call_right", by simp [ms_], ht_1, hn_1⟩
  have mk_0 : Mkr K mg base kx ("_law_are_wrong_refused" ++ ".<locals>.") cd29 := ⟨KC0, KP0, tab_code ht_0 a29 l29, TB (KC0, KP0, ("_law_are_wrong_refused" : Str) ++ ".<locals>." ++ "<lambda>") (.head _), (.head _), uniq_of (l := kx.tt) tn_ (.head _)⟩
  have mk_1 : Mkr K mg base kx ("_law_is_call_right" ++ ".<locals>.") cd34 := ⟨KC1, KP1, tab_code ht_1 a34 l34, TB (KC1, KP1, ("_law_is_call_right" : Str) ++ ".<locals>." ++ "<lambda>") (.tail _ (.head _)), (.tail _ (.head _)), uniq_of (l := kx.tt) tn_ (.tail _ (.head _))⟩
  have sub_ok_ : SubOk K kx sub_ := by
    intro c d b h
    unfold sub_ at h
    rcases if_case h with ⟨⟨rfl, rfl⟩, h⟩ | h
    · cases h
      exact exm_pair xb_BadBlock xi_BadBlock xt_BadBlock xs_BadBlock_BadBlock
    rcases if_case h with ⟨⟨rfl, rfl⟩, h⟩ | h
    · cases h
      exact exm_pair xb_BadCut xi_BadCut xt_BadCut xs_BadBlock_BadCut
    rcases if_case h with ⟨⟨rfl, rfl⟩, h⟩ | h
    · cases h
      exact exm_pair xb_BadNumber xi_BadNumber xt_BadNumber xs_BadBlock_BadNumber
    rcases if_case h with ⟨⟨rfl, rfl⟩, h⟩ | h
    · cases h
      exact exm_pair xb_BadPlace xi_BadPlace xt_BadPlace xs_BadBlock_BadPlace
    rcases if_case h with ⟨⟨rfl, rfl⟩, h⟩ | h
    · cases h
      exact exm_pair xb_PowerCut xi_PowerCut xt_PowerCut xs_BadBlock_PowerCut
    rcases if_case h with ⟨⟨rfl, rfl⟩, h⟩ | h
    · cases h
      exact exm_pair xb_TrailError xi_TrailError xt_TrailError xs_BadBlock_TrailError
    rcases if_case h with ⟨⟨rfl, rfl⟩, h⟩ | h
    · cases h
      exact exm_pair xb_BadBlock xi_BadBlock xt_BadBlock xs_BadCut_BadBlock
    rcases if_case h with ⟨⟨rfl, rfl⟩, h⟩ | h
    · cases h
      exact exm_pair xb_BadCut xi_BadCut xt_BadCut xs_BadCut_BadCut
    rcases if_case h with ⟨⟨rfl, rfl⟩, h⟩ | h
    · cases h
      exact exm_pair xb_BadNumber xi_BadNumber xt_BadNumber xs_BadCut_BadNumber
    rcases if_case h with ⟨⟨rfl, rfl⟩, h⟩ | h
    · cases h
      exact exm_pair xb_BadPlace xi_BadPlace xt_BadPlace xs_BadCut_BadPlace
    rcases if_case h with ⟨⟨rfl, rfl⟩, h⟩ | h
    · cases h
      exact exm_pair xb_PowerCut xi_PowerCut xt_PowerCut xs_BadCut_PowerCut
    rcases if_case h with ⟨⟨rfl, rfl⟩, h⟩ | h
    · cases h
      exact exm_pair xb_TrailError xi_TrailError xt_TrailError xs_BadCut_TrailError
    rcases if_case h with ⟨⟨rfl, rfl⟩, h⟩ | h
    · cases h
      exact exm_pair xb_BadBlock xi_BadBlock xt_BadBlock xs_BadNumber_BadBlock
    rcases if_case h with ⟨⟨rfl, rfl⟩, h⟩ | h
    · cases h
      exact exm_pair xb_BadCut xi_BadCut xt_BadCut xs_BadNumber_BadCut
    rcases if_case h with ⟨⟨rfl, rfl⟩, h⟩ | h
    · cases h
      exact exm_pair xb_BadNumber xi_BadNumber xt_BadNumber xs_BadNumber_BadNumber
    rcases if_case h with ⟨⟨rfl, rfl⟩, h⟩ | h
    · cases h
      exact exm_pair xb_BadPlace xi_BadPlace xt_BadPlace xs_BadNumber_BadPlace
    rcases if_case h with ⟨⟨rfl, rfl⟩, h⟩ | h
    · cases h
      exact exm_pair xb_PowerCut xi_PowerCut xt_PowerCut xs_BadNumber_PowerCut
    rcases if_case h with ⟨⟨rfl, rfl⟩, h⟩ | h
    · cases h
      exact exm_pair xb_TrailError xi_TrailError xt_TrailError xs_BadNumber_TrailError
    rcases if_case h with ⟨⟨rfl, rfl⟩, h⟩ | h
    · cases h
      exact exm_pair xb_BadBlock xi_BadBlock xt_BadBlock xs_BadPlace_BadBlock
    rcases if_case h with ⟨⟨rfl, rfl⟩, h⟩ | h
    · cases h
      exact exm_pair xb_BadCut xi_BadCut xt_BadCut xs_BadPlace_BadCut
    rcases if_case h with ⟨⟨rfl, rfl⟩, h⟩ | h
    · cases h
      exact exm_pair xb_BadNumber xi_BadNumber xt_BadNumber xs_BadPlace_BadNumber
    rcases if_case h with ⟨⟨rfl, rfl⟩, h⟩ | h
    · cases h
      exact exm_pair xb_BadPlace xi_BadPlace xt_BadPlace xs_BadPlace_BadPlace
    rcases if_case h with ⟨⟨rfl, rfl⟩, h⟩ | h
    · cases h
      exact exm_pair xb_PowerCut xi_PowerCut xt_PowerCut xs_BadPlace_PowerCut
    rcases if_case h with ⟨⟨rfl, rfl⟩, h⟩ | h
    · cases h
      exact exm_pair xb_TrailError xi_TrailError xt_TrailError xs_BadPlace_TrailError
    rcases if_case h with ⟨⟨rfl, rfl⟩, h⟩ | h
    · cases h
      exact exm_pair xb_BadBlock xi_BadBlock xt_BadBlock xs_PowerCut_BadBlock
    rcases if_case h with ⟨⟨rfl, rfl⟩, h⟩ | h
    · cases h
      exact exm_pair xb_BadCut xi_BadCut xt_BadCut xs_PowerCut_BadCut
    rcases if_case h with ⟨⟨rfl, rfl⟩, h⟩ | h
    · cases h
      exact exm_pair xb_BadNumber xi_BadNumber xt_BadNumber xs_PowerCut_BadNumber
    rcases if_case h with ⟨⟨rfl, rfl⟩, h⟩ | h
    · cases h
      exact exm_pair xb_BadPlace xi_BadPlace xt_BadPlace xs_PowerCut_BadPlace
    rcases if_case h with ⟨⟨rfl, rfl⟩, h⟩ | h
    · cases h
      exact exm_pair xb_PowerCut xi_PowerCut xt_PowerCut xs_PowerCut_PowerCut
    rcases if_case h with ⟨⟨rfl, rfl⟩, h⟩ | h
    · cases h
      exact exm_pair xb_TrailError xi_TrailError xt_TrailError xs_PowerCut_TrailError
    cases h
  have bt_ok_ : BtOk K kx bt_ := by
    intro c n b h
    unfold bt_ at h
    rcases if_case h with ⟨⟨rfl, rfl⟩, h⟩ | h
    · cases h
      exact kit_bt (by decide +kernel) xu_BadBlock_LookupError
    rcases if_case h with ⟨⟨rfl, rfl⟩, h⟩ | h
    · cases h
      exact kit_bt (by decide +kernel) xu_BadBlock_ValueError
    rcases if_case h with ⟨⟨rfl, rfl⟩, h⟩ | h
    · cases h
      exact kit_bt (by decide +kernel) xu_BadCut_LookupError
    rcases if_case h with ⟨⟨rfl, rfl⟩, h⟩ | h
    · cases h
      exact kit_bt (by decide +kernel) xu_BadCut_ValueError
    rcases if_case h with ⟨⟨rfl, rfl⟩, h⟩ | h
    · cases h
      exact kit_bt (by decide +kernel) xu_BadNumber_LookupError
    rcases if_case h with ⟨⟨rfl, rfl⟩, h⟩ | h
    · cases h
      exact kit_bt (by decide +kernel) xu_BadNumber_ValueError
    rcases if_case h with ⟨⟨rfl, rfl⟩, h⟩ | h
    · cases h
      exact kit_bt (by decide +kernel) xu_BadPlace_LookupError
    rcases if_case h with ⟨⟨rfl, rfl⟩, h⟩ | h
    · cases h
      exact kit_bt (by decide +kernel) xu_BadPlace_ValueError
    rcases if_case h with ⟨⟨rfl, rfl⟩, h⟩ | h
    · cases h
      exact kit_bt (by decide +kernel) xu_PowerCut_LookupError
    rcases if_case h with ⟨⟨rfl, rfl⟩, h⟩ | h
    · cases h
      exact kit_bt (by decide +kernel) xu_PowerCut_ValueError
    cases h
  have T : Tx K kx mg base := ⟨
    PySem.W.mg_none_of kin hns zb_LookupError,
    PySem.W.mg_none_of kin hns zb_ValueError,
    PySem.W.mg_none_of kin hns zb_all,
    PySem.W.mg_none_of kin hns zb_bool,
    PySem.W.mg_none_of kin hns zb_enumerate,
    PySem.W.mg_none_of kin hns zb_int,
    PySem.W.mg_none_of kin hns zb_isinstance,
    PySem.W.mg_none_of kin hns zb_len,
    PySem.W.mg_none_of kin hns zb_max,
    PySem.W.mg_none_of kin hns zb_range,
    PySem.W.mg_none_of kin hns zb_repr,
    PySem.W.mg_none_of kin hns zb_tuple,
    PySem.W.mg_none_of kin hns zb_zip,
    ⟨_, h_BLANK.1, .head _⟩,
    ⟨_, PySem.W.mg_of kin hns zc_CONTENT⟩,
    ⟨_, PySem.W.mg_of kin hns zc_LEAST_BLOCKS⟩,
    ⟨_, PySem.W.mg_of kin hns zc_LEAST_SEGMENTS⟩,
    ⟨_, PySem.W.mg_of kin hns zc_MOST_BLOCKS⟩,
    ⟨_, PySem.W.mg_of kin hns zc_MOST_SEGMENTS⟩,
    loose_int L (by decide +kernel),
    ⟨_, PySem.W.mg_of kin hns zc_ROOT_WORDS⟩,
    ⟨_, PySem.W.mg_of kin hns zc_SPARE_SEGMENTS⟩,
    ⟨_, PySem.W.mg_of kin hns zc_WORDS⟩,
    ⟨PySem.W.mg_of kin hns aC_PowerCut, xq_PowerCut, xk_PowerCut, xb_PowerCut, xt_PowerCut, exm_pair xb_PowerCut xi_PowerCut xt_PowerCut xs_PowerCut_PowerCut⟩,
    xcl_of (st := s_BadBlock_mk) ⟨PySem.W.mg_of kin hns aC_BadBlock, ⟨_, _, _, _, _, _, _, _, _, _, _, _, _, _, _, ev_BadBlock⟩, va_BadBlock, no_BadBlock_thing, xk_BadBlock, xb_BadBlock, xt_BadBlock, exm_pair xb_BadBlock xi_BadBlock xt_BadBlock xs_BadBlock_BadBlock, ⟨_, _, fun_mk (st := s_BadBlock_mk) vl_BadBlock vc_BadBlock vk_BadBlock, vi_BadBlock, vt_BadBlock⟩⟩ xinit_BadBlock (.inl rfl) (.inl rfl) (by decide) (by decide),
    xcl_of (st := s_BadCut_mk) ⟨PySem.W.mg_of kin hns aC_BadCut, ⟨_, _, _, _, _, _, _, _, _, _, _, _, _, _, _, ev_BadCut⟩, va_BadCut, no_BadCut_thing, xk_BadCut, xb_BadCut, xt_BadCut, exm_pair xb_BadCut xi_BadCut xt_BadCut xs_BadCut_BadCut, ⟨_, _, fun_mk (st := s_BadCut_mk) vl_BadCut vc_BadCut vk_BadCut, vi_BadCut, vt_BadCut⟩⟩ xinit_BadCut (.inl rfl) (.inl rfl) (by decide) (by decide),
    xcl_of (st := s_BadNumber_mk) ⟨PySem.W.mg_of kin hns aC_BadNumber, ⟨_, _, _, _, _, _, _, _, _, _, _, _, _, _, _, ev_BadNumber⟩, va_BadNumber, no_BadNumber_thing, xk_BadNumber, xb_BadNumber, xt_BadNumber, exm_pair xb_BadNumber xi_BadNumber xt_BadNumber xs_BadNumber_BadNumber, ⟨_, _, fun_mk (st := s_BadNumber_mk) vl_BadNumber vc_BadNumber vk_BadNumber, vi_BadNumber, vt_BadNumber⟩⟩ xinit_BadNumber (.inl rfl) (.inl rfl) (by decide) (by decide),
    xcl_of (st := s_BadPlace_mk) ⟨PySem.W.mg_of kin hns aC_BadPlace, ⟨_, _, _, _, _, _, _, _, _, _, _, _, _, _, _, ev_BadPlace⟩, va_BadPlace, no_BadPlace_thing, xk_BadPlace, xb_BadPlace, xt_BadPlace, exm_pair xb_BadPlace xi_BadPlace xt_BadPlace xs_BadPlace_BadPlace, ⟨_, _, fun_mk (st := s_BadPlace_mk) vl_BadPlace vc_BadPlace vk_BadPlace, vi_BadPlace, vt_BadPlace⟩⟩ xinit_BadPlace (.inl rfl) (.inl rfl) (by decide) (by decide),
    PySem.W.mg_of kin hns aC_BadBlock,
    PySem.W.mg_of kin hns aC_BadCut,
    PySem.W.mg_of kin hns aC_BadNumber,
    PySem.W.mg_of kin hns aC_BadPlace,
    PySem.W.mg_of kin hns aC_PowerCut,
    PySem.W.mg_of kin hns aC_TrailError,
    sub_ok_,
    bt_ok_,
    ⟨xi_get, xi_take⟩,
    (fun c hc => by
      simp only [List.mem_cons, List.not_mem_nil, or_false] at hc
      rcases hc with rfl | rfl | rfl | rfl | rfl
      · exact ⟨xi_BadBlock, xh_BadBlock, xj_BadBlock, xb_BadBlock, xca_BadBlock, xmo_BadBlock⟩
      · exact ⟨xi_BadCut, xh_BadCut, xj_BadCut, xb_BadCut, xca_BadCut, xmo_BadCut⟩
      · exact ⟨xi_BadNumber, xh_BadNumber, xj_BadNumber, xb_BadNumber, xca_BadNumber, xmo_BadNumber⟩
      · exact ⟨xi_BadPlace, xh_BadPlace, xj_BadPlace, xb_BadPlace, xca_BadPlace, xmo_BadPlace⟩
      · exact ⟨xi_PowerCut, xh_PowerCut, xj_PowerCut, xb_PowerCut, xca_PowerCut, xmo_PowerCut⟩),
    ⟨pg_Disk, hd_Disk, po_Disk, sa_Disk⟩,
    fok1 ⟨pg_Disk, hd_Disk, po_Disk, sa_Disk⟩ na_Disk_blocks,
    fok1 ⟨pg_Disk, hd_Disk, po_Disk, sa_Disk⟩ na_Disk_k,
    fok1 ⟨pg_Disk, hd_Disk, po_Disk, sa_Disk⟩ na_Disk_left,
    fok1 ⟨pg_Disk, hd_Disk, po_Disk, sa_Disk⟩ na_Disk_n,
    fok1 ⟨pg_Disk, hd_Disk, po_Disk, sa_Disk⟩ na_Disk_newest,
    fok1 ⟨pg_Disk, hd_Disk, po_Disk, sa_Disk⟩ na_Disk_queue,
    fok1 ⟨pg_Disk, hd_Disk, po_Disk, sa_Disk⟩ na_Disk_r,
    fok1 ⟨pg_Disk, hd_Disk, po_Disk, sa_Disk⟩ na_Disk_s,
    ⟨_, _, fun_mk (st := s_is_integer) l0 c0 k0, PySem.W.mg_of kin hns a0⟩,
    ⟨_, _, fun_mk (st := s_is_between) l1 c1 k1, PySem.W.mg_of kin hns a1⟩,
    ⟨_, _, fun_mk (st := s_need_sizes) l2 c2 k2, PySem.W.mg_of kin hns a2⟩,
    ⟨_, _, fun_mk (st := s_room_of) l3 c3 k3, PySem.W.mg_of kin hns a3⟩,
    ⟨_, _, fun_mk (st := s_root_blocks_of) l4 c4 k4, PySem.W.mg_of kin hns a4⟩,
    ⟨_, _, fun_mk (st := s_Disk_mk) l5 c5 k5, ⟨mk_Disk, a5, i5, kc_Disk⟩, PySem.W.mg_of kin hns aC_Disk⟩,
    ⟨_, _, fun_mk (st := s_is_keep) l6 c6 k6, PySem.W.mg_of kin hns a6⟩,
    ⟨_, _, fun_mk (st := s_Disk_cut) l7 c7 k7, ⟨a7, i7, k7⟩⟩,
    ⟨_, _, fun_mk (st := s_Disk_fuse) l8 c8 k8, ⟨a8, i8, k8⟩⟩,
    ⟨_, _, fun_mk (st := s_Disk_need_place) l9 c9 k9, ⟨a9, i9, k9⟩⟩,
    ⟨_, _, fun_mk (st := s_Disk_read) l10 c10 k10, ⟨a10, i10, k10⟩⟩,
    ⟨_, _, fun_mk (st := s_Disk_sizes) l11 c11 k11, ⟨a11, i11, k11⟩⟩,
    ⟨_, _, fun_mk (st := s_Disk_standing) l12 c12 k12, ⟨a12, i12, k12⟩⟩,
    ⟨_, _, fun_mk (st := s_Disk_waiting) l13 c13 k13, ⟨a13, i13, k13⟩⟩,
    ⟨_, _, fun_mk (st := s_law_many) l14 c14 k14, PySem.W.mg_of kin hns a14⟩,
    ⟨_, _, fun_mk (st := s_law_blank) l15 c15 k15, PySem.W.mg_of kin hns a15⟩,
    ⟨_, _, fun_mk (st := s_law_deck) l16 c16 k16, PySem.W.mg_of kin hns a16⟩,
    ⟨_, _, fun_mk (st := s_law_draw) l17 c17 k17, PySem.W.mg_of kin hns a17⟩,
    ⟨_, _, fun_mk (st := s_law_sizes) l18 c18 k18, PySem.W.mg_of kin hns a18⟩,
    ⟨_, _, fun_mk (st := s_law_drawn_sizes) l19 c19 k19, PySem.W.mg_of kin hns a19⟩,
    ⟨_, _, fun_mk (st := s_law_fell) l20 c20 k20, PySem.W.mg_of kin hns a20⟩,
    ⟨_, _, fun_mk (st := s_Disk_burn_x) l21 c21 k21, ⟨a21, i21, k21⟩⟩,
    ⟨_, _, fun_mk (st := s_Disk_force_x) l22 c22 k22, ⟨a22, i22, k22⟩⟩,
    ⟨_, _, fun_mk (st := s_is_word) l23 c23 k23, PySem.W.mg_of kin hns a23⟩,
    ⟨_, _, fun_mk (st := s_are_words) l24 c24 k24, PySem.W.mg_of kin hns a24⟩,
    ⟨_, _, fun_mk (st := s_is_block) l25 c25 k25, PySem.W.mg_of kin hns a25⟩,
    ⟨_, _, fun_mk (st := s_Disk_write_x) l26 c26 k26, ⟨a26, i26, k26⟩⟩,
    ⟨_, _, fun_mk (st := s_law_passed) l27 c27 k27, PySem.W.mg_of kin hns a27⟩,
    ⟨_, _, fun_mk (st := s_law_pick) l28 c28 k28, PySem.W.mg_of kin hns a28⟩,
    ⟨_, _, fun_mk (st := s_law_are_wrong_refused) l29 c29 k29, PySem.W.mg_of kin hns a29, mk_0⟩,
    ⟨_, _, fun_mk (st := s_law_word) l30 c30 k30, PySem.W.mg_of kin hns a30⟩,
    ⟨_, _, fun_mk (st := s_law_block) l31 c31 k31, PySem.W.mg_of kin hns a31⟩,
    ⟨_, _, fun_mk (st := s_law_forced) l32 c32 k32, PySem.W.mg_of kin hns a32⟩,
    ⟨_, _, fun_mk (st := s_law_read) l33 c33 k33, PySem.W.mg_of kin hns a33⟩,
    ⟨_, _, fun_mk (st := s_law_is_call_right) l34 c34 k34, PySem.W.mg_of kin hns a34, mk_1⟩,
    ⟨_, _, fun_mk (st := s_law_keep) l35 c35 k35, PySem.W.mg_of kin hns a35⟩,
    ⟨_, _, fun_mk (st := s_law) l36 c36 k36, PySem.W.mg_of kin hns a36⟩⟩
  exact fn_m (fun_mk (st := s_law) l36 c36 k36) sc_law rfl (d_law T _)
theorem walk {l : PySem.W.OpenLaw} {q lq : Program} {loose : List Str} {YP : World → Heap → Prop} {d : DefRec} {K : Params → PySem.W.Frag} {lw : List (Str × PySem.W.WData)} (hn : l.most = some 63) (hdf : d.params.defaults = [])
    (hY : ∀ w h, YP w h → (K w.params).In h)
    (hms : ∀ m ∈ ms_, ((recsOf q).find? (fun e => e.name == m)).isSome = true)
    (F : ∀ (w : World) (mg : Str → Option Value) (fa : Addr) (h : Heap), (K w.params).In h → h.Ns mainGlobals mg → mg d.name = some (.ref fa) → PySem.W.LooseAre lw mg h →
      ∃ (fd : FuncData) (kx : Kx) (ts : List (Addr × List Int)) (ct : List (Addr × Addr × Str)), Held (K w.params) h ts ∧ (kx.cs = ts.map fun p => (V.ref p.1, Dv.tup (p.2.map Dv.int))) ∧ (kx.tt = ct.map fun p => (p.2.1, p.2.2)) ∧
        (∀ p ∈ ct, ∃ m ∈ ms_, PySem.W.tabIn (K w.params) m = some (p.1, p.2.1) ∧ (K w.params).lookup p.2.1 = none) ∧ (∀ (s : Shared) (v : Value), BindsTo s fd ⟨[v], []⟩ [("script", v)]) ∧
        ∀ base : Heap, (K w.params).In base → base.Ns mainGlobals mg → (∀ p ∈ ct, LamX.TabB base mg p.1 p.2.1) → FnM l.prog w (K w.params) kx mg base 11 fa fd ["script"] m_law)
    (run : ∀ ns : List Int, ns.length ≤ 63 → ∃ G', m_law [.scr ns] [] = some (.bl true, G')) :
    PySem.W.WalkO q loose (PySem.W.XL lq lw) YP l.row.toRowW d [] (fun f vs => PySem.call f vs) :=
  walk_m (n := 63) (k := 11) (x := "script") hn (by decide) hdf ⟨rfl, by decide, by decide⟩ hY hms F run
end Lw

local macro_rules
  | `(tactic| simp! [$ls,*]) => `(tactic| simp only [Mi.bnd, Mi.mVar, Mi.mC, Mi.mkL, Mi.m2, Mi.m1, Mi.uNeg, Mi.bAdd, Mi.bSub, Mi.bDiv, Mi.bMod, Mi.bPow, Mi.sEq, Mi.bEq, Mi.bCmp, Mi.bLt, Mi.bLe, Mi.bGt, Mi.bGe, Mi.isNon, Mi.mIsN, Mi.mChain, Mi.mAnd, Mi.mOr, Mi.mNot, Mi.mTb, Mi.mTand, Mi.mTor, Mi.mTnot, Mi.mIf, Mi.mNil, Mi.mCons, Mi.mTup, Mi.mLst, Mi.mB, Mi.kOf, Mi.mFld, Mi.mCall, Mi.mCallK, Mi.mMeth, Mi.mMethK, Mi.mDef, Mi.fInt, Mi.fMax, Mi.fMin, Mi.isI, Mi.mIsI, Ms.mIsC, Mi.gNm, Mi.gNil, Mi.gCons, Mi.gTup, Mi.mSeq, Mi.mSkip, Mi.mBrk, Mi.mCont, Mi.mAsg, Mi.mPar, Mi.mExpr, Mi.mRet, Mi.mRetN, Mi.mIfS, Mi.tYes, Mi.wipe, Ms.mDct0, Ms.bAddI, List.map_cons, List.map_nil, List.nil_append, List.cons_append, List.length_cons, List.length_nil, List.replicate_succ, List.replicate_zero, List.getElem?_cons_zero, List.getElem?_cons_succ, List.getElem?_nil, List.set_cons_zero, List.set_cons_succ, Option.map_some, Option.map_none, if_true, if_false, reduceIte, decide_true, decide_false, Nat.reduceAdd, Nat.reduceLeDiff, List.mem_cons, List.mem_singleton, true_or, or_true, true_and, and_true, bne_self_eq_false, Bool.not_true, Bool.not_false, reduceCtorEq, Nat.reduceEqDiff, beq_self_eq_true, Nat.reduceLT, Int.reduceLT, Int.reduceLE, Int.reduceToNat, Int.reduceAdd, Int.reduceSub, Int.reduceMul, Int.reduceNeg, String.reduceEq, String.reduceBEq, List.lookup_cons, List.lookup_nil, Mi.big, Mi.putF, List.length_append, List.append_assoc, ite_true, ite_false, Bool.false_eq_true, and_self, not_true_eq_false, not_false_eq_true, Sum.inr.injEq, Sum.inl.injEq, Mi.look, Mi.put, List.any_cons, List.any_nil, Bool.or_true, Bool.or_false, Bool.true_or, Bool.false_or, List.find?_cons, Option.getD_some, Option.getD_none, Bool.bne_false, Bool.false_bne, Bool.true_bne, Bool.bne_true, Int.reduceEq, Int.reducePow, $ls,*])


namespace Lw
open Mi (Dv MO Sto Sl Rs bnd ME MT MA MS MF Fl MG MGs MI)
theorem is_integer_int (i : Int) (G : Sto) : m_is_integer [.int i] G = some (.bl true, G) := by
  simp! [m_is_integer, b_is_integer] <;> rfl
theorem is_between_int (i a b : Int) (G : Sto) : m_is_between [.int i, .int a, .int b] G = some (.bl (decide (a ≤ i ∧ i ≤ b)), G) := by
  simp! [m_is_between, b_is_between, is_integer_int]
  by_cases h : a ≤ i <;> simp [h]
theorem need_sizes_ok (s k : Int) (G : Sto) (h1 : 6 ≤ s ∧ s ≤ 40) (h2 : 4 ≤ k ∧ k ≤ 24) : m_need_sizes [.int s, .int k] G = some (.non, G) := by
  simp! [m_need_sizes, b_need_sizes, is_between_int, h1, h2]
theorem bMul_small (m : Bool) (a b : Int) (G : Sto) (h : -(2 ^ 64) < b ∧ b < 2 ^ 64) : Mi.bMul m (.int a) (.int b) G = some (.int (a * b), G) := by
  unfold Mi.bMul Mi.okMul
  simp only [h, decide_true, Bool.and_true, Bool.or_true, if_true]
theorem bMul_small' (m : Bool) (a b : Int) (G : Sto) (h : -(2 ^ 64) < a ∧ a < 2 ^ 64) : Mi.bMul m (.int a) (.int b) G = some (.int (a * b), G) := by
  unfold Mi.bMul Mi.okMul
  simp only [h, decide_true, Bool.and_true, Bool.true_or, if_true]
def N' (s k : Int) : Int := (s - 4) * (k - 1)
def R' (s k : Int) : Int := ((s - 4) * (k - 1) + 4 + 28 - 1) / 28
theorem room_of_ok (s k : Int) (G : Sto) (h1 : 6 ≤ s ∧ s ≤ 40) (h2 : 4 ≤ k ∧ k ≤ 24) : m_room_of [.int s, .int k] G = some (.int (N' s k), G) := by
  have := bMul_small false (s - 4) (k - 1) G (by omega)
  simp! [m_room_of, b_room_of, this]
  rfl
theorem root_ok (s k : Int) (G : Sto) (h1 : 6 ≤ s ∧ s ≤ 40) (h2 : 4 ≤ k ∧ k ≤ 24) : m_root_blocks_of [.int s, .int k] G = some (.int (R' s k), G) := by
  simp! [m_root_blocks_of, b_root_blocks_of, room_of_ok s k G h1 h2]
  rfl
end Lw


namespace Lw
open Mi (Dv MO Sto Sl Rs bnd ME MT MA MS MF Fl MG MGs MI)
theorem get0 {α : Type} (G r : List α) (x : α) : (G ++ x :: r)[G.length]? = some x := by
  rw [List.getElem?_append_right (Nat.le_refl _)]; simp
theorem set0 {α : Type} (G r : List α) (x y : α) : (G ++ x :: r).set G.length y = G ++ y :: r := by
  rw [List.set_append_right _ _ (Nat.le_refl _)]; simp
/-- where the blocks are -/
def Many (s k : Int) : Nat := (2 * R' s k + s * k).toNat
def dfs (s k : Int) (hb hq hn : Nat) (lf : Dv) : List (String × Dv) := [("s", .int s), ("k", .int k), ("n", .int (N' s k)), ("r", .int (R' s k)), ("blocks", .ref hb), ("queue", .ref hq), ("newest", .ref hn), ("left", lf)]
theorem rep1 {α : Type} (n : Nat) (x : α) : (List.replicate n [x]).flatten = List.replicate n x := by
  induction n with
  | zero => rfl
  | succ n ih => rw [List.replicate_succ, List.replicate_succ, List.flatten_cons, ih]; rfl
theorem prodB {s k : Int} (h1 : 6 ≤ s ∧ s ≤ 40) (h2 : 4 ≤ k ∧ k ≤ 24) : 0 < s * k ∧ s * k ≤ 960 ∧ 0 < N' s k ∧ N' s k ≤ 828 := by
  obtain ⟨a, b⟩ := h1
  obtain ⟨c, d⟩ := h2
  refine ⟨Int.mul_pos (by omega) (by omega), ?_, Int.mul_pos (by omega) (by omega), ?_⟩
  · have : s * k ≤ 40 * 24 := Int.mul_le_mul b d (by omega) (by omega)
    omega
  · have : (s - 4) * (k - 1) ≤ 36 * 23 := Int.mul_le_mul (by omega) (by omega) (by omega) (by omega)
    show (s - 4) * (k - 1) ≤ 828
    omega
theorem R'_b {s k : Int} (h1 : 6 ≤ s ∧ s ≤ 40) (h2 : 4 ≤ k ∧ k ≤ 24) : 1 ≤ R' s k ∧ R' s k ≤ 30 := by
  have := prodB h1 h2
  unfold R'
  unfold N' at this
  omega
theorem mk_ok (s k : Int) (G : Sto) (h1 : 6 ≤ s ∧ s ≤ 40) (h2 : 4 ≤ k ∧ k ≤ 24) :
    m_Disk_mk [.ref G.length, .int s, .int k] (G ++ [.ins 0 []]) = some (.non, G ++ [.ins 0 (dfs s k (G.length + 1) (G.length + 2) (G.length + 3) .non), .lst (List.replicate (Many s k) d_BLANK), .lst [], .dct []]) := by
  have e1 := need_sizes_ok s k (G ++ [.ins 0 []]) h1 h2
  have hp := prodB h1 h2
  have hr := R'_b h1 h2
  have c1 : ∀ G, Mi.bMul false (.int 2) (.int (R' s k)) G = some (.int (2 * R' s k), G) := fun G => bMul_small' false _ _ G (by omega)
  have c2 : ∀ G, Mi.bMul false (.int s) (.int k) G = some (.int (s * k), G) := fun G => bMul_small' false _ _ G (by omega)
  have c3 : ∀ G, Mi.bMul true (.fls [d_BLANK]) (.int (2 * R' s k + s * k)) G = some (.ref G.length, G ++ [.lst (List.replicate (Many s k) d_BLANK)]) := fun G => by
    unfold Mi.bMul
    dsimp only
    rw [if_pos ⟨by omega, by omega, by show 1 * (2 * R' s k + s * k).toNat ≤ 16777216; omega⟩, rep1]
    rfl
  simp! [m_Disk_mk, b_Disk_mk, e1, Mi.mSetF, get0, set0, Mi.putF, room_of_ok, root_ok, h1, h2, c1, c2, c3]
  rfl
/-- what lies below stays, but for hs -/
structure Sm (hs : List Nat) (G G' : Sto) : Prop where
  le : G.length ≤ G'.length
  at_ : ∀ i, i < G.length → i ∉ hs → G'[i]? = G[i]?
theorem Sm.refl {hs : List Nat} {G : Sto} : Sm hs G G := ⟨Nat.le_refl _, fun _ _ _ => rfl⟩
theorem Sm.trans {hs : List Nat} {G G1 G2 : Sto} (a : Sm hs G G1) (b : Sm hs G1 G2) : Sm hs G G2 := ⟨Nat.le_trans a.le b.le, fun i hi hn => (b.at_ i (Nat.lt_of_lt_of_le hi a.le) hn).trans (a.at_ i hi hn)⟩
theorem Sm.mono {hs hs' : List Nat} {G G' : Sto} (a : Sm hs G G') (h : ∀ i ∈ hs, i ∈ hs') : Sm hs' G G' := ⟨a.le, fun i hi hn => a.at_ i hi fun q => hn (h i q)⟩
theorem Sm.get {hs : List Nat} {G G' : Sto} (a : Sm hs G G') {i : Nat} {o : MO} (hn : i ∉ hs) (e : G[i]? = some o) : G'[i]? = some o := by
  have hi : i < G.length := by
    rcases Nat.lt_or_ge i G.length with q | q
    · exact q
    · rw [List.getElem?_eq_none q] at e; cases e
  rw [a.at_ i hi hn]
  exact e
theorem lt_get {G : Sto} {i : Nat} {o : MO} (e : G[i]? = some o) : i < G.length := by
  rcases Nat.lt_or_ge i G.length with q | q
  · exact q
  · rw [List.getElem?_eq_none q] at e; cases e
theorem sm_set {hs : List Nat} {G : Sto} {i : Nat} {o : MO} (h : i ∈ hs) : Sm hs G (G.set i o) := ⟨by rw [List.length_set]; exact Nat.le_refl _, fun j hj hn => List.getElem?_set_ne (fun e => hn (by rw [← e]; exact h))⟩
theorem sm_app {hs : List Nat} {G r : Sto} : Sm hs G (G ++ r) := ⟨by rw [List.length_append]; omega, fun j hj hn => List.getElem?_append_left hj⟩
theorem set_at {G : Sto} {i : Nat} {o o' : MO} (e : G[i]? = some o) : (G.set i o')[i]? = some o' := List.getElem?_set_self (lt_get e)
/-- the deck -/
structure Dk (hd hc : Nat) (G : Sto) : Prop where
  ne : hd ≠ hc
  ex : ∃ (cs : List Int) (m t : Int), G[hd]? = some (.dct [(.inr "cells", .ref hc), (.inr "mixed", .int m), (.inr "turn", .int t)]) ∧ G[hc]? = some (.lst (cs.map Dv.int)) ∧ cs.length ≤ 63
theorem Dk.sm {hd hc : Nat} {hs : List Nat} {G G' : Sto} (d : Dk hd hc G) (s : Sm hs G G') (h1 : hd ∉ hs) (h2 : hc ∉ hs) : Dk hd hc G' := by
  obtain ⟨cs, m, t, e1, e2, e3⟩ := d.ex
  exact ⟨d.ne, cs, m, t, s.get h1 e1, s.get h2 e2, e3⟩
theorem intsOf_map (cs : List Int) : Mi.intsOf (cs.map Dv.int) = some cs := by
  induction cs with
  | nil => rfl
  | cons c cs ih => rw [List.map_cons]; unfold Mi.intsOf; rw [ih]; rfl
theorem p10 : (Int.natAbs 10 < 2 ^ 64) = True := by decide
theorem draw_ok {hd hc : Nat} {G : Sto} (d : Dk hd hc G) (n : Int) (h1 : 0 < n) (h2 : n < 1073741824) :
    ∃ r G', m_law_draw [.ref hd, .int n] G = some (.int r, G') ∧ 0 ≤ r ∧ r < n ∧ Dk hd hc G' ∧ Sm [hd, hc] G G' ∧ G'.length = G.length := by
  obtain ⟨cs, m, t, e1, e2, e3⟩ := d.ex
  have ne := d.ne
  have ne' : hc ≠ hd := fun z => ne z.symm
  have sq : ∀ (x : Int) G, Mi.bMul false (.int (x % 2147483587)) (.int (x % 2147483587)) G = some (.int (x % 2147483587 * (x % 2147483587)), G) := fun x G => bMul_small false _ _ G (by omega)
  have fin : ∀ (x : Int), 0 ≤ x % n ∧ x % n < n := fun x => ⟨Int.emod_nonneg _ (by omega), Int.emod_lt_of_pos _ h1⟩
  rcases List.eq_nil_or_concat cs with rfl | ⟨cs', c, rfl⟩
  · simp! [m_law_draw, b_law_draw, Mi.mSetK, Mi.bSubs, Mi.bGet, e1, e2, set_at e1, bMul_small, bMul_small', sq, List.length_set, Mi.qEq, Mi.lstOf, List.getElem?_set_ne ne, List.getElem?_set_ne ne', Mi.intsOf, Int.reducePow, h1]
    have e1' := set_at (o' := .dct [(.inr "cells", .ref hc), (.inr "mixed", .int m), (.inr "turn", .int (t + 1))]) e1
    refine ⟨_, _, rfl, (fin _).1, (fin _).2, ⟨ne, [], m, t + 1, e1', ?_, e3⟩, sm_set (by simp), List.length_set⟩
    rw [List.getElem?_set_ne ne]
    exact e2
  · rw [List.concat_eq_append, List.map_append, List.map_cons, List.map_nil] at e2
    rw [List.concat_eq_append, List.length_append] at e3
    have q1 : Mi.intsOf (cs'.map Dv.int ++ [Dv.int c]) = some (cs' ++ [c]) := by
      have := intsOf_map (cs' ++ [c])
      rw [List.map_append] at this
      exact this
    have q2 : decide (cs' ++ [c] = []) = false := by simp
    have q3 : (cs'.map Dv.int ++ [Dv.int c]).getLast? = some (.int c) := by simp
    have q4 : (cs'.map Dv.int ++ [Dv.int c]).dropLast = cs'.map Dv.int := by simp
    have q5 : 0 < (if n > 2 then n else 2) ∧ (if n > 2 then n else 2) < 1073741824 := by split <;> omega
    have q6 : (cs'.map Dv.int).length < 16777216 := by rw [List.length_map]; omega
    have sh := set_at (o' := .lst (cs'.map Dv.int)) e2
    have e1' := set_at (o' := .dct [(.inr "cells", .ref hc), (.inr "mixed", .int m), (.inr "turn", .int (t + 1))]) e1
    have e2' : (G.set hd (.dct [(.inr "cells", .ref hc), (.inr "mixed", .int m), (.inr "turn", .int (t + 1))]))[hc]? = some (.lst (cs'.map Dv.int ++ [.int c])) := by rw [List.getElem?_set_ne ne]; exact e2
    have e3' := set_at (o' := .lst (cs'.map Dv.int)) e2'
    have e4' : ((G.set hd (.dct [(.inr "cells", .ref hc), (.inr "mixed", .int m), (.inr "turn", .int (t + 1))])).set hc (.lst (cs'.map Dv.int)))[hd]? = some (.dct [(.inr "cells", .ref hc), (.inr "mixed", .int m), (.inr "turn", .int (t + 1))]) := by rw [List.getElem?_set_ne ne']; exact e1'
    by_cases hc18 : 1000000000000000000 ≤ c
    · simp! [m_law_draw, b_law_draw, Mi.mSetK, Mi.bSubs, Mi.bGet, e1, e1', e2', e3', e4', bMul_small, bMul_small', Mi.qEq, Mi.lstOf, Mi.intsOf, Int.reducePow, h1, Mi.mPop, Mi.mAppend, q1, q2, q3, q4, q5, q6, hc18, Bool.false_bne, p10]
      refine ⟨_, _, rfl, (fin _).1, (fin _).2, ⟨ne, cs' ++ [c / (if n > 2 then n else 2)], m, t + 1, ?_, ?_, ?_⟩, ((sm_set (by simp)).trans (sm_set (by simp))).trans (sm_set (by simp)), by simp only [List.length_set]⟩
      · rw [List.getElem?_set_ne ne']
        exact e4'
      · rw [List.map_append]
        exact set_at e3'
      · rw [List.length_append]
        exact e3
    · simp! [m_law_draw, b_law_draw, Mi.mSetK, Mi.bSubs, Mi.bGet, e1, e1', e2', e3', e4', bMul_small, bMul_small', sq, Mi.qEq, Mi.lstOf, Mi.intsOf, Int.reducePow, h1, Mi.mPop, Mi.mAppend, q1, q2, q3, q4, q5, q6, hc18, Bool.false_bne, p10]
      refine ⟨_, _, rfl, (fin _).1, (fin _).2, ⟨ne, cs', m, t + 1, e4', e3', by omega⟩, (sm_set (by simp)).trans (sm_set (by simp)), by simp only [List.length_set]⟩
end Lw

namespace Lw
open Mi (Dv MO Sto Sl Rs bnd ME MT MA MS MF Fl MG MGs MI)
theorem loop_inv {g : MG} {b : MS} {st : Sto → Prop} (P : List Dv → Sl → Sto → Prop)
    (h : ∀ d ds δ G, P (d :: ds) δ G → st G ∧ ∃ δ1 G1, g d δ G = some (δ1, G1) ∧ ∃ δ2 G2, b δ1 G1 = some (.nx, δ2, G2) ∧ P ds δ2 G2) (hn : ∀ δ G, P [] δ G → st G) :
    ∀ ds δ G, P ds δ G → ∃ δ' G', Mi.mLoop g b st ds δ G = some (.nx, δ', G') ∧ P [] δ' G'
  | [], δ, G, p => ⟨δ, G, by unfold Mi.mLoop; rw [if_pos (hn _ _ p)], p⟩
  | d :: ds, δ, G, p => by
    obtain ⟨hs, δ1, G1, e1, δ2, G2, e2, q⟩ := h d ds δ G p
    obtain ⟨δ', G', e3, q'⟩ := loop_inv P h hn ds δ2 G2 q
    refine ⟨δ', G', ?_, q'⟩
    unfold Mi.mLoop
    rw [if_pos hs, e1]
    dsimp only
    rw [e2]
    exact e3
theorem lc_inv {g : MG} {t : MT} {e : ME} {st : Sto → Prop} {δ : Sl} (P : List Dv → List Dv → Sto → Prop)
    (h : ∀ d ds acc G, P (d :: ds) acc G → st G ∧ acc.length < Mi.big ∧ ∃ δ1 G1, g d δ G = some (δ1, G1) ∧ ∃ G2, t δ1 G1 = some (true, G2) ∧ ∃ y G3, e δ1 G2 = some (y, G3) ∧ P ds (acc ++ [y]) G3) (hn : ∀ acc G, P [] acc G → st G) :
    ∀ ds acc G, P ds acc G → ∃ acc' G', Mi.mLcLoop g t e st δ ds acc G = some (acc', G') ∧ P [] acc' G'
  | [], acc, G, p => ⟨acc, G, by unfold Mi.mLcLoop; rw [if_pos (hn _ _ p)], p⟩
  | d :: ds, acc, G, p => by
    obtain ⟨hs, hb, δ1, G1, e1, G2, e2, y, G3, e3, q⟩ := h d ds acc G p
    obtain ⟨acc', G', e4, q'⟩ := lc_inv P h hn ds _ G3 q
    refine ⟨acc', G', ?_, q'⟩
    unfold Mi.mLcLoop
    rw [if_pos ⟨hs, hb⟩, e1]
    dsimp only
    rw [e2]
    dsimp only
    rw [e3]
    exact e4
/-- a comprehension whose items change nothing -/
theorem lc_map {i : Nat} {e : ME} {st : Sto → Prop} {δ : Sl} {f : Dv → Dv} {G : Sto} (hs : st G) : ∀ (ds acc : List Dv), (∀ d ∈ ds, e (δ.set i (some d)) G = some (f d, G)) → acc.length + ds.length ≤ Mi.big →
    Mi.mLcLoop (Mi.gNm i) Mi.tYes e st δ ds acc G = some (acc ++ ds.map f, G)
  | [], acc, _, _ => by unfold Mi.mLcLoop; rw [if_pos hs]; simp
  | d :: ds, acc, he, hb => by
    have h1 : acc.length < Mi.big := by rw [List.length_cons] at hb; omega
    unfold Mi.mLcLoop
    rw [if_pos ⟨hs, h1⟩]
    simp only [Mi.gNm, Mi.tYes]
    rw [he d (List.mem_cons_self ..)]
    dsimp only
    rw [lc_map hs ds (acc ++ [f d]) (fun x hx => he x (List.mem_cons_of_mem _ hx)) (by rw [List.length_append]; simp at hb ⊢; omega)]
    simp
/-- a draw's step -/
structure Dr (hd hc : Nat) (G G' : Sto) : Prop where
  d : Dk hd hc G'
  s : Sm [hd, hc] G G'
  l : G'.length = G.length
theorem Dr.trans {hd hc : Nat} {G G1 G2 : Sto} (a : Dr hd hc G G1) (b : Dr hd hc G1 G2) : Dr hd hc G G2 := ⟨b.d, a.s.trans b.s, b.l.trans a.l⟩
theorem draw {hd hc : Nat} {G : Sto} (d : Dk hd hc G) (n : Int) (h1 : 0 < n) (h2 : n < 1073741824) : ∃ r G', m_law_draw [.ref hd, .int n] G = some (.int r, G') ∧ 0 ≤ r ∧ r < n ∧ Dr hd hc G G' := by
  obtain ⟨r, G', e, a, b, c, s, l⟩ := draw_ok d n h1 h2
  exact ⟨r, G', e, a, b, c, s, l⟩
theorem atI_ok {α : Type} (xs : List α) (r : Int) (h1 : 0 ≤ r) (h2 : r < xs.length) : ∃ x, Mi.atI xs r = some x ∧ x ∈ xs := by
  obtain ⟨k, rfl⟩ := Int.eq_ofNat_of_zero_le h1
  have hk : k < xs.length := by exact_mod_cast h2
  refine ⟨xs[k], ?_, List.getElem_mem hk⟩
  unfold Mi.atI Mi.ixN
  rw [if_pos h1, if_pos h2]
  simp [hk]
theorem pick {hd hc : Nat} {G : Sto} (d : Dk hd hc G) (xs : List Dv) (h1 : xs ≠ []) (h2 : xs.length < 1000000) : ∃ x G', m_law_pick [.ref hd, .fls xs] G = some (x, G') ∧ x ∈ xs ∧ Dr hd hc G G' := by
  have hp : 0 < xs.length := List.length_pos_iff.mpr h1
  obtain ⟨r, G', e, a, b, c⟩ := draw d xs.length (by omega) (by omega)
  obtain ⟨x, ex, hx⟩ := atI_ok xs r a b
  refine ⟨x, G', ?_, hx, c⟩
  simp! [m_law_pick, b_law_pick, Mi.fLen, Mi.lstOf, e, Mi.bSubs, Mi.bGet, Mi.bIx, Mi.seqOf, ex]
theorem word {hd hc : Nat} {G : Sto} (d : Dk hd hc G) : ∃ x G', m_law_word [.ref hd] G = some (.int x, G') ∧ 0 ≤ x ∧ x ≤ 1000000000 ∧ Dr hd hc G G' := by
  obtain ⟨r1, G1, e1, a1, b1, c1⟩ := draw d 100 (by omega) (by omega)
  obtain ⟨r2, G2, e2, a2, b2, c2⟩ := draw c1.d 1000000001 (by omega) (by omega)
  obtain ⟨x, G3, e3, hx, c3⟩ := pick c2.d [.int 0, .int 1, .int 2, .int 3, .int 5, .int 1000000000, .int r1, .int r2] (by simp) (by simp)
  have hx' : ∃ y, x = .int y ∧ 0 ≤ y ∧ y ≤ 1000000000 := by
    simp only [List.mem_cons, or_false, List.not_mem_nil] at hx
    rcases hx with rfl | rfl | rfl | rfl | rfl | rfl | rfl | rfl <;> refine ⟨_, rfl, ?_, ?_⟩ <;> omega
  obtain ⟨y, rfl, h1, h2⟩ := hx'
  refine ⟨y, G3, ?_, h1, h2, (c1.trans c2).trans c3⟩
  simp! [m_law_word, b_law_word, e1, e2, e3, Int.reducePow, p10]
  trace_state
end Lw


namespace Lw
open Mi (Dv MO Sto Sl Rs bnd ME MT MA MS MF Fl MG MGs MI)
theorem lc_draw {hd hc i : Nat} {e : ME} {δ : Sl} {G : Sto} (d0 : Dk hd hc G) (ds : List Dv) (he : ∀ d ∈ ds, ∀ G, Dk hd hc G → ∃ y G', e (δ.set i (some d)) G = some (.int y, G') ∧ (0 ≤ y ∧ y ≤ 1000000000) ∧ Dr hd hc G G') (hb : ds.length < 1000) :
    ∃ (ws : List Int) (G' : Sto), Mi.mLcLoop (Mi.gNm i) Mi.tYes e (fun _ => True) δ ds [] G = some (ws.map Dv.int, G') ∧ ws.length = ds.length ∧ (∀ w ∈ ws, 0 ≤ w ∧ w ≤ 1000000000) ∧ Dr hd hc G G' := by
  obtain ⟨acc, G', e1, ws, rfl, hl, hw, hr⟩ := lc_inv (g := Mi.gNm i) (t := Mi.tYes) (e := e) (st := fun _ => True) (δ := δ)
    (P := fun r acc G' => (∃ ws : List Int, acc = ws.map Dv.int ∧ ws.length + r.length = ds.length ∧ (∀ w ∈ ws, 0 ≤ w ∧ w ≤ 1000000000) ∧ Dr hd hc G G' ∧ ∀ d ∈ r, d ∈ ds))
    (fun d r acc G1 ⟨ws, ea, hl, hw, hr, hm⟩ => by
      obtain ⟨y, G2, e2, hy, r2⟩ := he d (hm d (List.mem_cons_self ..)) G1 hr.d
      refine ⟨trivial, ?_, _, _, rfl, _, rfl, _, _, e2, ws ++ [y], ?_, ?_, ?_, hr.trans r2, fun x hx => hm x (List.mem_cons_of_mem _ hx)⟩
      · rw [ea, List.length_map]
        rw [List.length_cons] at hl
        show ws.length < 16777216
        omega
      · rw [ea, List.map_append]; rfl
      · rw [List.length_append]
        rw [List.length_cons] at hl
        simp
        omega
      · intro w hw'
        rcases List.mem_append.mp hw' with q | q
        · exact hw w q
        · obtain rfl : w = y := by simpa using q
          exact hy)
    (fun _ _ _ => trivial) ds [] G ⟨[], rfl, by simp, by simp, ⟨d0, Sm.refl, rfl⟩, fun d h => h⟩
  exact ⟨ws, G', e1, by simpa using hl, hw, hr.1⟩
def Blk (ws : List Int) : Prop := ws.length = 32 ∧ ∀ w ∈ ws, 0 ≤ w ∧ w ≤ 1000000000
theorem rng_len (n : Nat) : (Mi.rng 0 n).length = n := by simp [Mi.rng]
theorem rng_mem {n : Nat} {d : Dv} (h : d ∈ Mi.rng 0 n) : ∃ k : Nat, k < n ∧ d = .int k := by
  unfold Mi.rng at h
  obtain ⟨k, hk, rfl⟩ := List.mem_map.mp h
  rw [List.mem_range] at hk
  exact ⟨k, by omega, by simp⟩
theorem block {hd hc : Nat} {G : Sto} (d : Dk hd hc G) : ∃ (ws : List Int) (G' : Sto), m_law_block [.ref hd] G = some (.tup (ws.map Dv.int), G') ∧ Blk ws ∧ Dr hd hc G G' := by
  obtain ⟨r1, G1, e1, a1, b1, c1⟩ := draw d 5 (by omega) (by omega)
  obtain ⟨w, G2, e2, a2, b2, c2⟩ := word c1.d
  have mt : ∀ (x : Int) (G : Sto), Mi.bMul false (.tup [.int x]) (.int 32) G = some (.tup ((List.replicate 32 x).map Dv.int), G) := fun x G => rfl
  by_cases h0 : r1 = 0
  · subst h0
    refine ⟨List.replicate 32 w, G2, ?_, ⟨rfl, fun y hy => ?_⟩, c1.trans c2⟩
    · simp! [m_law_block, b_law_block, e1, e2, mt]
    · obtain ⟨_, rfl⟩ := List.mem_replicate.mp hy
      exact ⟨a2, b2⟩
  by_cases h1 : r1 = 1
  · subst h1
    refine ⟨List.replicate 32 0, G2, ?_, ⟨rfl, fun y hy => ?_⟩, c1.trans c2⟩
    · simp! [m_law_block, b_law_block, e1, e2, mt, Int.reduceEq]
    · obtain ⟨_, rfl⟩ := List.mem_replicate.mp hy
      exact ⟨by omega, by omega⟩
  by_cases h2 : r1 = 2
  · subst h2
    obtain ⟨r3, G3, e3, a3, b3, c3⟩ := draw c2.d 3 (by omega) (by omega)
    obtain ⟨ws, G4, e4, l4, w4, c4⟩ := lc_draw (i := 3) (e := qe_law_block_1) (δ := [some (.ref hd), some (.int 2), some (.int w), none]) c3.d (Mi.rng 0 29) (fun x hx G1 d1 => by
      obtain ⟨r, G', e, a, b, c⟩ := draw d1 9 (by omega) (by omega)
      refine ⟨r, G', ?_, ⟨a, by omega⟩, c⟩
      simp! [qe_law_block_1, e]) (by rw [show (29 : Int) = (29 : Nat) from rfl, rng_len]; omega)
    rw [show (29 : Int) = (29 : Nat) from rfl, rng_len] at l4
    have e5 : ql_law_block_1 [some (.ref hd), some (.int 2), some (.int w), none] G3 = some (.fls (ws.map Dv.int), G4) := by
      unfold ql_law_block_1 qi_law_block_1 Mi.mLc
      simp! [Mi.iRange1, Int.reducePow, e4]
    have q1 : ws.length + 1 + 1 ≤ 16777216 := by omega
    have q2 : ws.length + 1 + 1 + 1 ≤ 16777216 := by omega
    refine ⟨w :: (1 + r3) :: (ws ++ [w]), G4, ?_, ⟨?_, fun y hy => ?_⟩, ((c1.trans c2).trans c3).trans c4⟩
    · simp! [m_law_block, b_law_block, e1, e2, e3, e5, mt, Int.reduceEq, Mi.fTuple, Mi.lstOf, List.length_map, l4, List.map_append]

    · simp [l4]
    · simp only [List.mem_cons, List.mem_append, List.not_mem_nil, or_false] at hy
      rcases hy with rfl | rfl | hy | rfl
      · exact ⟨a2, b2⟩
      · omega
      · exact w4 y hy
      · exact ⟨a2, b2⟩
  · obtain ⟨ws, G4, e4, l4, w4, c4⟩ := lc_draw (i := 3) (e := qe_law_block_2) (δ := [some (.ref hd), some (.int r1), some (.int w), none]) c2.d (Mi.rng 0 32) (fun x hx G1 d1 => by
      obtain ⟨k, hk, rfl⟩ := rng_mem (n := 32) hx
      obtain ⟨r, G', e, a, b, c⟩ := draw d1 2 (by omega) (by omega)
      by_cases hr : r = 0
      · subst hr
        obtain ⟨v, G2, e9, a9, b9, c9⟩ := word c.d
        refine ⟨v, G2, ?_, ⟨a9, b9⟩, c.trans c9⟩
        simp! [qe_law_block_2, e, e9]
      · refine ⟨k, G', ?_, ⟨by omega, by omega⟩, c⟩
        simp! [qe_law_block_2, e, hr, Bool.false_bne]) (by rw [show (32 : Int) = (32 : Nat) from rfl, rng_len]; omega)
    rw [show (32 : Int) = (32 : Nat) from rfl, rng_len] at l4
    have e5 : ql_law_block_2 [some (.ref hd), some (.int r1), some (.int w), none] G2 = some (.fls (ws.map Dv.int), G4) := by
      unfold ql_law_block_2 qi_law_block_2 Mi.mLc
      simp! [Mi.iRange1, Int.reducePow, e4]
    refine ⟨ws, G4, ?_, ⟨l4, w4⟩, (c1.trans c2).trans c4⟩
    simp! [m_law_block, b_law_block, e1, e2, e5, h0, h1, h2, Mi.fTuple, Mi.lstOf, Bool.false_bne]

end Lw

namespace Lw
open Mi (Dv MO Sto Sl Rs bnd ME MT MA MS MF Fl MG MGs MI)
/-! ### the deck at the start -/
theorem cut63 (ns : List Int) (h : ns.length ≤ 63) : Mi.cut (ns.map Dv.int) none (some 63) = ns.map Dv.int := by
  show ((ns.map Dv.int).drop 0).take (min 63 (ns.map Dv.int).length - 0) = _
  rw [List.drop_zero, List.take_of_length_le]
  rw [List.length_map]
  omega
theorem deck_ok (ns : List Int) (h : ns.length ≤ 63) : ∃ hd hc G, m_law_deck [.scr ns] [] = some (.ref hd, G) ∧ Dk hd hc G := by
  have c := cut63 ns h
  have lp := loop_inv (g := Mi.gNm 2) (b := qb_law_deck_1) (st := fun _ => True) (fun r δ G => (∃ m x, δ = [some (.scr ns), some (.int m), x]) ∧ (∀ d ∈ r, ∃ i, d = .int i) ∧ G = [])
    (fun d ds δ G ⟨⟨m, x, ed⟩, hi, eG⟩ => by
      subst ed eG
      obtain ⟨i, rfl⟩ := hi d (List.mem_cons_self ..)
      refine ⟨trivial, _, _, rfl, ?_⟩
      refine ⟨[some (.scr ns), some (.int ((m * 40692 + i % 2147483423 + 59) % 2147483549)), some (.int i)], [], ?_, ⟨_, _, rfl⟩, fun d hd => hi d (List.mem_cons_of_mem _ hd), rfl⟩
      simp! [qb_law_deck_1, bMul_small])
    (fun _ _ _ => trivial) (ns.map Dv.int) [some (.scr ns), some (.int 13746440), none] [] ⟨⟨_, _, rfl⟩, fun d hd => by obtain ⟨i, _, rfl⟩ := List.mem_map.mp hd; exact ⟨i, rfl⟩, rfl⟩
  obtain ⟨δ', G', e1, ⟨m, x, rfl⟩, _, rfl⟩ := lp
  have e2 := lc_map (i := 2) (e := qe_law_deck_1) (st := fun _ => True) (δ := [some (.scr ns), some (.int m), none]) (f := id) (G := [.dct []]) trivial (ns.map Dv.int) [] (fun d hd => by
    obtain ⟨i, _, rfl⟩ := List.mem_map.mp hd
    simp! [qe_law_deck_1, id]) (by rw [List.length_map]; show 0 + ns.length ≤ 16777216; omega)
  rw [List.nil_append, List.map_id] at e2
  have e3 : ql_law_deck_1 [some (.scr ns), some (.int m), x] [.dct []] = some (.fls (ns.map Dv.int), [.dct []]) := by
    unfold ql_law_deck_1 qi_law_deck_2 Mi.mLc
    simp! [Mi.iSeq, Mi.mSlice, Mi.mO, Mi.lstOf, Mi.seqOf, c, e2]
  refine ⟨0, 1, [.dct [(.inr "cells", .ref 1), (.inr "mixed", .int m), (.inr "turn", .int 0)], .lst (ns.map Dv.int).reverse], ?_, by omega, ns.reverse, m, 0, rfl, by rw [List.map_reverse]; rfl, by rw [List.length_reverse]; exact h⟩
  have e4 : qf_law_deck_1 [some (.scr ns), some (.int 13746440), none] [] = some (.nx, [some (.scr ns), some (.int m), x], []) := by
    unfold qf_law_deck_1 qi_law_deck_1 Mi.mFor
    simp! [Mi.iSeq, Mi.mSlice, Mi.mO, Mi.lstOf, Mi.seqOf, c, e1]
  simp! [m_law_deck, b_law_deck, e4, Mi.mDisp, Mi.mPairs, e3, Mi.mRev, Mi.lstOf, List.foldl_cons, List.foldl_nil]

end Lw


namespace Lw
open Mi (Dv MO Sto Sl Rs bnd ME MT MA MS MF Fl MG MGs MI)
/-! ### a disk -/
structure Dsk (fu : Dv) (G : Sto) (h hb hq hn : Nat) (s k : Int) (bl qu : List Dv) (nw : List (Mi.Key × Dv)) : Prop where
  ob : G[h]? = some (.ins 0 (dfs s k hb hq hn fu))
  bl : G[hb]? = some (.lst bl)
  qu : G[hq]? = some (.lst qu)
  nw : G[hn]? = some (.dct nw)
  n1 : h ≠ hb
  n2 : h ≠ hq
  n3 : h ≠ hn
  n4 : hb ≠ hq
  n5 : hb ≠ hn
  n6 : hq ≠ hn
theorem Dsk.sm {G G' : Sto} {h hb hq hn : Nat} {fu : Dv} {s k : Int} {bl qu : List Dv} {nw : List (Mi.Key × Dv)} {hs : List Nat} (D : Dsk fu G h hb hq hn s k bl qu nw) (S : Sm hs G G') (m1 : h ∉ hs) (m2 : hb ∉ hs) (m3 : hq ∉ hs) (m4 : hn ∉ hs) : Dsk fu G' h hb hq hn s k bl qu nw :=
  ⟨S.get m1 D.ob, S.get m2 D.bl, S.get m3 D.qu, S.get m4 D.nw, D.n1, D.n2, D.n3, D.n4, D.n5, D.n6⟩
section
variable {G : Sto} {h hb hq hn : Nat} {fu : Dv} {s k : Int} {bl qu : List Dv} {nw : List (Mi.Key × Dv)}
theorem dsk_mk (s k : Int) (G : Sto) : Dsk .non (G ++ [.ins 0 (dfs s k (G.length + 1) (G.length + 2) (G.length + 3) .non), .lst (List.replicate (Many s k) d_BLANK), .lst [], .dct []]) G.length (G.length + 1) (G.length + 2) (G.length + 3) s k (List.replicate (Many s k) d_BLANK) [] [] :=
  ⟨get0 _ _ _, by rw [List.getElem?_append_right (by omega)]; simp, by rw [List.getElem?_append_right (by omega)]; simp, by rw [List.getElem?_append_right (by omega)]; simp, by omega, by omega, by omega, by omega, by omega, by omega⟩
theorem sizes_ok (D : Dsk fu G h hb hq hn s k bl qu nw) : m_Disk_sizes [.ref h] G = some (.tup [.int s, .int k, .int (N' s k), .int (R' s k)], G) := by
  simp! [m_Disk_sizes, b_Disk_sizes, D.ob, dfs]
theorem waiting_ok (D : Dsk fu G h hb hq hn s k bl qu nw) : m_Disk_waiting [.ref h] G = some (.tup qu, G) := by
  simp! [m_Disk_waiting, b_Disk_waiting, D.ob, dfs, Mi.fTuple, Mi.lstOf, D.qu]
theorem standing_ok (D : Dsk fu G h hb hq hn s k bl qu nw) : m_Disk_standing [.ref h] G = some (.tup bl, G) := by
  simp! [m_Disk_standing, b_Disk_standing, D.ob, dfs, Mi.fTuple, Mi.lstOf, D.bl]
theorem need_place_ok (D : Dsk fu G h hb hq hn s k bl qu nw) (p : Int) (h1 : 0 ≤ p) (h2 : p ≤ bl.length - 1) : m_Disk_need_place [.ref h, .int p] G = some (.non, G) := by
  simp! [m_Disk_need_place, b_Disk_need_place, D.ob, dfs, Mi.fLen, Mi.lstOf, D.bl, is_between_int, h1, h2]
theorem read_ok (D : Dsk fu G h hb hq hn s k bl qu nw) (p : Int) (x : Dv) (h1 : 0 ≤ p) (h2 : p ≤ bl.length - 1) (hx : Mi.atI bl p = some x) : m_Disk_read [.ref h, .int p] G = some ((Mi.look nw (.inl p)).getD x, G) := by
  have e := need_place_ok D p h1 h2
  simp! [-Mi.look, m_Disk_read, b_Disk_read, Mi.mGet2, D.ob, dfs, e, Mi.bSubs, Mi.bGet, Mi.bIx, Mi.seqOf, Mi.lstOf, D.bl, D.nw, hx]
theorem is_word_ok (i : Int) (G : Sto) (h : 0 ≤ i ∧ i ≤ 1000000000) : m_is_word [.int i] G = some (.bl true, G) := by
  simp! [m_is_word, b_is_word, is_between_int, h]
theorem bools_true : ∀ ds : List Dv, Mi.bools (ds.map fun _ => Dv.bl true) = some (ds.map fun _ => true)
  | [] => rfl
  | d :: ds => by rw [List.map_cons]; unfold Mi.bools; rw [bools_true ds]; rfl
theorem is_block_ok (ws : List Int) (G : Sto) (B : Blk ws) : m_is_block [.tup (ws.map Dv.int)] G = some (.bl true, G) := by
  have e := lc_map (i := 2) (e := qe_are_words_1) (st := fun _ => True) (δ := [some (.tup (ws.map Dv.int)), some (.int 32), none]) (f := fun _ => .bl true) (G := G) trivial (ws.map Dv.int) [] (fun d hd => by
    obtain ⟨i, hi, rfl⟩ := List.mem_map.mp hd
    simp! [qe_are_words_1, is_word_ok i G (B.2 i hi)]) (by rw [List.length_map, B.1]; decide)
  rw [List.nil_append] at e
  have e2 : ql_are_words_1 [some (.tup (ws.map Dv.int)), some (.int 32), none] G = some (.fls ((ws.map Dv.int).map fun _ => .bl true), G) := by
    unfold ql_are_words_1 qi_are_words_1 Mi.mLc
    simp! [Mi.iSeq, Mi.seqOf, e]
  have e3 := bools_true (ws.map Dv.int)
  have l := B.1
  simp! [m_is_block, b_is_block, m_are_words, b_are_words, e2, Mi.fAll, Mi.lstOf, e3, Mi.fLen, List.length_map, l]
  simp
end
end Lw


namespace Lw
open Mi (Dv MO Sto Sl Rs bnd ME MT MA MS MF Fl MG MGs MI)
section
variable {G : Sto} {h hb hq hn : Nat} {fu : Dv} {s k : Int} {bl : List Dv} {nw : List (Mi.Key × Dv)}
theorem seq_ref {G : Sto} {h : Nat} {xs : List Dv} (e : G[h]? = some (.lst xs)) : Mi.seqOf G (.ref h) = some xs := by simp only [Mi.seqOf, Mi.lstOf, e]
/-- what waits, as a list of tuples -/
def qOf (its : List (Nat × Dv)) : List Dv := its.map fun p => .tup [.int p.1, p.2]
/-- all that waits, laid -/
def layAll (bl : List Dv) (its : List (Nat × Dv)) : List Dv := its.foldl (fun b p => b.set p.1 p.2) bl
theorem ixN_nat {n p : Nat} (h : p < n) : Mi.ixN n (p : Int) = some p := by
  unfold Mi.ixN
  rw [if_pos (by omega)]; rw [if_pos (by omega)]
  simp
end
/-! ### the law's own -/
theorem law_sizes_ok (s k : Int) (G : Sto) (h1 : 6 ≤ s ∧ s ≤ 40) (h2 : 4 ≤ k ∧ k ≤ 24) : m_law_sizes [.int s, .int k] G = some (.tup [.int s, .int k, .int (N' s k), .int (R' s k)], G) := by
  have c := bMul_small false (s - 4) (k - 1) G (by omega)
  simp! [m_law_sizes, b_law_sizes, c, N', R']
  have : ((s - 4) * (k - 1) + 4 + 27) / 28 = ((s - 4) * (k - 1) + 4 + 28 - 1) / 28 := by congr 1; omega
  rw [this]
theorem at0 {α : Type} (a b c d : α) : Mi.atI [a, b, c, d] 0 = some a := rfl
theorem at1 {α : Type} (a b c d : α) : Mi.atI [a, b, c, d] 1 = some b := rfl
theorem at3 {α : Type} (a b c d : α) : Mi.atI [a, b, c, d] 3 = some d := rfl
theorem law_many_ok (s k : Int) (G : Sto) (h1 : 6 ≤ s ∧ s ≤ 40) (h2 : 4 ≤ k ∧ k ≤ 24) : m_law_many [.tup [.int s, .int k, .int (N' s k), .int (R' s k)]] G = some (.int (Many s k), G) := by
  have hr := R'_b h1 h2
  have hp := prodB h1 h2
  have c1 : Mi.bMul false (.int 2) (.int (R' s k)) G = some (.int (2 * R' s k), G) := bMul_small' false _ _ G (by omega)
  have c2 : Mi.bMul false (.int s) (.int k) G = some (.int (s * k), G) := bMul_small' false _ _ G (by omega)
  simp! [m_law_many, b_law_many, Mi.bSubs, Mi.bGet, Mi.bIx, Mi.seqOf, at0, at1, at3, c1, c2]
  unfold Many
  rw [Int.toNat_of_nonneg (by omega)]
end Lw


namespace Lw
open Mi (Dv MO Sto Sl Rs bnd ME MT MA MS MF Fl MG MGs MI)
open PySem (PyData)
theorem abs18 {i : Int} (h : -1000000 ≤ i ∧ i ≤ 1000000) : i.natAbs < 10 ^ 60 := by omega
theorem abs18' {i : Int} (h : 0 ≤ i ∧ i ≤ 1000000000) : i.natAbs < 10 ^ 60 := by omega
/-! ### data whose text is known -/
structure Re (x : Dv) (d : PyData) (n m : Nat) : Prop where
  p : ∀ G, Mi.py G x = some d
  w : Mi.wt d = some n
  e : Mi.dep d ≤ m
structure ReL (xs : List Dv) (ds : List PyData) (n m : Nat) : Prop where
  p : ∀ G, Mi.pys G xs = some ds
  w : Mi.wts ds = some n
  e : Mi.deps ds ≤ m
theorem re_int {i : Int} (h : i.natAbs < 10 ^ 60) : Re (.int i) (.int i) 62 0 := ⟨fun _ => rfl, by unfold Mi.wt; rw [if_pos h], Nat.le_refl _⟩
theorem re_nil {m : Nat} : ReL [] [] 0 m := ⟨fun _ => rfl, rfl, Nat.zero_le _⟩
theorem re_cons {x : Dv} {xs : List Dv} {d : PyData} {ds : List PyData} {a b m m' : Nat} (h : Re x d a m') (h2 : ReL xs ds b m) (hm : m' ≤ m) : ReL (x :: xs) (d :: ds) (a + b + 2) m := by
  refine ⟨fun G => ?_, ?_, ?_⟩
  · unfold Mi.pys; rw [h.p G, h2.p G]
  · unfold Mi.wts; rw [h.w, h2.w]
  · unfold Mi.deps; exact Nat.max_le.mpr ⟨Nat.le_trans h.e hm, h2.e⟩
theorem re_tup {xs : List Dv} {ds : List PyData} {n m : Nat} (h : ReL xs ds n m) : Re (.tup xs) (.tuple ds) (n + 3) (m + 1) := by
  refine ⟨fun G => ?_, ?_, ?_⟩
  · unfold Mi.py; rw [h.p G]; rfl
  · unfold Mi.wt; rw [h.w]; rfl
  · unfold Mi.dep; exact Nat.succ_le_succ h.e
theorem re_fls {xs : List Dv} {ds : List PyData} {n m : Nat} (h : ReL xs ds n m) : Re (.fls xs) (.list ds) (n + 3) (m + 1) := by
  refine ⟨fun G => ?_, ?_, ?_⟩
  · unfold Mi.py; rw [h.p G]; rfl
  · unfold Mi.wt; rw [h.w]; rfl
  · unfold Mi.dep; exact Nat.succ_le_succ h.e
theorem re_ints {ws : List Int} (h : ∀ w ∈ ws, w.natAbs < 10 ^ 60) : ReL (ws.map Dv.int) (ws.map PyData.int) (64 * ws.length) 0 := by
  induction ws with
  | nil => exact re_nil
  | cons w ws ih =>
    have := re_cons (re_int (h w (List.mem_cons_self ..))) (ih fun x hx => h x (List.mem_cons_of_mem _ hx)) (Nat.le_refl _)
    rw [List.map_cons, List.map_cons, List.length_cons]
    have e : 64 * (ws.length + 1) = 62 + 64 * ws.length + 2 := by omega
    rw [e]
    exact this
/-- the test that repr makes -/
def Rq (G1 G2 : Sto) (x y : Dv) : Prop := ∃ d, Mi.pyT G1 x = some d ∧ Mi.pyT G2 y = some d ∧ Mi.okR d
theorem Re.pyT {x : Dv} {d : PyData} {n m : Nat} (h : Re x d n m) (G : Sto) : Mi.pyT G x = some d := by
  have := h.p G
  cases x <;> first | exact this | cases this
theorem Re.rq {x : Dv} {d : PyData} {n m : Nat} (h : Re x d n m) (hn : n ≤ 16000000) (hm : m ≤ 40) (G1 G2 : Sto) : ∃ d, Mi.pyT G1 x = some d ∧ Mi.pyT G2 x = some d ∧ Mi.okR d :=
  ⟨d, h.pyT G1, h.pyT G2, n, h.w, hn, Nat.le_trans h.e hm⟩
theorem re_blank : Re d_BLANK (.tuple (ns_BLANK.map PyData.int)) (64 * ns_BLANK.length + 3) 1 := re_tup (re_ints fun w hw => by
    have : w = 0 := (List.mem_replicate.mp hw).2
    subst this
    decide)
theorem mul2 (x : Dv) (G : Sto) : Mi.bMul false (.fls [x]) (.int 2) G = some (.fls [x, x], G) := by
  unfold Mi.bMul
  dsimp only
  rw [if_pos (by refine ⟨by decide, by decide, ?_⟩; show 1 * 2 ≤ 16777216; decide)]
  rfl
theorem listR (a b : Int) (G : Sto) (h1 : 0 ≤ a) (h2 : a ≤ b) (h3 : b ≤ 100000) : Mi.bListR false (.int a) (.int b) G = some (.fls (Mi.rng a b), G) := by
  unfold Mi.bListR
  dsimp only
  rw [if_pos (by refine ⟨?_, ?_, ?_, ?_, ?_⟩ <;> omega)]
  rfl
def addD (a : Int) : Dv → Dv
  | .int j => .int (a + j)
  | d => d
theorem rng_map (a k : Int) : (Mi.rng 0 k).map (addD a) = Mi.rng a (a + k) := by
  unfold Mi.rng
  rw [List.map_map, show (a + k - a) = k by omega, Int.sub_zero]
  refine List.map_congr_left ?_; intro i _
  show Dv.int (a + (0 + (i : Int))) = Dv.int (a + i)
  rw [Int.zero_add]
theorem atI_rep {n : Nat} {x : Dv} {p : Int} (h1 : 0 ≤ p) (h2 : p < n) : Mi.atI (List.replicate n x) p = some x := by
  obtain ⟨y, e, hy⟩ := atI_ok (List.replicate n x) p h1 (by rw [List.length_replicate]; exact h2)
  rw [e, (List.mem_replicate.mp hy).2]
theorem atI_set {xs : List Dv} {x : Dv} {p : Nat} (h : p < xs.length) : Mi.atI (xs.set p x) (p : Int) = some x := by
  unfold Mi.atI
  rw [List.length_set, ixN_nat h]
  show (xs.set p x)[p]? = some x
  rw [List.getElem?_set_self h]
theorem Dk.disk {hd hc : Nat} {G G' : Sto} (d : Dk hd hc G) (s : Sm [] G G') : Dk hd hc G' := d.sm s (by simp) (by simp)
theorem Dk.lt {hd hc : Nat} {G : Sto} (d : Dk hd hc G) : hd < G.length ∧ hc < G.length := by
  obtain ⟨cs, m, t, e1, e2, _⟩ := d.ex
  exact ⟨lt_get e1, lt_get e2⟩
end Lw



namespace Lw
open Mi (Dv MO Sto Sl Rs bnd ME MT MA MS MF Fl MG MGs MI)
open PySem (PyData)
/-! ### blocks, what waits, what is newest -/
abbrev T (w : List Int) : Dv := .tup (w.map Dv.int)
def BlkD (x : Dv) : Prop := ∃ w, x = T w ∧ Blk w
theorem blkd_blank : BlkD d_BLANK := ⟨ns_BLANK, rfl, rfl, fun w hw => by rw [(List.mem_replicate.mp hw).2]; decide⟩
theorem snoc_ind {α : Type} {P : List α → Prop} (h0 : P []) (h1 : ∀ xs x, P xs → P (xs ++ [x])) (xs : List α) : P xs := by
  have : ∀ ys : List α, P ys.reverse := fun ys => by
    induction ys with
    | nil => exact h0
    | cons y ys ih => rw [List.reverse_cons]; exact h1 _ _ ih
  have q := this xs.reverse
  rw [List.reverse_reverse] at q
  exact q
/-- the newest blocks of what waits -/
def nwOf (its : List (Nat × Dv)) : List (Mi.Key × Dv) := its.foldl (fun m p => Mi.put m (Sum.inl (p.1 : Int)) p.2) []
theorem nwOf_app (its : List (Nat × Dv)) (p : Nat × Dv) : nwOf (its ++ [p]) = Mi.put (nwOf its) (Sum.inl (p.1 : Int)) p.2 := by
  unfold nwOf
  rw [List.foldl_append]
  rfl
theorem look_map_ne {k k' : Mi.Key} {v : Dv} (h : k' ≠ k) : ∀ m : List (Mi.Key × Dv), Mi.look (m.map fun kv => if kv.1 = k then (kv.1, v) else kv) k' = Mi.look m k'
  | [] => rfl
  | (a, b) :: m => by
    have ih := look_map_ne (v := v) h m
    unfold Mi.look at ih ⊢
    rw [List.map_cons, List.find?_cons, List.find?_cons]
    by_cases ha : a = k
    · rw [if_pos ha]
      have : decide (a = k') = false := decide_eq_false fun e => h (e ▸ ha)
      simp only [this]
      exact ih
    · rw [if_neg ha]
      by_cases hk : a = k'
      · simp only [decide_eq_true hk]
      · simp only [decide_eq_false hk]
        exact ih
theorem look_map_eq {k : Mi.Key} {v : Dv} : ∀ m : List (Mi.Key × Dv), (m.any fun kv => decide (kv.1 = k)) = true → Mi.look (m.map fun kv => if kv.1 = k then (kv.1, v) else kv) k = some v
  | [], h => by cases h
  | (a, b) :: m, h => by
    unfold Mi.look
    rw [List.map_cons, List.find?_cons]
    by_cases ha : a = k
    · rw [if_pos ha]
      simp only [decide_eq_true ha]
      rfl
    · rw [if_neg ha]
      simp only [decide_eq_false ha]
      rw [List.any_cons, decide_eq_false ha, Bool.false_or] at h
      exact look_map_eq m h
theorem look_none {k : Mi.Key} : ∀ m : List (Mi.Key × Dv), (m.any fun kv => decide (kv.1 = k)) = false → m.find? (fun kv => decide (kv.1 = k)) = none
  | [], _ => rfl
  | (a, b) :: m, h => by
    rw [List.any_cons, Bool.or_eq_false_iff] at h
    rw [List.find?_cons, h.1]
    exact look_none m h.2
theorem look_put (m : List (Mi.Key × Dv)) (k k' : Mi.Key) (v : Dv) : Mi.look (Mi.put m k v) k' = if k' = k then some v else Mi.look m k' := by
  unfold Mi.put
  by_cases h : (m.any fun kv => decide (kv.1 = k)) = true
  · rw [if_pos h]
    by_cases e : k' = k
    · rw [if_pos e, e]
      exact look_map_eq m h
    · rw [if_neg e]
      exact look_map_ne e m
  · rw [if_neg h]
    have h' : (m.any fun kv => decide (kv.1 = k)) = false := Bool.eq_false_iff.mpr h
    unfold Mi.look
    rw [List.find?_append]
    by_cases e : k' = k
    · subst e
      rw [if_pos rfl, look_none m h']
      simp
    · rw [if_neg e]
      have : ([(k, v)] : List (Mi.Key × Dv)).find? (fun kv => decide (kv.1 = k')) = none := by
        rw [List.find?_cons]
        simp only [decide_eq_false (show ¬ k = k' from fun z => e z.symm)]
        rfl
      rw [this]
      simp
/-- the newest block of a place among what waits -/
def rd (its : List (Nat × Dv)) (p : Nat) : Option Dv := (its.reverse.find? fun q => decide (q.1 = p)).map (·.2)
theorem look_nw (p : Nat) : ∀ its : List (Nat × Dv), Mi.look (nwOf its) (Sum.inl (p : Int)) = rd its p := by
  refine snoc_ind rfl fun its q ih => ?_
  · skip
    rw [nwOf_app, look_put, ih]
    unfold rd
    rw [List.reverse_append, List.reverse_singleton, List.singleton_append, List.find?_cons]
    by_cases e : q.1 = p
    · rw [if_pos (by rw [e]), decide_eq_true e]
      rfl
    · rw [if_neg (by intro z; apply e; have := Sum.inl.inj z; omega), decide_eq_false e]
theorem nw_len : ∀ its : List (Nat × Dv), (nwOf its).length ≤ its.length := by
  refine snoc_ind (Nat.le_refl _) fun its q ih => ?_
  · skip
    rw [nwOf_app, List.length_append]
    unfold Mi.put
    split
    · rw [List.length_map]; simp; omega
    · rw [List.length_append]; simp <;> omega
/-- a torn write: m words of the new one, the others as they stood -/
def mix (m : Int) : Dv → Dv → Dv
  | .tup a, .tup b => .tup (Mi.cut a none (some m) ++ Mi.cut b (some m) none)
  | x, _ => x
theorem cut_lo (a : List Dv) (m : Nat) (h : m ≤ a.length) : Mi.cut a none (some (m : Int)) = a.take m := by
  unfold Mi.cut Mi.sIx
  simp only
  rw [if_neg (by omega)]
  have e : min (m : Int).toNat a.length = m := Nat.min_eq_left h
  rw [e, List.drop_zero, Nat.sub_zero]
theorem cut_hi (a : List Dv) (m : Nat) (h : m ≤ a.length) : Mi.cut a (some (m : Int)) none = a.drop m := by
  unfold Mi.cut Mi.sIx
  simp only
  rw [if_neg (by omega)]
  have e : min (m : Int).toNat a.length = m := Nat.min_eq_left h
  rw [e, List.take_of_length_le]
  rw [List.length_drop]
  exact Nat.le_refl _
theorem mix_blk {x y : Dv} {m : Nat} (hx : BlkD x) (hy : BlkD y) (h : m ≤ 32) : BlkD (mix m x y) := by
  obtain ⟨w, rfl, b1⟩ := hx
  obtain ⟨v, rfl, b2⟩ := hy
  refine ⟨w.take m ++ v.drop m, ?_, ?_, fun z hz => ?_⟩
  · unfold mix
    dsimp only
    rw [cut_lo _ _ (by rw [List.length_map, b1.1]; exact h), cut_hi _ _ (by rw [List.length_map, b2.1]; exact h)]
    show Dv.tup _ = Dv.tup _
    rw [List.map_append, List.map_take, List.map_drop]
  · rw [List.length_append, List.length_take, List.length_drop, b1.1, b2.1]
    omega
  · rcases (List.mem_append.mp hz : _ ∨ _) with q | q
    · exact b1.2 z (List.mem_of_mem_take q)
    · exact b2.2 z (List.mem_of_mem_drop q)
theorem mix_zero {x y : Dv} (hx : BlkD x) (hy : BlkD y) : mix 0 x y = y := by
  obtain ⟨w, rfl, b1⟩ := hx
  obtain ⟨v, rfl, b2⟩ := hy
  have := cut_lo (w.map Dv.int) 0 (Nat.zero_le _)
  have h2 := cut_hi (v.map Dv.int) 0 (Nat.zero_le _)
  unfold mix
  dsimp only
  rw [show (0 : Int) = ((0 : Nat) : Int) from rfl, this, h2]
  rfl
/-- all that waits, torn by the keep -/
def cutAll : List Dv → List (Nat × Dv) → List Nat → List Dv
  | bl, p :: its, m :: ks => cutAll (bl.set p.1 (mix m p.2 (bl.getD p.1 .non))) its ks
  | bl, _, _ => bl
end Lw


namespace Lw
open Mi (Dv MO Sto Sl Rs bnd ME MT MA MS MF Fl MG MGs MI)
open PySem (PyData)
theorem atI_nat {xs : List Dv} {p : Nat} (h : p < xs.length) : Mi.atI xs (p : Int) = some (xs.getD p .non) := by
  unfold Mi.atI
  rw [ixN_nat h]
  show xs[p]? = _
  simp only [List.getElem?_eq_getElem h, List.getD_eq_getElem?_getD]
  rfl
theorem cut_le (xs : List Dv) (lo hi : Option Int) : (Mi.cut xs lo hi).length ≤ xs.length := by
  unfold Mi.cut
  simp only [List.length_take, List.length_drop]
  omega
theorem blk_len {x : Dv} (h : BlkD x) : ∃ a, x = .tup a ∧ a.length = 32 := by
  obtain ⟨w, rfl, b⟩ := h
  exact ⟨_, rfl, by rw [List.length_map]; exact b.1⟩
theorem mixE (a b : List Dv) (m : Int) (G : Sto) (h1 : a.length = 32) (h2 : b.length = 32) : Mi.bAdd false (.tup (Mi.cut a none (some m))) (.tup (Mi.cut b (some m) none)) G = some (mix m (.tup a) (.tup b), G) := by
  unfold Mi.bAdd
  dsimp only
  rw [if_pos]
  · rfl
  · have := cut_le a none (some m)
    have := cut_le b (some m) none
    show _ ≤ 16777216
    omega
/-- the law's own disk -/
def itD (s k : Int) (hs : Nat) (wt fu : Dv) : List (Mi.Key × Dv) := [(Sum.inr "sizes", .tup [.int s, .int k, .int (N' s k), .int (R' s k)]), (Sum.inr "stand", .ref hs), (Sum.inr "wait", wt), (Sum.inr "fuse", fu)]
section
variable {G : Sto} {hi hs h hb hq hn : Nat} {s k : Int} {bl : List Dv} {its : List (Nat × Dv)} {nw : List (Mi.Key × Dv)}
theorem blank_ok (s k : Int) (G : Sto) (h1 : 6 ≤ s ∧ s ≤ 40) (h2 : 4 ≤ k ∧ k ≤ 24) :
    m_law_blank [.tup [.int s, .int k, .int (N' s k), .int (R' s k)]] G = some (.ref G.length, G ++ [.dct (itD s k (G.length + 1) (.fls []) .non), .lst (List.replicate (Many s k) d_BLANK)]) := by
  have hp := prodB h1 h2
  have hr := R'_b h1 h2
  have hM : (Many s k : Int) = 2 * R' s k + s * k := by unfold Many; rw [Int.toNat_of_nonneg (by omega)]
  have lm := fun G => law_many_ok s k G h1 h2
  have mt : ∀ (G : Sto), Mi.bMul false (.tup [.int 0]) (.int 32) G = some (d_BLANK, G) := fun G => rfl
  have c3 : ∀ G, Mi.bMul true (.fls [d_BLANK]) (.int (Many s k)) G = some (.ref G.length, G ++ [.lst (List.replicate (Many s k) d_BLANK)]) := fun G => by
    unfold Mi.bMul
    dsimp only
    rw [if_pos ⟨by omega, by omega, by show 1 * ((Many s k : Int)).toNat ≤ 16777216; omega⟩, rep1]
    rfl
  simp! [m_law_blank, b_law_blank, Mi.mDisp, Mi.mPairs, mt, lm, c3, get0, set0, List.foldl_cons, List.foldl_nil, itD]
theorem sub_wait {wt fu : Dv} (e : G[hi]? = some (.dct (itD s k hs wt fu))) : Mi.bSubs (.ref hi) (.str "wait") G = some (wt, G) := by
  simp! [Mi.bSubs, Mi.bGet, e, itD]
theorem sub_stand {wt fu : Dv} (e : G[hi]? = some (.dct (itD s k hs wt fu))) : Mi.bSubs (.ref hi) (.str "stand") G = some (.ref hs, G) := by
  simp! [Mi.bSubs, Mi.bGet, e, itD]
theorem sub_sizes {wt fu : Dv} (e : G[hi]? = some (.dct (itD s k hs wt fu))) : Mi.bSubs (.ref hi) (.str "sizes") G = some (.tup [.int s, .int k, .int (N' s k), .int (R' s k)], G) := by
  simp! [Mi.bSubs, Mi.bGet, e, itD]
theorem put_wait (wt wt' fu : Dv) : Mi.put (itD s k hs wt fu) (Sum.inr "wait") wt' = itD s k hs wt' fu := by
  simp [Mi.put, itD]
theorem put_fuse (wt fu fu' : Dv) : Mi.put (itD s k hs wt fu) (Sum.inr "fuse") fu' = itD s k hs wt fu' := by
  simp [Mi.put, itD]
theorem itD_len (wt fu : Dv) : (itD s k hs wt fu).length < 16777216 := by show 4 < 16777216; decide
/-- the law's read -/
theorem read_loop (a : Option Dv) (p : Nat) (G : Sto) : ∀ (r : List (Nat × Dv)) (x y : Option Dv), ∃ x' y', Mi.mLoop (Mi.gTup 2 (Mi.gCons (Mi.gNm 2) (Mi.gCons (Mi.gNm 3) Mi.gNil))) qb_law_read_1 (fun _ => True) (qOf r) [a, some (.int p), x, y] G =
    match r.find? (fun q => decide (q.1 = p)) with
    | some q => some (.rt q.2, [a, some (.int p), x', y'], G)
    | none => some (.nx, [a, some (.int p), x', y'], G)
  | [], x, y => ⟨x, y, by unfold qOf Mi.mLoop; simp⟩
  | q :: r, x, y => by
    by_cases e : q.1 = p
    · refine ⟨some (.int q.1), some q.2, ?_⟩
      show Mi.mLoop _ _ _ (.tup [.int q.1, q.2] :: qOf r) _ G = _
      unfold Mi.mLoop
      rw [List.find?_cons, decide_eq_true e]
      have e' : ((q.1 : Int) = (p : Int)) := by rw [e]
      simp! [qb_law_read_1, e']
    · obtain ⟨x', y', ih⟩ := read_loop a p G r (some (.int q.1)) (some q.2)
      refine ⟨x', y', ?_⟩
      show Mi.mLoop _ _ _ (.tup [.int q.1, q.2] :: qOf r) _ G = _
      unfold Mi.mLoop
      rw [List.find?_cons, decide_eq_false e]
      have e' : ¬ ((q.1 : Int) = (p : Int)) := by omega
      have ih' := ih
      simp! [qb_law_read_1, e'] 
      exact ih
theorem qOf_rev (its : List (Nat × Dv)) : (qOf its).reverse = qOf its.reverse := by unfold qOf; rw [List.map_reverse]
theorem law_read_ok {fu : Dv} (e : G[hi]? = some (.dct (itD s k hs (.fls (qOf its)) fu))) (e2 : G[hs]? = some (.lst bl)) (p : Nat) (hp : p < bl.length) : m_law_read [.ref hi, .int p] G = some ((rd its p).getD (bl.getD p .non), G) := by
  obtain ⟨x', y', lp⟩ := read_loop (some (.ref hi)) p G its.reverse none none
  have w := sub_wait e
  have st := sub_stand e
  have e3 : qf_law_read_1 [some (.ref hi), some (.int p), none, none] G = match its.reverse.find? (fun q => decide (q.1 = p)) with
    | some q => some (.rt q.2, [some (.ref hi), some (.int p), x', y'], G)
    | none => some (.nx, [some (.ref hi), some (.int p), x', y'], G) := by
    rw [← lp]
    unfold qf_law_read_1 qi_law_read_1 Mi.mFor
    simp! [Mi.iSeq, w, Mi.mRev, Mi.lstOf, Mi.seqOf, qOf_rev]
  have at2 := atI_nat hp
  have bs : Mi.bSubs (.ref hs) (.int (p : Int)) G = some (bl.getD p .non, G) := by
    simp! [Mi.bSubs, Mi.bGet, e2, Mi.bIx, Mi.seqOf, Mi.lstOf, at2]
  unfold rd
  cases ef : its.reverse.find? (fun q => decide (q.1 = p)) with
  | none =>
    rw [ef] at e3
    simp! [m_law_read, b_law_read, e3, st, bs]
  | some q =>
    rw [ef] at e3
    simp! [m_law_read, b_law_read, e3]
theorem forced_ok {fu : Dv} (e : G[hi]? = some (.dct (itD s k hs (.fls (qOf its)) fu))) (e2 : G[hs]? = some (.lst bl)) (ne : hi ≠ hs) (hp : ∀ p ∈ its, p.1 < bl.length) :
    ∃ G', m_law_forced [.ref hi] G = some (.non, G') ∧ G'[hi]? = some (.dct (itD s k hs (.fls []) fu)) ∧ G'[hs]? = some (.lst (layAll bl its)) ∧ Sm [hi, hs] G G' ∧ G'.length = G.length := by
  obtain ⟨δ', G1, lp, bl', r, ⟨x, y, rfl⟩, er, g1, g2, S1, L1, hp1, ef⟩ := loop_inv (g := Mi.gTup 2 (Mi.gCons (Mi.gNm 2) (Mi.gCons (Mi.gNm 3) Mi.gNil))) (b := qb_law_forced_1) (st := fun _ => True)
    (fun rest δ G1 => ∃ (bl' : List Dv) (r : List (Nat × Dv)), (∃ x y, δ = [some (.ref hi), some (.ref hs), x, y]) ∧ rest = qOf r ∧ G1[hi]? = some (.dct (itD s k hs (.fls (qOf its)) fu)) ∧ G1[hs]? = some (.lst bl') ∧ Sm [hi, hs] G G1 ∧ G1.length = G.length ∧ (∀ p ∈ r, p.1 < bl'.length) ∧ layAll bl' r = layAll bl its)
    (fun d ds δ G1 ⟨bl', r, ⟨x, y, ed⟩, er, g1, g2, S1, L1, hp1, ef⟩ => by
      subst ed
      cases r with
      | nil => cases er
      | cons p r =>
        cases er
        refine ⟨trivial, _, _, rfl, [some (.ref hi), some (.ref hs), some (.int p.1), some p.2], G1.set hs (.lst (bl'.set p.1 p.2)), ?_, bl'.set p.1 p.2, r, ⟨_, _, rfl⟩, rfl, ?_, set_at g2, S1.trans (sm_set (by simp)), by rw [List.length_set]; exact L1, fun q hq => by rw [List.length_set]; exact hp1 q (List.mem_cons_of_mem _ hq), ef⟩
        · have ei := ixN_nat (hp1 p (List.mem_cons_self ..))
          simp! [qb_law_forced_1, Mi.mSetI, g2, ei]
        · rw [List.getElem?_set_ne ne.symm]
          exact g1)
    (fun _ _ _ => trivial) (qOf its) [some (.ref hi), some (.ref hs), none, none] G ⟨bl, its, ⟨_, _, rfl⟩, rfl, e, e2, Sm.refl, rfl, hp, rfl⟩
  have hr : r = [] := by
    cases r with
    | nil => rfl
    | cons p r => cases er
  subst hr
  have w := sub_wait e
  have st := sub_stand e
  have e3 : qf_law_forced_1 [some (.ref hi), some (.ref hs), none, none] G = some (.nx, [some (.ref hi), some (.ref hs), x, y], G1) := by
    unfold qf_law_forced_1 qi_law_forced_1 Mi.mFor
    simp! [Mi.iSeq, w, Mi.lstOf, Mi.seqOf, lp]
  have pw := put_wait (s := s) (k := k) (hs := hs) (.fls (qOf its)) (.fls []) fu
  have ln := itD_len (s := s) (k := k) (hs := hs) (.fls (qOf its)) fu
  refine ⟨G1.set hi (.dct (itD s k hs (.fls []) fu)), ?_, set_at g1, ?_, S1.trans (sm_set (by simp)), by rw [List.length_set]; exact L1⟩
  · simp! [-Mi.put, m_law_forced, b_law_forced, st, e3, Mi.mSetK, g1, pw, ln]
  · rw [List.getElem?_set_ne ne, ← ef]
    exact g2
end
end Lw


namespace Lw
open Mi (Dv MO Sto Sl Rs bnd ME MT MA MS MF Fl MG MGs MI)
open PySem (PyData)
def AllB (bl : List Dv) : Prop := ∀ x ∈ bl, BlkD x
theorem AllB.get {bl : List Dv} (h : AllB bl) {p : Nat} (hp : p < bl.length) : BlkD (bl.getD p .non) := by
  rw [List.getD_eq_getElem?_getD, List.getElem?_eq_getElem hp]
  exact h _ (List.getElem_mem hp)
theorem AllB.set {bl : List Dv} (h : AllB bl) (p : Nat) {x : Dv} (hx : BlkD x) : AllB (bl.set p x) := fun y hy => by
  rcases List.mem_or_eq_of_mem_set hy with q | q
  · exact h y q
  · rw [q]; exact hx
theorem set_same {bl : List Dv} {p : Nat} (hp : p < bl.length) : bl.set p (bl.getD p .non) = bl := by
  rw [List.getD_eq_getElem?_getD, List.getElem?_eq_getElem hp]
  exact List.set_getElem_self hp
theorem enum_cons (n : Nat) (p : Nat × Dv) (r : List (Nat × Dv)) : Mi.enumD n (qOf (p :: r)) = .tup [.int (n : Nat), .tup [.int p.1, p.2]] :: Mi.enumD (n + 1) (qOf r) := rfl
section
variable {G : Sto} {hi hs h hb hq hn : Nat} {s k : Int} {bl : List Dv} {its : List (Nat × Dv)} {nw : List (Mi.Key × Dv)}
/-- one torn write of the law's own -/
theorem tearE {a b : Dv} (ha : BlkD a) (hb : BlkD b) (m : Int) (G : Sto) : (∃ xs ys, a = .tup xs ∧ b = .tup ys ∧ Mi.bAdd false (.tup (Mi.cut xs none (some m))) (.tup (Mi.cut ys (some m) none)) G = some (mix m a b, G)) := by
  obtain ⟨xs, rfl, l1⟩ := blk_len ha
  obtain ⟨ys, rfl, l2⟩ := blk_len hb
  exact ⟨xs, ys, rfl, rfl, mixE xs ys m G l1 l2⟩
theorem fell_ok {fu : Dv} {ks : List Nat} (e : G[hi]? = some (.dct (itD s k hs (.fls (qOf its)) fu))) (e2 : G[hs]? = some (.lst bl)) (ne : hi ≠ hs) (hp : ∀ p ∈ its, p.1 < bl.length ∧ BlkD p.2) (hB : AllB bl) (hk : ∀ m ∈ ks, m ≤ 32) :
    ∃ G', m_law_fell [.ref hi, .tup (ks.map fun m => .int (m : Nat))] G = some (.non, G') ∧ G'[hi]? = some (.dct (itD s k hs (.fls []) .non)) ∧ G'[hs]? = some (.lst (cutAll bl its ks)) ∧ Sm [hi, hs] G G' ∧ G'.length = G.length := by
  obtain ⟨δ', G1, lp, n, bl', r, ⟨x1, x2, x3, x4, rfl⟩, er, g1, g2, S1, L1, hp1, hB1, ef⟩ := loop_inv (g := Mi.gTup 2 (Mi.gCons (Mi.gNm 3) (Mi.gCons (Mi.gTup 2 (Mi.gCons (Mi.gNm 4) (Mi.gCons (Mi.gNm 5) Mi.gNil))) Mi.gNil))) (b := qb_law_fell_1) (st := fun _ => True)
    (fun rest δ G1 => ∃ (n : Nat) (bl' : List Dv) (r : List (Nat × Dv)), (∃ x1 x2 x3 x4, δ = [some (.ref hi), some (.tup (ks.map fun m => .int (m : Nat))), some (.ref hs), x1, x2, x3, x4]) ∧ rest = Mi.enumD n (qOf r) ∧ G1[hi]? = some (.dct (itD s k hs (.fls (qOf its)) fu)) ∧ G1[hs]? = some (.lst bl') ∧ Sm [hi, hs] G G1 ∧ G1.length = G.length ∧ (∀ p ∈ r, p.1 < bl'.length ∧ BlkD p.2) ∧ AllB bl' ∧ cutAll bl' r (ks.drop n) = cutAll bl its ks)
    (fun d ds δ G1 ⟨n, bl', r, ⟨x1, x2, x3, x4, ed⟩, er, g1, g2, S1, L1, hp1, hB1, ef⟩ => by
      subst ed
      cases r with
      | nil => cases er
      | cons p r =>
        rw [enum_cons] at er
        cases er
        obtain ⟨q1, q2⟩ := hp1 p (List.mem_cons_self ..)
        have ei := ixN_nat q1
        have ea := atI_nat q1
        have bs : Mi.bSubs (.ref hs) (.int (p.1 : Int)) G1 = some (bl'.getD p.1 .non, G1) := by
          simp! [Mi.bSubs, Mi.bGet, g2, Mi.bIx, Mi.seqOf, Mi.lstOf, ea]
        obtain ⟨xs, ys, ex, ey, et⟩ := tearE q2 (hB1.get q1) (ks.getD n 0 : Nat) G1
        have hm : ks.getD n 0 ≤ 32 := by
          simp only [List.getD_eq_getElem?_getD]
          cases ee : ks[n]? with
          | none => exact Nat.zero_le _
          | some m => exact hk m (List.mem_of_getElem? ee)
        have bb := mix_blk q2 (hB1.get q1) hm
        refine ⟨trivial, [some (.ref hi), some (.tup (ks.map fun m => .int (m : Nat))), some (.ref hs), some (.int (n : Nat)), some (.int p.1), some p.2, x4], G1, ?_, [some (.ref hi), some (.tup (ks.map fun m => .int (m : Nat))), some (.ref hs), some (.int (n : Nat)), some (.int p.1), some p.2, some (.int (ks.getD n 0 : Nat))], G1.set hs (.lst (bl'.set p.1 (mix (ks.getD n 0 : Nat) p.2 (bl'.getD p.1 .non)))), ?_, n + 1, bl'.set p.1 (mix (ks.getD n 0 : Nat) p.2 (bl'.getD p.1 .non)), r, ⟨_, _, _, _, rfl⟩, rfl, ?_, set_at g2, S1.trans (sm_set (by simp)), by rw [List.length_set]; exact L1, ?_, ?_, ?_⟩
        · simp! []
        · rw [ex, ey] at et ⊢
          rw [ey] at bs
          by_cases hn : n < ks.length
          · have ak : Mi.atI (ks.map fun m => Dv.int (m : Nat)) (n : Int) = some (.int (ks.getD n 0 : Nat)) := by
              rw [atI_nat (by rw [List.length_map]; exact hn), List.getD_eq_getElem?_getD, List.getD_eq_getElem?_getD, List.getElem?_map, List.getElem?_eq_getElem hn]
              rfl
            have hn' : (n : Int) < (ks.length : Int) := by omega
            simp! [-Mi.bAdd, qb_law_fell_1, Mi.mSetI, Mi.fLen, List.length_map, hn', Mi.bSubs, Mi.bGet, Mi.bIx, Mi.seqOf, ak, Mi.mSlice, Mi.mO, Mi.lstOf, g2, ea, ey, et, ei]
          · have hn' : ¬ (n : Int) < (ks.length : Int) := by omega
            have z : ks.getD n 0 = 0 := by rw [List.getD_eq_getElem?_getD, List.getElem?_eq_none (by omega)]; rfl
            rw [z] at et ⊢
            have et' : Mi.bAdd false (Dv.tup (Mi.cut xs none (some 0))) (Dv.tup (Mi.cut ys (some 0) none)) G1 = some (mix 0 (Dv.tup xs) (Dv.tup ys), G1) := et
            simp! [-Mi.bAdd, qb_law_fell_1, Mi.mSetI, Mi.fLen, List.length_map, hn', Mi.bSubs, Mi.bGet, Mi.bIx, Mi.seqOf, Mi.mSlice, Mi.mO, Mi.lstOf, g2, ea, ey, et', ei]
            rfl
        · rw [List.getElem?_set_ne ne.symm]
          exact g1
        · intro q hq
          rw [List.length_set]
          exact hp1 q (List.mem_cons_of_mem _ hq)
        · exact hB1.set p.1 bb
        · by_cases hn : n < ks.length
          · have ek : ks.drop n = ks[n] :: ks.drop (n + 1) := List.drop_eq_getElem_cons hn
            have eg : ks.getD n 0 = ks[n] := by rw [List.getD_eq_getElem?_getD, List.getElem?_eq_getElem hn]; rfl
            rw [ek] at ef
            rw [eg]
            exact ef
          · have z : ks.getD n 0 = 0 := by rw [List.getD_eq_getElem?_getD, List.getElem?_eq_none (by omega)]; rfl
            rw [List.drop_eq_nil_of_le (by omega)] at ef ⊢
            rw [z, show ((0 : Nat) : Int) = 0 from rfl, mix_zero q2 (hB1.get q1), set_same q1]
            rw [← ef]
            cases r <;> rfl)
    (fun _ _ _ => trivial) (Mi.enumD 0 (qOf its)) [some (.ref hi), some (.tup (ks.map fun m => .int (m : Nat))), some (.ref hs), none, none, none, none] G ⟨0, bl, its, ⟨_, _, _, _, rfl⟩, rfl, e, e2, Sm.refl, rfl, hp, hB, rfl⟩
  have hr : r = [] := by
    cases r with
    | nil => rfl
    | cons p r => rw [enum_cons] at er; cases er
  subst hr
  have w := sub_wait e
  have st := sub_stand e
  have e3 : qf_law_fell_1 [some (.ref hi), some (.tup (ks.map fun m => .int (m : Nat))), some (.ref hs), none, none, none, none] G = some (.nx, [some (.ref hi), some (.tup (ks.map fun m => .int (m : Nat))), some (.ref hs), x1, x2, x3, x4], G1) := by
    unfold qf_law_fell_1 qi_law_fell_1 Mi.mFor
    simp! [Mi.iEnum, w, Mi.lstOf, lp]
  have pw := put_wait (s := s) (k := k) (hs := hs) (.fls (qOf its)) (.fls []) fu
  have ln := itD_len (s := s) (k := k) (hs := hs) (.fls (qOf its)) fu
  have pf := put_fuse (s := s) (k := k) (hs := hs) (.fls []) fu .non
  have ln2 := itD_len (s := s) (k := k) (hs := hs) (.fls []) fu
  have g3 := set_at (o' := .dct (itD s k hs (.fls []) fu)) g1
  have ec : bl' = cutAll bl its ks := by rw [← ef]; cases ks.drop n <;> rfl
  refine ⟨(G1.set hi (.dct (itD s k hs (.fls []) fu))).set hi (.dct (itD s k hs (.fls []) .non)), ?_, set_at g3, ?_, (S1.trans (sm_set (by simp))).trans (sm_set (by simp)), by rw [List.length_set, List.length_set]; exact L1⟩
  · simp! [-Mi.put, m_law_fell, b_law_fell, st, e3, Mi.mSetK, g1, pw, ln, g3, pf, ln2]
  · rw [List.getElem?_set_ne ne, List.getElem?_set_ne ne, ← ec]
    exact g2
end
end Lw


namespace Lw
open Mi (Dv MO Sto Sl Rs bnd ME MT MA MS MF Fl MG MGs MI)
open PySem (PyData)
abbrev kD (ks : List Nat) : List Dv := ks.map fun m => .int (m : Nat)
theorem is_keep_ok (ks : List Nat) (G : Sto) (hk : ∀ m ∈ ks, m ≤ 32) (hl : ks.length ≤ 10000) : m_is_keep [.tup (kD ks)] G = some (.bl true, G) := by
  have e := lc_map (i := 1) (e := qe_is_keep_1) (st := fun _ => True) (δ := [some (.tup (kD ks)), none]) (f := fun _ => .bl true) (G := G) trivial (kD ks) [] (fun d hd => by
    obtain ⟨m, hm, rfl⟩ := List.mem_map.mp hd
    have := hk m hm
    have b : (0 : Int) ≤ (m : Int) ∧ (m : Int) ≤ 32 := by omega
    simp! [qe_is_keep_1, is_between_int, b]) (by rw [List.length_map]; show 0 + ks.length ≤ 16777216; omega)
  rw [List.nil_append] at e
  have e2 : ql_is_keep_1 [some (.tup (kD ks)), none] G = some (.fls ((kD ks).map fun _ => .bl true), G) := by
    unfold ql_is_keep_1 qi_is_keep_1 Mi.mLc
    simp! [Mi.iSeq, Mi.seqOf, e]
  have e3 := bools_true (kD ks)
  simp! [m_is_keep, b_is_keep, e2, Mi.fAll, Mi.lstOf, e3]
  simp
theorem zip_cons (p : Nat × Dv) (r : List (Nat × Dv)) (m : Nat) (ks : List Nat) : List.zipWith (fun a b => Dv.tup [a, b]) (qOf (p :: r)) (kD (m :: ks)) = .tup [.tup [.int p.1, p.2], .int (m : Nat)] :: List.zipWith (fun a b => Dv.tup [a, b]) (qOf r) (kD ks) := rfl
theorem lst_ref {G : Sto} {h : Nat} {xs : List Dv} (e : G[h]? = some (.lst xs)) : Mi.lstOf G (.ref h) = some xs := by simp only [Mi.lstOf, e]
section
variable {G : Sto} {hi hs h hb hq hn : Nat} {s k : Int} {bl : List Dv} {its : List (Nat × Dv)} {nw : List (Mi.Key × Dv)}
theorem cut_ok {fu : Dv} {ks : List Nat} (D : Dsk fu G h hb hq hn s k bl (qOf its) nw) (hp : ∀ p ∈ its, p.1 < bl.length ∧ BlkD p.2) (hB : AllB bl) (hk : ∀ m ∈ ks, m ≤ 32) (hl : ks.length ≤ 10000) :
    ∃ G', m_Disk_cut [.ref h, .tup (kD ks)] G = some (.non, G') ∧ Dsk .non G' h hb G.length (G.length + 1) s k (cutAll bl its ks) [] [] ∧ Sm [h, hb] G G' ∧ G'.length = G.length + 2 := by
  have e1 := is_keep_ok ks G hk hl
  obtain ⟨δ', G1, e2, bl', r, js, ⟨x, y, z, rfl⟩, er, D1, S1, L1, hp1, hB1, hk1, ef⟩ := loop_inv (g := Mi.gTup 2 (Mi.gCons (Mi.gTup 2 (Mi.gCons (Mi.gNm 2) (Mi.gCons (Mi.gNm 3) Mi.gNil))) (Mi.gCons (Mi.gNm 4) Mi.gNil))) (b := qb_Disk_cut_1) (st := fun G' => Mi.lstOf G' (.ref hq) = some (qOf its))
    (fun rest δ G1 => ∃ (bl' : List Dv) (r : List (Nat × Dv)) (js : List Nat), (∃ x y z, δ = [some (.ref h), some (.tup (kD ks)), x, y, z]) ∧ rest = List.zipWith (fun a b => Dv.tup [a, b]) (qOf r) (kD js) ∧ Dsk fu G1 h hb hq hn s k bl' (qOf its) nw ∧ Sm [h, hb] G G1 ∧ G1.length = G.length ∧ (∀ p ∈ r, p.1 < bl'.length ∧ BlkD p.2) ∧ AllB bl' ∧ (∀ m ∈ js, m ≤ 32) ∧ cutAll bl' r js = cutAll bl its ks)
    (fun d ds δ G1 ⟨bl', r, js, ⟨x, y, z, ed⟩, er, D1, S1, L1, hp1, hB1, hk1, ef⟩ => by
      subst ed
      cases r with
      | nil => cases er
      | cons p r =>
        cases js with
        | nil => cases er
        | cons m js =>
          rw [zip_cons] at er
          cases er
          obtain ⟨q1, q2⟩ := hp1 p (List.mem_cons_self ..)
          have ei := ixN_nat q1
          have ea := atI_nat q1
          obtain ⟨xs, ys, ex, ey, et⟩ := tearE q2 (hB1.get q1) (m : Nat) G1
          have bb := mix_blk q2 (hB1.get q1) (hk1 m (List.mem_cons_self ..))
          refine ⟨lst_ref D1.qu, [some (.ref h), some (.tup (kD ks)), some (.int p.1), some p.2, some (.int (m : Nat))], G1, by simp! [], [some (.ref h), some (.tup (kD ks)), some (.int p.1), some p.2, some (.int (m : Nat))], G1.set hb (.lst (bl'.set p.1 (mix (m : Nat) p.2 (bl'.getD p.1 .non)))), ?_, bl'.set p.1 (mix (m : Nat) p.2 (bl'.getD p.1 .non)), r, js, ⟨_, _, _, rfl⟩, rfl, ?_, S1.trans (sm_set (by simp)), by rw [List.length_set]; exact L1, ?_, hB1.set p.1 bb, fun j hj => hk1 j (List.mem_cons_of_mem _ hj), ef⟩
          · rw [ex, ey] at et ⊢
            have ob := D1.ob
            simp only [dfs] at ob
            simp! [-Mi.bAdd, qb_Disk_cut_1, Mi.mSetI, ob, D1.bl, Mi.bSubs, Mi.bGet, Mi.bIx, Mi.seqOf, Mi.lstOf, Mi.mSlice, Mi.mO, ea, ey, et, ei]
          · exact ⟨by rw [List.getElem?_set_ne D1.n1.symm]; exact D1.ob, set_at D1.bl, by rw [List.getElem?_set_ne D1.n4]; exact D1.qu, by rw [List.getElem?_set_ne D1.n5]; exact D1.nw, D1.n1, D1.n2, D1.n3, D1.n4, D1.n5, D1.n6⟩
          · intro q hq
            rw [List.length_set]
            exact hp1 q (List.mem_cons_of_mem _ hq))
    (fun δ G1 ⟨bl', r, js, _, _, D1, _⟩ => lst_ref D1.qu)
    (List.zipWith (fun a b => Dv.tup [a, b]) (qOf its) (kD ks)) [some (.ref h), some (.tup (kD ks)), none, none, none] G ⟨bl, its, ks, ⟨_, _, _, rfl⟩, rfl, D, Sm.refl, rfl, hp, hB, hk, rfl⟩
  have ec : bl' = cutAll bl its ks := by
    rw [← ef]
    cases r with
    | nil => rfl
    | cons p r =>
      cases js with
      | nil => rfl
      | cons m js => rw [zip_cons] at er; cases er
  have ob := D.ob
  simp only [dfs] at ob
  have e3 : qf_Disk_cut_1 [some (.ref h), some (.tup (kD ks)), none, none, none] G = some (.nx, [some (.ref h), some (.tup (kD ks)), x, y, z], G1) := by
    unfold qf_Disk_cut_1 qi_Disk_cut_1 Mi.mFor Ms.mZip
    have hs := lst_ref D.qu
    simp! [ob, hs, e2]
  have o1 : (G1 ++ [MO.lst []])[h]? = some (.ins 0 (dfs s k hb hq hn fu)) := by rw [List.getElem?_append_left (lt_get D1.ob)]; exact D1.ob
  have o2 := set_at (o' := .ins 0 (dfs s k hb G1.length hn fu)) o1
  have o3 : ((G1 ++ [MO.lst []]).set h (.ins 0 (dfs s k hb G1.length hn fu)) ++ [MO.dct []])[h]? = some (.ins 0 (dfs s k hb G1.length hn fu)) := by rw [List.getElem?_append_left (lt_get o2)]; exact o2
  have o4 := set_at (o' := .ins 0 (dfs s k hb G1.length (G1.length + 1) fu)) o3
  have hh : h < G1.length := lt_get D1.ob
  have hhb : hb < G1.length := lt_get D1.bl
  refine ⟨(((G1 ++ [MO.lst []]).set h (.ins 0 (dfs s k hb G1.length hn fu)) ++ [MO.dct []]).set h (.ins 0 (dfs s k hb G1.length (G1.length + 1) fu))).set h (.ins 0 (dfs s k hb G1.length (G1.length + 1) .non)), ?_, ?_, ?_, ?_⟩
  · have o1' := o1
    have o3' := o3
    have o4' := o4
    simp only [dfs] at o1' o3' o4'
    simp! [m_Disk_cut, b_Disk_cut, e1, e3, Mi.mSetF, o1', o3', o4', List.length_set, dfs]
  · rw [← L1]
    refine ⟨set_at o4, ?_, ?_, ?_, D.n1, by omega, by omega, by omega, by omega, by omega⟩
    · rw [List.getElem?_set_ne D.n1, List.getElem?_set_ne D.n1, List.getElem?_append_left (by simp; omega), List.getElem?_set_ne D.n1, List.getElem?_append_left hhb, ← ec]
      exact D1.bl
    · rw [List.getElem?_set_ne (by omega), List.getElem?_set_ne (by omega), List.getElem?_append_left (by simp), List.getElem?_set_ne (by omega), List.getElem?_append_right (Nat.le_refl _)]
      simp
    · rw [List.getElem?_set_ne (by omega), List.getElem?_set_ne (by omega), List.getElem?_append_right (by simp)]
      simp
  · exact ((((S1.trans sm_app).trans (sm_set (by simp))).trans sm_app).trans (sm_set (by simp))).trans (sm_set (by simp))
  · simp [L1]
end
end Lw


namespace Lw
open Mi (Dv MO Sto Sl Rs bnd ME MT MA MS MF Fl MG MGs MI)
open PySem (PyData)
theorem lc_drw {hd hc i : Nat} {e : ME} {δ : Sl} {G : Sto} {P : Int → Prop} (d0 : Dk hd hc G) (ds : List Dv) (he : ∀ d ∈ ds, ∀ G1, Dr hd hc G G1 → ∃ y G', e (δ.set i (some d)) G1 = some (.int y, G') ∧ P y ∧ Dr hd hc G1 G') (hb : ds.length < 1000) :
    ∃ (ws : List Int) (G' : Sto), Mi.mLcLoop (Mi.gNm i) Mi.tYes e (fun _ => True) δ ds [] G = some (ws.map Dv.int, G') ∧ ws.length = ds.length ∧ (∀ w ∈ ws, P w) ∧ Dr hd hc G G' := by
  obtain ⟨acc, G', e1, ws, rfl, hl, hw, hr⟩ := lc_inv (g := Mi.gNm i) (t := Mi.tYes) (e := e) (st := fun _ => True) (δ := δ)
    (P := fun r acc G' => (∃ ws : List Int, acc = ws.map Dv.int ∧ ws.length + r.length = ds.length ∧ (∀ w ∈ ws, P w) ∧ Dr hd hc G G' ∧ ∀ d ∈ r, d ∈ ds))
    (fun d r acc G1 ⟨ws, ea, hl, hw, hr, hm⟩ => by
      obtain ⟨y, G2, e2, hy, r2⟩ := he d (hm d (List.mem_cons_self ..)) G1 hr
      rw [List.length_cons] at hl
      refine ⟨trivial, ?_, _, _, rfl, _, rfl, _, _, e2, ws ++ [y], ?_, ?_, ?_, hr.trans r2, fun x hx => hm x (List.mem_cons_of_mem _ hx)⟩
      · rw [ea, List.length_map]
        show ws.length < 16777216
        omega
      · rw [ea, List.map_append]; rfl
      · simp only [List.length_append, List.length_singleton]
        omega
      · intro w hw'
        rcases List.mem_append.mp hw' with q | q
        · exact hw w q
        · rw [List.mem_singleton.mp q]
          exact hy)
    (fun _ _ _ => trivial) ds [] G ⟨[], rfl, by simp, by simp, ⟨d0, Sm.refl, rfl⟩, fun d h => h⟩
  exact ⟨ws, G', e1, by simpa using hl, hw, hr.1⟩
theorem lc_pure {g : MG} {e : ME} {st : Sto → Prop} {δ : Sl} {f : Dv → Dv} {G : Sto} (hs : st G) : ∀ (ds acc : List Dv), (∀ d ∈ ds, ∃ δ1, g d δ G = some (δ1, G) ∧ e δ1 G = some (f d, G)) → acc.length + ds.length ≤ Mi.big →
    Mi.mLcLoop g Mi.tYes e st δ ds acc G = some (acc ++ ds.map f, G)
  | [], acc, _, _ => by unfold Mi.mLcLoop; rw [if_pos hs]; simp
  | d :: ds, acc, he, hb => by
    have h1 : acc.length < Mi.big := by rw [List.length_cons] at hb; omega
    obtain ⟨δ1, e1, e2⟩ := he d (List.mem_cons_self ..)
    unfold Mi.mLcLoop
    rw [if_pos ⟨hs, h1⟩, e1]
    simp only [Mi.tYes]
    rw [e2]
    dsimp only
    rw [lc_pure hs ds (acc ++ [f d]) (fun x hx => he x (List.mem_cons_of_mem _ hx)) (by rw [List.length_append]; simp at hb ⊢; omega)]
    simp
theorem kD_of {ws : List Int} (h : ∀ w ∈ ws, 0 ≤ w ∧ w ≤ 32) : ws.map Dv.int = kD (ws.map Int.toNat) ∧ ∀ m ∈ ws.map Int.toNat, m ≤ 32 := by
  refine ⟨?_, fun m hm => ?_⟩
  · show _ = (ws.map Int.toNat).map _
    rw [List.map_map]
    refine List.map_congr_left fun w hw => ?_
    show Dv.int w = Dv.int (w.toNat : Int)
    rw [Int.toNat_of_nonneg (h w hw).1]
  · obtain ⟨w, hw, rfl⟩ := List.mem_map.mp hm
    have := h w hw
    omega
theorem rng_toNat (z : Int) : (Mi.rng 0 z).length = z.toNat := by simp [Mi.rng]
theorem keep_ok {hd hc : Nat} {G : Sto} (d : Dk hd hc G) (n : Int) (h0 : 0 ≤ n) (hn : n ≤ 500) : ∃ ks G', m_law_keep [.ref hd, .int n] G = some (.tup (kD ks), G') ∧ (∀ m ∈ ks, m ≤ 32) ∧ ks.length ≤ 10000 ∧ Dr hd hc G G' := by
  obtain ⟨x, G1, e1, hx, c1⟩ := pick d [.int 0, .int 0, .int (-1), .int 2, .int (-n)] (by simp) (by simp)
  have hx' : ∃ v : Int, x = .int v ∧ v ≤ 2 := by
    simp only [List.mem_cons, or_false, List.not_mem_nil] at hx
    rcases hx with rfl | rfl | rfl | rfl | rfl <;> refine ⟨_, rfl, ?_⟩ <;> omega
  obtain ⟨v, rfl, hv⟩ := hx'
  have hL : 0 ≤ (if n + v > 0 then n + v else 0) ∧ (if n + v > 0 then n + v else 0) ≤ 502 := by split <;> omega
  generalize eL : (if n + v > 0 then n + v else 0) = L at hL
  obtain ⟨L0, L1⟩ := hL
  obtain ⟨ws, G2, e2, l2, w2, c2⟩ := lc_drw (P := fun y => 0 ≤ y ∧ y ≤ 32) (i := 3) (e := qe_law_keep_1) (δ := [some (.ref hd), some (.int n), some (.int L), none]) c1.d (Mi.rng 0 L) (fun y hy G d => by
    obtain ⟨r, G1, e1, a1, b1, c1⟩ := draw d.d 33 (by omega) (by omega)
    obtain ⟨x, G2, e2, hx, c2⟩ := pick c1.d [.int 0, .int 32, .int 32, .int 0, .int 1, .int 31, .int r] (by simp) (by simp)
    have hx' : ∃ v : Int, x = .int v ∧ 0 ≤ v ∧ v ≤ 32 := by
      simp only [List.mem_cons, or_false, List.not_mem_nil] at hx
      rcases hx with rfl | rfl | rfl | rfl | rfl | rfl | rfl <;> refine ⟨_, rfl, ?_, ?_⟩ <;> omega
    obtain ⟨v, rfl, hv⟩ := hx'
    refine ⟨v, G2, ?_, hv, c1.trans c2⟩
    simp! [qe_law_keep_1, e1, e2]) (by rw [rng_toNat]; omega)
  obtain ⟨ek, hk⟩ := kD_of w2
  have e3 : ql_law_keep_1 [some (.ref hd), some (.int n), some (.int L), none] G1 = some (.fls (ws.map Dv.int), G2) := by
    have b : -(2 ^ 62) ≤ L ∧ L < 2 ^ 62 := by omega
    unfold ql_law_keep_1 qi_law_keep_1 Mi.mLc
    simp only [Mi.bnd, Mi.iRange1, Mi.mVar, List.getElem?_cons_succ, List.getElem?_cons_zero, b, and_self, if_true, Mi.wipe, List.set_cons_succ, List.set_cons_zero, e2, Mi.mkL, Bool.false_eq_true, if_false]
  refine ⟨ws.map Int.toNat, G2, ?_, hk, by rw [List.length_map, l2, rng_toNat]; omega, c1.trans c2⟩
  simp! [m_law_keep, b_law_keep, e1, e3, eL, Mi.fTuple, Mi.lstOf]
  rw [ek]
theorem drawn_sizes {hd hc : Nat} {G : Sto} (d : Dk hd hc G) : ∃ s k G', m_law_drawn_sizes [.ref hd] G = some (.tup [.int s, .int k, .int (N' s k), .int (R' s k)], G') ∧ (6 ≤ s ∧ s ≤ 40) ∧ (4 ≤ k ∧ k ≤ 24) ∧ Dr hd hc G G' := by
  obtain ⟨r0, G0, e0, a0, b0, c0⟩ := draw d 16 (by omega) (by omega)
  by_cases h : r0 = 0
  · subst h
    obtain ⟨r1, G1, e1, a1, b1, c1⟩ := draw c0.d 35 (by omega) (by omega)
    obtain ⟨r2, G2, e2, a2, b2, c2⟩ := draw c1.d 21 (by omega) (by omega)
    have ls := law_sizes_ok (6 + r1) (4 + r2) G2 (by omega) (by omega)
    refine ⟨6 + r1, 4 + r2, G2, ?_, by omega, by omega, (c0.trans c1).trans c2⟩
    simp! [m_law_drawn_sizes, b_law_drawn_sizes, e0, e1, e2, ls]
  · obtain ⟨r1, G1, e1, a1, b1, c1⟩ := draw c0.d 4 (by omega) (by omega)
    obtain ⟨r2, G2, e2, a2, b2, c2⟩ := draw c1.d 5 (by omega) (by omega)
    have ls := law_sizes_ok (6 + r1) (4 + r2) G2 (by omega) (by omega)
    refine ⟨6 + r1, 4 + r2, G2, ?_, by omega, by omega, (c0.trans c1).trans c2⟩
    simp! [m_law_drawn_sizes, b_law_drawn_sizes, e0, e1, e2, ls, h]
/-! ### what repr tells of blocks -/
theorem re_blk {x : Dv} (h : BlkD x) : ∃ d, Re x d 2051 1 := by
  obtain ⟨w, rfl, b⟩ := h
  have := re_tup (re_ints fun z hz => abs18' (b.2 z hz))
  rw [b.1] at this
  exact ⟨_, this⟩
theorem re_bl : ∀ {bl : List Dv}, AllB bl → ∃ ds, ReL bl ds (2053 * bl.length) 1
  | [], _ => ⟨[], re_nil⟩
  | x :: bl, h => by
    obtain ⟨d, hd⟩ := re_blk (h x (List.mem_cons_self ..))
    obtain ⟨ds, hds⟩ := re_bl (bl := bl) fun y hy => h y (List.mem_cons_of_mem _ hy)
    have := re_cons hd hds (Nat.le_refl _)
    rw [show 2051 + 2053 * bl.length + 2 = 2053 * (x :: bl).length by rw [List.length_cons]; omega] at this
    exact ⟨_, this⟩
theorem re_q : ∀ {its : List (Nat × Dv)}, (∀ p ∈ its, p.1 < 100000 ∧ BlkD p.2) → ∃ ds, ReL (qOf its) ds (2122 * its.length) 2
  | [], _ => ⟨[], re_nil⟩
  | p :: its, h => by
    have ⟨h1, h2⟩ := h p (List.mem_cons_self ..)
    obtain ⟨d, hd⟩ := re_blk h2
    obtain ⟨ds, hds⟩ := re_q (its := its) fun y hy => h y (List.mem_cons_of_mem _ hy)
    have hi : Re (.int (p.1 : Int)) (.int p.1) 62 0 := re_int (abs18 (by omega))
    have := re_cons (re_tup (re_cons hi (re_cons hd (re_nil (m := 1)) (Nat.le_refl _)) (by omega))) hds (Nat.le_refl _)
    rw [show 62 + (2051 + 0 + 2) + 2 + 3 + 2122 * its.length + 2 = 2122 * (p :: its).length by rw [List.length_cons]; omega] at this
    exact ⟨_, this⟩
end Lw


namespace Lw
open Mi (Dv MO Sto Sl Rs bnd ME MT MA MS MF Fl MG MGs MI)
open Ms (Fx Rx MSX MEX MFX xLift xSeq xIf xRaise xExpr xRet xMeth xMethK xDef mTry xRaiseV)
open PySem (PyData)
/-- a call less -/
def fdec : Dv → Dv
  | .int m => .int (m - 1)
  | d => d
def FuOk (fu : Dv) : Prop := fu = .non ∨ ∃ m : Nat, fu = .int m
def Go (fu : Dv) : Prop := fu = .non ∨ ∃ m : Nat, fu = .int ((m + 1 : Nat) : Int)
theorem fu_cases {fu : Dv} (h : FuOk fu) : fu = .int 0 ∨ Go fu := by
  rcases h with h | ⟨m, h⟩
  · exact .inr (.inl h)
  · cases m with
    | zero => exact .inl h
    | succ m => exact .inr (.inr ⟨m, h⟩)
theorem fdec_ok {fu : Dv} (h : Go fu) : FuOk (fdec fu) := by
  rcases h with rfl | ⟨m, rfl⟩
  · exact .inl rfl
  · exact .inr ⟨m, by show Dv.int (((m + 1 : Nat) : Int) - 1) = _; congr 1; omega⟩
section
variable {G : Sto} {h hb hq hn : Nat} {fu : Dv} {s k : Int} {bl qu : List Dv} {nw : List (Mi.Key × Dv)}
theorem burn_ex (D : Dsk (.int 0) G h hb hq hn s k bl qu nw) : m_Disk_burn_x [.ref h] G = some (.ex 1 none, G) := by
  have ob := D.ob
  simp only [dfs] at ob
  simp! [m_Disk_burn_x, b_Disk_burn_x, xDef, xIf, xSeq, xLift, xRaise, ob]
theorem burn_ok (D : Dsk fu G h hb hq hn s k bl qu nw) (hf : Go fu) : ∃ G1, m_Disk_burn_x [.ref h] G = some (.ok .non, G1) ∧ Dsk (fdec fu) G1 h hb hq hn s k bl qu nw ∧ Sm [h] G G1 ∧ G1.length = G.length := by
  have ob := D.ob
  simp only [dfs] at ob
  rcases hf with rfl | ⟨m, rfl⟩
  · refine ⟨G, ?_, D, Sm.refl, rfl⟩
    simp! [m_Disk_burn_x, b_Disk_burn_x, xDef, xIf, xSeq, xLift, xRaise, ob]
  · have ne : ¬ (((m + 1 : Nat) : Int) = 0) := by omega
    refine ⟨G.set h (.ins 0 (dfs s k hb hq hn (.int (((m + 1 : Nat) : Int) - 1)))), ?_, ⟨set_at D.ob, ?_, ?_, ?_, D.n1, D.n2, D.n3, D.n4, D.n5, D.n6⟩, sm_set (by simp), by simp⟩
    · generalize ((m + 1 : Nat) : Int) = z at ob ne ⊢
      simp! [m_Disk_burn_x, b_Disk_burn_x, xDef, xIf, xSeq, xLift, xRaise, Mi.mAugF, ob, ne, dfs]
    · rw [List.getElem?_set_ne D.n1]; exact D.bl
    · rw [List.getElem?_set_ne D.n2]; exact D.qu
    · rw [List.getElem?_set_ne D.n3]; exact D.nw
theorem need_x (D : Dsk fu G h hb hq hn s k bl qu nw) (p : Int) (h1 : 0 ≤ p) (h2 : p ≤ bl.length - 1) : m_Disk_need_place_x [.ref h, .int p] G = some (.ok .non, G) := by
  have ob := D.ob
  have bl' := D.bl
  simp only [dfs] at ob
  simp! [m_Disk_need_place_x, b_Disk_need_place_x, xDef, xIf, xLift, xRaiseV, ob, Mi.fLen, Mi.lstOf, bl', is_between_int, h1, h2]
theorem write_ex (D : Dsk (.int 0) G h hb hq hn s k bl qu nw) (p : Int) (ws : List Int) (B : Blk ws) (h1 : 0 ≤ p) (h2 : p ≤ bl.length - 1) : m_Disk_write_x [.ref h, .int p, .tup (ws.map Dv.int)] G = some (.ex 1 none, G) := by
  have e1 := need_x D p h1 h2
  have e2 := is_block_ok ws G B
  have e3 := burn_ex D
  have ob := D.ob
  simp only [dfs] at ob
  simp! [m_Disk_write_x, b_Disk_write_x, xDef, xSeq, xIf, xRaiseV, xLift, xExpr, xMeth, ob, e1, e2, e3]
theorem write_ok (D : Dsk fu G h hb hq hn s k bl qu nw) (hf : Go fu) (p : Int) (ws : List Int) (B : Blk ws) (h1 : 0 ≤ p) (h2 : p ≤ bl.length - 1) (z1 : qu.length < 10000) (z2 : nw.length < 10000) :
    ∃ G', m_Disk_write_x [.ref h, .int p, .tup (ws.map Dv.int)] G = some (.ok .non, G') ∧ Dsk (fdec fu) G' h hb hq hn s k bl (qu ++ [.tup [.int p, .tup (ws.map Dv.int)]]) (Mi.put nw (.inl p) (.tup (ws.map Dv.int))) ∧ Sm [h, hq, hn] G G' ∧ G'.length = G.length := by
  have e1 := need_x D p h1 h2
  have e2 := is_block_ok ws G B
  obtain ⟨G1, e3, D1, S1, L1⟩ := burn_ok D hf
  have ob := D.ob
  simp only [dfs] at ob
  have z1' : qu.length < 16777216 := by omega
  have z2' : nw.length < 16777216 := by omega
  have ob1 := D1.ob
  have ob' : ∀ o, (G1.set hq o)[h]? = some (.ins 0 (dfs s k hb hq hn (fdec fu))) := fun o => by rw [List.getElem?_set_ne D.n2.symm]; exact D1.ob
  have nw' : ∀ o, (G1.set hq o)[hn]? = some (.dct nw) := fun o => by rw [List.getElem?_set_ne D.n6]; exact D1.nw
  refine ⟨(G1.set hq (.lst (qu ++ [.tup [.int p, .tup (ws.map Dv.int)]]))).set hn (.dct (Mi.put nw (.inl p) (.tup (ws.map Dv.int)))), ?_, ⟨?_, ?_, ?_, ?_, D.n1, D.n2, D.n3, D.n4, D.n5, D.n6⟩, ((S1.mono (by simp)).trans (sm_set (by simp))).trans (sm_set (by simp)), by simp [L1]⟩
  · have ob1' := ob1
    have obq := ob'
    simp only [dfs] at ob1' obq
    simp! [-Mi.put, m_Disk_write_x, b_Disk_write_x, xDef, xSeq, xIf, xRaiseV, xLift, xExpr, xMeth, Mi.mAppend, Mi.mSetK, ob, ob1', obq, e1, e2, e3, D1.qu, nw', z1', z2']
  · rw [List.getElem?_set_ne D.n3.symm]; exact ob' _
  · rw [List.getElem?_set_ne D.n5.symm, List.getElem?_set_ne D.n4.symm]; exact D1.bl
  · rw [List.getElem?_set_ne D.n6.symm]; exact set_at D1.qu
  · exact set_at (nw' _)
theorem force_ex (D : Dsk (.int 0) G h hb hq hn s k bl qu nw) : m_Disk_force_x [.ref h] G = some (.ex 1 none, G) := by
  have e3 := burn_ex D
  have ob := D.ob
  simp only [dfs] at ob
  simp! [m_Disk_force_x, b_Disk_force_x, xDef, xSeq, xLift, xExpr, xMeth, ob, e3]
theorem force_ok {its : List (Nat × Dv)} (D0 : Dsk fu G h hb hq hn s k bl (qOf its) nw) (hf : Go fu) (hp : ∀ p ∈ its, p.1 < bl.length) :
    ∃ G', m_Disk_force_x [.ref h] G = some (.ok .non, G') ∧ Dsk (fdec fu) G' h hb G.length (G.length + 1) s k (layAll bl its) [] [] ∧ Sm [h, hb] G G' ∧ G'.length = G.length + 2 := by
  obtain ⟨Gb, e1, D, Sb, Lb⟩ := burn_ok D0 hf
  generalize fdec fu = fv at D ⊢
  obtain ⟨δ', G1, e2, bl', r, ⟨x, y, rfl⟩, er, D1, S1, L1, hp1, ef⟩ := loop_inv (g := Mi.gTup 2 (Mi.gCons (Mi.gNm 1) (Mi.gCons (Mi.gNm 2) Mi.gNil))) (b := qb_Disk_force_x_1) (st := fun G' => Mi.seqOf G' (.ref hq) = some (qOf its))
    (fun rest δ G1 => ∃ (bl' : List Dv) (r : List (Nat × Dv)), (∃ x y, δ = [some (.ref h), x, y]) ∧ rest = qOf r ∧ Dsk fv G1 h hb hq hn s k bl' (qOf its) nw ∧ Sm [h, hb] Gb G1 ∧ G1.length = Gb.length ∧ (∀ p ∈ r, p.1 < bl'.length) ∧ layAll bl' r = layAll bl its)
    (fun d ds δ G1 ⟨bl', r, ⟨x, y, ed⟩, er, D1, S1, L1, hp1, ef⟩ => by
      subst ed
      cases r with
      | nil => cases er
      | cons p r =>
        cases er
        refine ⟨seq_ref D1.qu, _, _, rfl, [some (.ref h), some (.int p.1), some p.2], G1.set hb (.lst (bl'.set p.1 p.2)), ?_, bl'.set p.1 p.2, r, ⟨_, _, rfl⟩, rfl, ?_, S1.trans (sm_set (by simp)), by rw [List.length_set]; exact L1, fun q hq => by rw [List.length_set]; exact hp1 q (List.mem_cons_of_mem _ hq), ef⟩
        · have ei := ixN_nat (hp1 p (List.mem_cons_self ..))
          simp! [qb_Disk_force_x_1, Mi.mSetI, D1.ob, dfs, D1.bl, ei]
        · exact ⟨by rw [List.getElem?_set_ne D1.n1.symm]; exact D1.ob, set_at D1.bl, by rw [List.getElem?_set_ne D1.n4]; exact D1.qu, by rw [List.getElem?_set_ne D1.n5]; exact D1.nw, D1.n1, D1.n2, D1.n3, D1.n4, D1.n5, D1.n6⟩)
    (fun δ G1 ⟨bl', r, _, _, D1, _⟩ => seq_ref D1.qu)
    (qOf its) [some (.ref h), none, none] Gb ⟨bl, its, ⟨_, _, rfl⟩, rfl, D, Sm.refl, rfl, hp, rfl⟩
  have hr : r = [] := by
    cases r with
    | nil => rfl
    | cons p r => cases er
  subst hr
  have e3 : qf_Disk_force_x_1 [some (.ref h), none, none] Gb = some (.nx, [some (.ref h), x, y], G1) := by
    unfold qf_Disk_force_x_1 qi_Disk_force_x_1 Mi.mFor
    have hs : Mi.seqOf Gb (.ref hq) = some (qOf its) := seq_ref D.qu
    simp! [Mi.iSeq, D.ob, dfs, hs, e2]
  have o1 : (G1 ++ [MO.lst []])[h]? = some (.ins 0 (dfs s k hb hq hn fv)) := by rw [List.getElem?_append_left (lt_get D1.ob)]; exact D1.ob
  have o2 := set_at (o' := .ins 0 (dfs s k hb G1.length hn fv)) o1
  have o3 : ((G1 ++ [MO.lst []]).set h (.ins 0 (dfs s k hb G1.length hn fv)) ++ [MO.dct []])[h]? = some (.ins 0 (dfs s k hb G1.length hn fv)) := by rw [List.getElem?_append_left (lt_get o2)]; exact o2
  have hh : h < G1.length := lt_get D1.ob
  have hhb : hb < G1.length := lt_get D1.bl
  refine ⟨((G1 ++ [MO.lst []]).set h (.ins 0 (dfs s k hb G1.length hn fv)) ++ [MO.dct []]).set h (.ins 0 (dfs s k hb G1.length (G1.length + 1) fv)), ?_, ?_, ?_, ?_⟩
  · have o1' := o1
    have o3' := o3
    have ob0 := D0.ob
    simp only [dfs] at o1' o3' ob0
    simp! [m_Disk_force_x, b_Disk_force_x, xDef, xSeq, xLift, xExpr, xMeth, ob0, dfs, e1, e3, Mi.mSetF, o1', o3', List.length_set]
  · rw [← Lb, ← L1]
    refine ⟨set_at o3, ?_, ?_, ?_, D.n1, by omega, by omega, by omega, by omega, by omega⟩
    · rw [List.getElem?_set_ne D.n1, List.getElem?_append_left (by simp; omega), List.getElem?_set_ne D.n1, List.getElem?_append_left hhb, ← ef]
      exact D1.bl
    · rw [List.getElem?_set_ne (by omega), List.getElem?_append_left (by simp), List.getElem?_set_ne (by omega), List.getElem?_append_right (Nat.le_refl _)]
      simp
    · rw [List.getElem?_set_ne (by omega), List.getElem?_append_right (by simp)]
      simp
  · exact ((((Sb.mono (by simp)).trans S1).trans sm_app).trans (sm_set (by simp))).trans sm_app |>.trans (sm_set (by simp))
  · simp [L1, Lb]
end
end Lw

namespace Lw
open Mi (Dv MO Sto Sl Rs bnd ME MT MA MS MF Fl MG MGs MI)
open Ms (Fx Rx MSX MEX MFX xLift xSeq xIf xRaise xExpr xRet xMeth xMethK xDef mTry xRaiseV)
open PySem (PyData)
/-! what the law's teller says of a call -/
theorem exAt_exn {a i : Nat} {δ : Sl} (h : δ[i]? = some (some (.exn a))) (G : Sto) : Ms.exAt (.exn a) i δ G = true := by
  unfold Ms.exAt
  dsimp only
  rw [h]
  simp
theorem exAt_exc {a dd k i : Nat} {δ : Sl} {G : Sto} {fs : List (String × Dv)} (h : δ[i]? = some (some (.exc a dd k))) (e : G[k]? = some (.xd fs)) : Ms.exAt (.exc a dd k) i δ G = true := by
  unfold Ms.exAt
  dsimp only
  rw [h]
  dsimp only
  rw [e]
  simp
theorem tg_cut : Ms.tgOne sub_ bt_ 1 (.own 1) = some true := by decide +kernel
theorem tg_no : Ms.tgAny sub_ bt_ 1 [.own 2, .own 4, .own 5, .own 3, .bi "ValueError", .bi "LookupError"] = some false := by decide +kernel
theorem tg_oth {c : Nat} (hc : c ∈ [2, 3, 4, 5]) : Ms.tgOne sub_ bt_ c (.own 1) = some false := by
  simp only [List.mem_cons, List.not_mem_nil, or_false] at hc
  rcases hc with rfl | rfl | rfl | rfl <;> decide +kernel
theorem sub16 : sub_ 1 6 = some true := by decide +kernel
theorem sub_oth {c : Nat} (hc : c ∈ [2, 3, 4, 5]) : sub_ c 6 = some true := by
  simp only [List.mem_cons, List.not_mem_nil, or_false] at hc
  rcases hc with rfl | rfl | rfl | rfl <;> decide +kernel
theorem passed_none {tl : Ms.Tl} {G G1 : Sto} (h : tl G = some (.ok .non, G1)) : Ms.mTold l_law_passed b_law_passed tl G = some (.str "None", G1) := by
  unfold Ms.mTold
  refine Ms.uni3_of fun f c q => ?_
  simp! [b_law_passed, Ms.mTry, Ms.xAsg, Ms.xRepr, Ms.xAct, h]
noncomputable def suiteP : Nat → Dv → MS := fun ec ev => Mi.mSeq (Mi.mAsg (Mi.mAnd (Ms.mExIs sub_ bt_ [2, 4, 5, 3, 1] ec ev 2 (.own 1)) (Mi.mNot (Ms.mExIsT sub_ bt_ [2, 4, 5, 3, 1] ec ev 2 [.own 2, .own 4, .own 5, .own 3, .bi "ValueError", .bi "LookupError"]))) (Mi.gNm 3)) (
    Mi.mAsg (Mi.mIf (Mi.mTru (Mi.mVar 3)) (Mi.mC (.str "cut")) (Mi.mC (.str "other"))) (Mi.gNm 1))
theorem b_passed_eq : b_law_passed = fun zf zc zq zt => Mi.mSeq (Ms.mTry sub_ (Ms.xAsg 1 (Ms.xRepr (Ms.xAct zf zc zq zt))) [(6, (some 2), suiteP)]) (Mi.mRet (Mi.mVar 1)) := rfl
theorem passed_cut {tl : Ms.Tl} {G G1 : Sto} (h : tl G = some (.ex 1 none, G1)) : Ms.mTold l_law_passed b_law_passed tl G = some (.str "cut", G1) := by
  unfold Ms.mTold
  refine Ms.uni3_of fun f c q => ?_
  have s : Ms.mSuite (some 2) suiteP 1 none [some (.fn f c q), none, none, none] G1 = some (.nx, [some (.fn f c q), some (.str "cut"), none, some (.bl true)], G1) := by
    refine Ms.uni_of fun a dd => ?_
    have x := exAt_exn (a := a) (i := 2) (δ := [some (.fn f c q), none, some (.exn a), none]) rfl G1
    simp! [suiteP, Ms.exV, Ms.mExIs, Ms.mExIsT, x, tg_cut, tg_no, Mi.mTru, Mi.tru]
  rw [b_passed_eq]
  simp! [Ms.mTry, Ms.xAsg, Ms.xRepr, Ms.xAct, h, Ms.mClauses, sub16, s]
theorem passed_other {tl : Ms.Tl} {G G1 : Sto} {cl k : Nat} {fs : List (String × Dv)} (hc : cl ∈ [2, 3, 4, 5]) (h : tl G = some (.ex cl (some k), G1)) (e : G1[k]? = some (.xd fs)) : Ms.mTold l_law_passed b_law_passed tl G = some (.str "other", G1) := by
  unfold Ms.mTold
  refine Ms.uni3_of fun f c q => ?_
  have m : cl ∈ [2, 4, 5, 3, 1] := by
    simp only [List.mem_cons, List.not_mem_nil, or_false] at hc ⊢
    omega
  have t1 := tg_oth hc
  have t2 := sub_oth hc
  have s : Ms.mSuite (some 2) suiteP cl (some k) [some (.fn f c q), none, none, none] G1 = some (.nx, [some (.fn f c q), some (.str "other"), none, some (.bl false)], G1) := by
    refine Ms.uni_of fun a dd => ?_
    have x := exAt_exc (a := a) (dd := dd) (i := 2) (δ := [some (.fn f c q), none, some (.exc a dd k), none]) rfl e
    have y : Ms.mExIs sub_ bt_ [2, 4, 5, 3, 1] cl (.exc a dd k) 2 (.own 1) [some (.fn f c q), none, some (.exc a dd k), none] G1 = some (.bl false, G1) := by
      unfold Ms.mExIs
      rw [if_pos ⟨x, m⟩, t1]
      rfl
    simp! [suiteP, Ms.exV, y, Mi.mTru, Mi.tru]
  rw [b_passed_eq]
  simp! [Ms.mTry, Ms.xAsg, Ms.xRepr, Ms.xAct, h, Ms.mClauses, t2, s]
end Lw

namespace Lw
open Mi (Dv MO Sto Sl Rs bnd ME MT MA MS MF Fl MG MGs MI)
open Ms (Fx Rx MSX MEX MFX xLift xSeq xIf xRaise xExpr xRet xMeth xMethK xDef mTry xRaiseV)
open PySem (PyData)
abbrev szs (s k : Int) : Dv := .tup [.int s, .int k, .int (N' s k), .int (R' s k)]
/-- a disk and the law's own -/
structure Di where
  h : Nat
  hb : Nat
  hq : Nat
  hn : Nat
  hi : Nat
  hs : Nat
  bl : List Dv
  its : List (Nat × Dv)
  fu : Dv
def hnds (d : Di) : List Nat := [d.h, d.hb, d.hq, d.hn, d.hi, d.hs]
structure One (s k : Int) (n : Nat) (d : Di) (G : Sto) : Prop where
  ds : Dsk d.fu G d.h d.hb d.hq d.hn s k d.bl (qOf d.its) (nwOf d.its)
  it : G[d.hi]? = some (.dct (itD s k d.hs (.fls (qOf d.its)) d.fu))
  sd : G[d.hs]? = some (.lst d.bl)
  a2 : ∀ x ∈ [d.h, d.hb, d.hq, d.hn], x ≠ d.hi ∧ x ≠ d.hs
  a3 : d.hi ≠ d.hs
  bb : AllB d.bl
  ib : ∀ p ∈ d.its, p.1 < d.bl.length ∧ BlkD p.2
  sz : d.bl.length = Many s k
  il : d.its.length ≤ n
  fo : FuOk d.fu
/-- what a deed on the disk d leaves: only the deck and this disk are written, its handles but two are as before -/
structure Res (hd hc : Nat) (d d' : Di) (G G' : Sto) : Prop where
  dk : Dk hd hc G'
  sm : Sm (hd :: hc :: hnds d) G G'
  h : d'.h = d.h
  hi : d'.hi = d.hi
  hb : d'.hb = d.hb
  hs : d'.hs = d.hs
  hq : d'.hq = d.hq ∨ G.length ≤ d'.hq
  hn : d'.hn = d.hn ∨ G.length ≤ d'.hn
theorem Res.pre {hd hc : Nat} {d d' : Di} {G G0 G' : Sto} (R : Res hd hc d d' G G') (r : Dr hd hc G0 G) : Res hd hc d d' G0 G' :=
  ⟨R.dk, (r.s.mono (by intro x hx; simp at hx ⊢; omega)).trans R.sm, R.h, R.hi, R.hb, R.hs, R.hq.imp id fun q => Nat.le_trans r.s.le q, R.hn.imp id fun q => Nat.le_trans r.s.le q⟩
section
variable {G G' : Sto} {hd hc n : Nat} {s k : Int} {d : Di}
def Ap (hd hc : Nat) (d : Di) : Prop := ∀ x ∈ hnds d, x ≠ hd ∧ x ≠ hc
theorem One.sm {hs : List Nat} (O : One s k n d G) (S : Sm hs G G') (m : ∀ x ∈ hnds d, x ∉ hs) : One s k n d G' :=
  ⟨O.ds.sm S (m _ (by simp [hnds])) (m _ (by simp [hnds])) (m _ (by simp [hnds])) (m _ (by simp [hnds])), S.get (m _ (by simp [hnds])) O.it, S.get (m _ (by simp [hnds])) O.sd, O.a2, O.a3, O.bb, O.ib, O.sz, O.il, O.fo⟩
theorem One.dr (O : One s k n d G) (A : Ap hd hc d) (r : Dr hd hc G G') : One s k n d G' := O.sm r.s fun x hx => by
  have := A x hx
  simp only [List.mem_cons, List.not_mem_nil, or_false]
  omega
theorem One.mono (O : One s k n d G) {m : Nat} (h : n ≤ m) : One s k m d G := ⟨O.ds, O.it, O.sd, O.a2, O.a3, O.bb, O.ib, O.sz, Nat.le_trans O.il h, O.fo⟩
theorem One.lt (O : One s k n d G) : ∀ x ∈ hnds d, x < G.length := by
  intro x hx
  simp only [hnds, List.mem_cons, List.not_mem_nil, or_false] at hx
  rcases hx with rfl | rfl | rfl | rfl | rfl | rfl
  · exact lt_get O.ds.ob
  · exact lt_get O.ds.bl
  · exact lt_get O.ds.qu
  · exact lt_get O.ds.nw
  · exact lt_get O.it
  · exact lt_get O.sd
theorem sub_fuse {G : Sto} {hi hs : Nat} {wt fu : Dv} (e : G[hi]? = some (.dct (itD s k hs wt fu))) : Mi.bSubs (.ref hi) (.str "fuse") G = some (fu, G) := by
  simp! [Mi.bSubs, Mi.bGet, e, itD]
theorem Many_b (hS : 6 ≤ s ∧ s ≤ 40) (hK : 4 ≤ k ∧ k ≤ 24) : 0 < Many s k ∧ Many s k ≤ 1020 := by
  have hp := prodB hS hK
  have hr := R'_b hS hK
  have hM : (Many s k : Int) = 2 * R' s k + s * k := by unfold Many; rw [Int.toNat_of_nonneg (by omega)]
  omega
end
theorem layAll_len : ∀ (its : List (Nat × Dv)) (bl : List Dv), (layAll bl its).length = bl.length
  | [], _ => rfl
  | p :: its, bl => by
    show (layAll (bl.set p.1 p.2) its).length = _
    rw [layAll_len its, List.length_set]
theorem layAll_blk : ∀ (its : List (Nat × Dv)) (bl : List Dv), AllB bl → (∀ p ∈ its, BlkD p.2) → AllB (layAll bl its)
  | [], _, h, _ => h
  | p :: its, bl, h, hp => layAll_blk its (bl.set p.1 p.2) (h.set p.1 (hp p (List.mem_cons_self ..))) fun q hq => hp q (List.mem_cons_of_mem _ hq)
theorem cutAll_len : ∀ (its : List (Nat × Dv)) (ks : List Nat) (bl : List Dv), (cutAll bl its ks).length = bl.length
  | [], ks, _ => by cases ks <;> rfl
  | p :: its, [], bl => rfl
  | p :: its, m :: ks, bl => by
    show (cutAll (bl.set p.1 _) its ks).length = _
    rw [cutAll_len its, List.length_set]
theorem cutAll_blk : ∀ (its : List (Nat × Dv)) (ks : List Nat) (bl : List Dv), AllB bl → (∀ p ∈ its, p.1 < bl.length ∧ BlkD p.2) → (∀ m ∈ ks, m ≤ 32) → AllB (cutAll bl its ks)
  | [], ks, bl, h, _, _ => by cases ks <;> exact h
  | p :: its, [], bl, h, _, _ => h
  | p :: its, m :: ks, bl, h, hp, hk => by
    obtain ⟨a, b⟩ := hp p (List.mem_cons_self ..)
    exact cutAll_blk its ks _ (h.set p.1 (mix_blk b (h.get a) (hk m (List.mem_cons_self ..)))) (fun q hq => by rw [List.length_set]; exact hp q (List.mem_cons_of_mem _ hq)) fun j hj => hk j (List.mem_cons_of_mem _ hj)
theorem fu_eq {fu : Dv} (h : Go fu) (G : Sto) : Mi.bEq false fu (.int 0) G = some (.bl false, G) := by
  rcases h with rfl | ⟨m, rfl⟩
  · rfl
  · have ne : ¬ (((m + 1 : Nat) : Int) = 0) := by omega
    generalize ((m + 1 : Nat) : Int) = z at ne ⊢
    simp! [ne]
theorem fu_dec {fu : Dv} (h : Go fu) {G : Sto} {e : ME} {δ : Sl} (he : e δ G = some (fu, G)) : Mi.mIf (Mi.mTb (Mi.mIsN false e)) e (Mi.m2 Mi.bSub e (Mi.mC (.int 1))) δ G = some (fdec fu, G) := by
  rcases h with rfl | ⟨m, rfl⟩
  · simp! [he, fdec]
  · simp! [he, fdec]
structure St (hd hc : Nat) (s k : Int) (n : Nat) (d : Di) (G : Sto) : Prop where
  o : One s k n d G
  a : Ap hd hc d
  d : Dk hd hc G
section
variable {G G' : Sto} {hd hc n : Nat} {s k : Int} {d d' : Di}
theorem St.dr (S : St hd hc s k n d G) (r : Dr hd hc G G') : St hd hc s k n d G' := ⟨S.o.dr S.a r, S.a, r.d⟩
theorem St.mono (S : St hd hc s k n d G) {m : Nat} (h : n ≤ m) : St hd hc s k m d G := ⟨S.o.mono h, S.a, S.d⟩
theorem St.lt (S : St hd hc s k n d G) : ∀ x ∈ hd :: hc :: hnds d, x < G.length := fun x hx => by
  rcases (List.mem_cons.mp hx : _ ∨ _) with rfl | hx
  · exact S.d.lt.1
  rcases (List.mem_cons.mp hx : _ ∨ _) with rfl | hx
  · exact S.d.lt.2
  exact S.o.lt x hx
/-- what is written elsewhere alone -/
theorem St.sm {hs : List Nat} (S : St hd hc s k n d G) (m : Sm hs G G') (h : ∀ x ∈ hs, G.length ≤ x) : St hd hc s k n d G' := by
  have lt := S.lt
  have q : ∀ x ∈ hd :: hc :: hnds d, x ∉ hs := fun x hx z => by
    have := lt x hx
    have := h x z
    omega
  exact ⟨S.o.sm m fun x hx => q x (List.mem_cons_of_mem _ (List.mem_cons_of_mem _ hx)), S.a, S.d.sm m (q _ (List.mem_cons_self ..)) (q _ (List.mem_cons_of_mem _ (List.mem_cons_self ..)))⟩
theorem St.res {m : Nat} (S : St hd hc s k n d G) (O : One s k m d' G') (R : Res hd hc d d' G G') : St hd hc s k m d' G' := by
  have lt := S.d.lt
  refine ⟨O, fun x hx => ?_, R.dk⟩
  have q : ∀ y, y ∈ hnds d → y ≠ hd ∧ y ≠ hc := S.a
  simp only [hnds, List.mem_cons, List.not_mem_nil, or_false] at hx
  rcases hx with rfl | rfl | rfl | rfl | rfl | rfl
  · rw [R.h]; exact q _ (by simp [hnds])
  · rw [R.hb]; exact q _ (by simp [hnds])
  · rcases R.hq with e | e
    · rw [e]; exact q _ (by simp [hnds])
    · clear q O R; omega
  · rcases R.hn with e | e
    · rw [e]; exact q _ (by simp [hnds])
    · clear q O R; omega
  · rw [R.hi]; exact q _ (by simp [hnds])
  · rw [R.hs]; exact q _ (by simp [hnds])
/-- a fuse is set on both -/
theorem fuse_both (S : St hd hc s k n d G) (m : Nat) : ∃ G1, m_Disk_fuse [.ref d.h, .int (m : Int)] G = some (.non, G1) ∧ G1[d.hi]? = some (.dct (itD s k d.hs (.fls (qOf d.its)) d.fu)) ∧
    St hd hc s k n { d with fu := .int (m : Int) } (G1.set d.hi (.dct (itD s k d.hs (.fls (qOf d.its)) (.int (m : Int))))) := by
  have O := S.o
  have A := S.a
  have D := O.ds
  have a2 := O.a2
  have ii := is_integer_int (m : Int)
  have nn : ¬ ((m : Int) < 0) := by omega
  have ob := D.ob
  simp only [dfs] at ob
  have o2 : (G.set d.h (.ins 0 (dfs s k d.hb d.hq d.hn (.int (m : Int)))))[d.hi]? = some (.dct (itD s k d.hs (.fls (qOf d.its)) d.fu)) := by rw [List.getElem?_set_ne (a2 d.h (by simp)).1]; exact O.it
  refine ⟨G.set d.h (.ins 0 (dfs s k d.hb d.hq d.hn (.int (m : Int)))), ?_, o2, ?_⟩
  · simp! [m_Disk_fuse, b_Disk_fuse, ii, nn, Mi.mSetF, ob, dfs]
  · have hh : ∀ x ∈ [d.hb, d.hq, d.hn, d.hs], x ∉ [d.h, d.hi] := fun x hx => by
      have n1 := D.n1
      have n2 := D.n2
      have n3 := D.n3
      have q1 := a2 d.h (by simp)
      have q2 := a2 d.hb (by simp)
      have q3 := a2 d.hq (by simp)
      have q4 := a2 d.hn (by simp)
      have a3 := O.a3
      simp only [List.mem_cons, List.not_mem_nil, or_false] at hx ⊢
      omega
    have M : Sm [d.h, d.hi] G ((G.set d.h (.ins 0 (dfs s k d.hb d.hq d.hn (.int (m : Int))))).set d.hi (.dct (itD s k d.hs (.fls (qOf d.its)) (.int (m : Int))))) := (sm_set (by simp)).trans (sm_set (by simp))
    have M2 : Sm (hnds d) G ((G.set d.h (.ins 0 (dfs s k d.hb d.hq d.hn (.int (m : Int))))).set d.hi (.dct (itD s k d.hs (.fls (qOf d.its)) (.int (m : Int))))) := M.mono (by intro x hx; simp [hnds] at hx ⊢; omega)
    have t1 : (G.set d.h (.ins 0 (dfs s k d.hb d.hq d.hn (.int (m : Int)))))[d.h]? = some (.ins 0 (dfs s k d.hb d.hq d.hn (.int (m : Int)))) := set_at D.ob
    exact ⟨⟨⟨by rw [List.getElem?_set_ne (a2 d.h (by simp)).1.symm]; exact t1, M.get (hh _ (by simp)) D.bl, M.get (hh _ (by simp)) D.qu, M.get (hh _ (by simp)) D.nw, D.n1, D.n2, D.n3, D.n4, D.n5, D.n6⟩, set_at o2, M.get (hh _ (by simp)) O.sd, a2, O.a3, O.bb, O.ib, O.sz, O.il, .inr ⟨m, rfl⟩⟩, A, S.d.sm M2 (fun z => (A _ z).1 rfl) (fun z => (A _ z).2 rfl)⟩
/-- what both tell -/
theorem rq_all (hS : 6 ≤ s ∧ s ≤ 40) (hK : 4 ≤ k ∧ k ≤ 24) (hn : n ≤ 500) (O : One s k n d G) (G1 G2 : Sto) : (∃ e, Mi.pyT G1 (.tup [.tup (qOf d.its), .tup d.bl]) = some e ∧ Mi.pyT G2 (.tup [.tup (qOf d.its), .tup d.bl]) = some e ∧ Mi.okR e) ∧
    ∃ e, Mi.pyT G1 (.tup [szs s k, .tup (qOf d.its), .tup d.bl]) = some e ∧ Mi.pyT G2 (.tup [szs s k, .tup (qOf d.its), .tup d.bl]) = some e ∧ Mi.okR e := by
  have mb := Many_b hS hK
  have z := O.sz
  have l := O.il
  have hp := prodB hS hK
  have hr := R'_b hS hK
  obtain ⟨d1, h1⟩ := re_q (its := d.its) fun p hp => ⟨by have := (O.ib p hp).1; omega, (O.ib p hp).2⟩
  obtain ⟨d2, h2⟩ := re_bl O.bb
  have c := re_cons (m := 3) (re_tup h1) (re_cons (re_tup h2) (re_nil (m := 3)) (by omega)) (by omega)
  have sz : Re (szs s k) (.tuple [.int s, .int k, .int (N' s k), .int (R' s k)]) (62 + (62 + (62 + (62 + 0 + 2) + 2) + 2) + 2 + 3) (0 + 1) :=
    re_tup (re_cons (re_int (abs18 (by omega))) (re_cons (re_int (abs18 (by omega))) (re_cons (re_int (abs18 (by omega))) (re_cons (re_int (abs18 (by omega))) re_nil (Nat.le_refl _)) (Nat.le_refl _)) (Nat.le_refl _)) (Nat.le_refl _))
  exact ⟨(re_tup c).rq (by omega) (by omega) G1 G2, (re_tup (re_cons sz c (by omega))).rq (by omega) (by omega) G1 G2⟩
end
end Lw

namespace Lw
open Mi (Dv MO Sto Sl Rs bnd ME MT MA MS MF Fl MG MGs MI)
open Ms (Fx Rx MSX MEX MFX xLift xSeq xIf xRaise xExpr xRet xMeth xMethK xDef mTry xRaiseV)
open PySem (PyData)
/-! calls with wrong arguments -/
section
variable {G G' : Sto} {hd hc n h hb hq hn : Nat} {s k : Int} {d : Di} {fu : Dv} {bl qu : List Dv} {nw : List (Mi.Key × Dv)}
def thg (x : Dv) : MO := .xd [("thing", x)]
theorem ext_at (G : Sto) (o : MO) : (G ++ [o])[G.length]? = some o := get0 G [] o
theorem bad_int (a b i : Int) (hi : ¬ (a ≤ i ∧ i ≤ b)) (G : Sto) : m_is_between [.int i, .int a, .int b] G = some (.bl false, G) := by
  rw [is_between_int, decide_eq_false hi]
theorem bad_non (a b : Dv) (G : Sto) : m_is_between [.non, a, b] G = some (.bl false, G) := by
  simp! [m_is_between, b_is_between, m_is_integer, b_is_integer]
theorem place_bad (D : Dsk fu G h hb hq hn s k bl qu nw) {x : Dv} (e : ∀ G, m_is_between [x, .int 0, .int ((bl.length : Int) - 1)] G = some (.bl false, G)) (y : Dv) : m_Disk_write_x [.ref h, x, y] G = some (.ex 3 (some G.length), G ++ [thg x]) := by
  have ob := D.ob
  have bl' := D.bl
  simp only [dfs] at ob
  simp! [m_Disk_write_x, b_Disk_write_x, xDef, xSeq, xExpr, xMeth, ob, m_Disk_need_place_x, b_Disk_need_place_x, xIf, xLift, xRaiseV, Mi.fLen, Mi.lstOf, bl', e, thg]
theorem block_short (D : Dsk fu G h hb hq hn s k bl qu nw) (p : Int) (h1 : 0 ≤ p) (h2 : p ≤ bl.length - 1) {xs : List Dv} (hl : xs.length ≠ 32) : m_Disk_write_x [.ref h, .int p, .tup xs] G = some (.ex 2 (some G.length), G ++ [thg (.tup xs)]) := by
  have e1 := need_x D p h1 h2
  have ob := D.ob
  simp only [dfs] at ob
  have ne : ¬ (xs.length : Int) = 32 := by omega
  have e2 : m_is_block [.tup xs] G = some (.bl false, G) := by
    simp! [m_is_block, b_is_block, m_are_words, b_are_words, Mi.fLen, ne]
  simp! [m_Disk_write_x, b_Disk_write_x, xDef, xSeq, xIf, xRaiseV, xLift, xExpr, xMeth, ob, e1, e2, thg]
theorem fuse_bad (D : Dsk fu G h hb hq hn s k bl qu nw) {x : Dv} (hx : x ∈ [Dv.int (-1), .non, .bl true, .str "1", .tup [.int 1]]) : m_Disk_fuse_x [.ref h, x] G = some (.ex 5 (some G.length), G ++ [thg x]) := by
  have ob := D.ob
  simp only [dfs] at ob
  have i1 := is_integer_int (-1) G
  simp only [List.mem_cons, or_false, List.not_mem_nil] at hx
  rcases hx with rfl | rfl | rfl | rfl | rfl
  · simp! [m_Disk_fuse_x, b_Disk_fuse_x, xDef, xSeq, xIf, xLift, xRaiseV, i1, ob, thg]
  all_goals
    simp! [m_Disk_fuse_x, b_Disk_fuse_x, xDef, xSeq, xIf, xLift, xRaiseV, m_is_integer, b_is_integer, ob, thg]
    try rfl
theorem cut_bad (D : Dsk fu G h hb hq hn s k bl qu nw) {x : Dv} (hx : m_is_keep [x] G = some (.bl false, G)) : m_Disk_cut_x [.ref h, x] G = some (.ex 4 (some G.length), G ++ [thg x]) := by
  simp! [m_Disk_cut_x, b_Disk_cut_x, xDef, xSeq, xIf, xLift, xRaiseV, hx, thg]
theorem keep_bad {x : Dv} (hx : x ∈ [Dv.tup [.int 33], .fls [.int 32], .tup [.int 32, .bl true], .tup [.int 32, .int 32, .int (-1)], .non]) (G : Sto) : m_is_keep [x] G = some (.bl false, G) := by
  have b1 := bad_int 0 32 33 (by omega) G
  have b2 := bad_int 0 32 (-1) (by omega) G
  have b3 : m_is_between [.int 32, .int 0, .int 32] G = some (.bl true, G) := by rw [is_between_int]; rfl
  have b4 : m_is_between [.bl true, .int 0, .int 32] G = some (.bl false, G) := by simp! [m_is_between, b_is_between, m_is_integer, b_is_integer]
  simp only [List.mem_cons, or_false, List.not_mem_nil] at hx
  rcases hx with rfl | rfl | rfl | rfl | rfl
  · simp! [m_is_keep, b_is_keep, ql_is_keep_1, qi_is_keep_1, qe_is_keep_1, Mi.mLc, Mi.iSeq, Mi.seqOf, Mi.mLcLoop, b1, Mi.fAll, Mi.lstOf, Mi.bools]
    try rfl
  · rfl
  · simp! [m_is_keep, b_is_keep, ql_is_keep_1, qi_is_keep_1, qe_is_keep_1, Mi.mLc, Mi.iSeq, Mi.seqOf, Mi.mLcLoop, b3, b4, Mi.fAll, Mi.lstOf, Mi.bools]
    try rfl
  · simp! [m_is_keep, b_is_keep, ql_is_keep_1, qi_is_keep_1, qe_is_keep_1, Mi.mLc, Mi.iSeq, Mi.seqOf, Mi.mLcLoop, b3, b2, Mi.fAll, Mi.lstOf, Mi.bools]
    try rfl
  · rfl
end
end Lw

namespace Lw
open Mi (Dv MO Sto Sl Rs bnd ME MT MA MS MF Fl MG MGs MI)
open Ms (Fx Rx MSX MEX MFX xLift xSeq xIf xRaise xExpr xRet xMeth xMethK xDef mTry xRaiseV)
open PySem (PyData)
theorem mul3 (x : Dv) (G : Sto) : Mi.bMul false (.fls [x]) (.int 3) G = some (.fls [x, x, x], G) := by
  unfold Mi.bMul
  dsimp only
  rw [if_pos (by refine ⟨by decide, by decide, ?_⟩; show 1 * 3 ≤ 16777216; decide)]
  rfl
theorem eq3 {G : Sto} {t : Nat} (e : G[t]? = some (.lst [.str "other", .str "other", .str "other"])) : Ms.bEqD false (.ref t) (.fls [.str "other", .str "other", .str "other"]) G = some (.bl true, G) := by
  have p1 : Mi.pyT G (.ref t) = Mi.pyT G (.fls [.str "other", .str "other", .str "other"]) := by
    unfold Mi.pyT
    dsimp only
    rw [e]
    rfl
  have p2 : Mi.pyT G (.fls [.str "other", .str "other", .str "other"]) = some (.list [.str (PySem.Str.ofString "other"), .str (PySem.Str.ofString "other"), .str (PySem.Str.ofString "other")]) := rfl
  unfold Ms.bEqD
  rw [p1, p2]
  dsimp only
  rw [if_pos ⟨by decide +kernel, by decide +kernel⟩]
  rfl
theorem lam_other {qz : MEX} {δ : Sl} {G : Sto} {cl : Nat} {x : Dv} (hc : cl ∈ [2, 3, 4, 5]) (h : qz δ G = some (.ex cl (some G.length), G ++ [thg x])) : ∃ G1, Ms.mLam l_law_passed b_law_passed qz δ G = some (.str "other", G1) ∧ Sm [] G G1 := ⟨_, passed_other (tl := fun G1 => qz δ G1) hc h (ext_at G _), sm_app⟩
section
variable {G G' : Sto} {hd hc n : Nat} {s k : Int} {d : Di}
def wrongs (ws : List Int) (p M : Int) : List Dv := [.tup [.int (-1), T ws], .tup [.int M, T ws], .tup [.int p, .tup (Mi.cut (ws.map Dv.int) (some 1) none)], .tup [.non, .non]]
theorem wrong_write {ws : List Int} (B : Blk ws) {p : Nat} (hp : p < d.bl.length) (hm : d.bl.length = Many s k) {w : Dv} (m : w ∈ wrongs ws (p : Int) (Many s k : Int)) : ∃ a b, w = .tup [a, b] ∧ ∀ G, St hd hc s k n d G → ∃ c x, c ∈ [2, 3, 4, 5] ∧ m_Disk_write_x [.ref d.h, a, b] G = some (.ex c (some G.length), G ++ [thg x]) := by
  unfold wrongs at m
  simp only [List.mem_cons, List.not_mem_nil, or_false] at m
  rcases m with rfl | rfl | rfl | rfl
  · exact ⟨_, _, rfl, fun G S => ⟨3, _, by simp, place_bad S.o.ds (fun G => bad_int _ _ _ (by omega) G) _⟩⟩
  · exact ⟨_, _, rfl, fun G S => ⟨3, _, by simp, place_bad S.o.ds (fun G => bad_int _ _ _ (by omega) G) _⟩⟩
  · exact ⟨_, _, rfl, fun G S => ⟨2, _, by simp, block_short S.o.ds _ (by omega) (by omega) (by
      have := cut_hi (ws.map Dv.int) 1 (by rw [List.length_map, B.1]; omega)
      rw [show (1 : Int) = ((1 : Nat) : Int) from rfl, this, List.length_drop, List.length_map, B.1]
      decide)⟩⟩
  · exact ⟨_, _, rfl, fun G S => ⟨3, _, by simp, place_bad S.o.ds (fun G => bad_non _ _ G) _⟩⟩
theorem wrong_ok (hS : 6 ≤ s ∧ s ≤ 40) (hK : 4 ≤ k ∧ k ≤ 24) (hn : n ≤ 500) (S : St hd hc s k n d G) {p : Nat} (hp : p < d.bl.length) {ws : List Int} (B : Blk ws) :
    ∃ G', m_law_are_wrong_refused [.ref hd, .ref d.h, .ref d.hi, .int (p : Int), .tup (ws.map Dv.int)] G = some (.bl true, G') ∧ St hd hc s k n d G' := by
  have sz := sub_sizes S.o.it
  have lm := law_many_ok s k G hS hK
  obtain ⟨w, G1, e1, m1, D1⟩ := pick S.d (wrongs ws (p : Int) (Many s k : Int)) (by unfold wrongs; simp) (by unfold wrongs; simp)
  have S1 := S.dr D1
  obtain ⟨a, b, rfl, hw⟩ := wrong_write (hd := hd) (hc := hc) (n := n) B hp S.o.sz m1
  obtain ⟨x, G2, e2, m2, D2⟩ := pick S1.d [.tup [.int 33], .fls [.int 32], .tup [.int 32, .bl true], .tup [.int 32, .int 32, .int (-1)], .non] (by simp) (by simp)
  have S2 := S1.dr D2
  obtain ⟨y, G3, e3, m3, D3⟩ := pick S2.d [.int (-1), .non, .bl true, .str "1", .tup [.int 1]] (by simp) (by simp)
  have S3 := S2.dr D3
  obtain ⟨c, v, hcl, hv⟩ := hw G3 S3
  have ob3 := S3.o.ds.ob
  simp only [dfs] at ob3
  have b0 : ∀ (x y : Dv) (G : Sto), Mi.bSubs (.tup [x, y]) (.int 0) G = some (x, G) := fun _ _ _ => rfl
  have b1 : ∀ (x y : Dv) (G : Sto), Mi.bSubs (.tup [x, y]) (.int 1) G = some (y, G) := fun _ _ _ => rfl
  obtain ⟨Ga, l1, M1⟩ := lam_other (G := G3) (x := v) (qz := qz_law_are_wrong_refused_1) (δ := [some (.ref hd), some (.ref d.h), some (.ref d.hi), some (.int (p : Int)), some (.tup (ws.map Dv.int)), some (.tup [a, b]), some x, some y, none]) hcl (by simp! [qz_law_are_wrong_refused_1, xMeth, ob3, b0, b1, hv])
  have Sa := S3.sm M1 (by simp)
  have Sb : St hd hc s k n d (Ga ++ [.lst [.str "other"]]) := Sa.sm (hs := []) sm_app (by simp)
  have tb := ext_at Ga (.lst [.str "other"])
  have obb := Sb.o.ds.ob
  simp only [dfs] at obb
  have kb := cut_bad Sb.o.ds (keep_bad m2 _)
  obtain ⟨Gc, l2, M2⟩ := lam_other (G := Ga ++ [.lst [.str "other"]]) (qz := qz_law_are_wrong_refused_2) (δ := [some (.ref hd), some (.ref d.h), some (.ref d.hi), some (.int (p : Int)), some (.tup (ws.map Dv.int)), some (.tup [a, b]), some x, some y, some (.ref Ga.length)]) (cl := 4) (x := x) (by simp) (by simp! [-List.append_assoc, qz_law_are_wrong_refused_2, xMeth, obb, kb])
  have Sc := Sb.sm M2 (by simp)
  have tc := M2.get (by simp) tb
  have La : G3.length ≤ Ga.length := M1.le
  have Sd : St hd hc s k n d (Gc.set Ga.length (.lst [.str "other", .str "other"])) := by
    have M : Sm [Ga.length] Ga (Gc.set Ga.length (.lst [.str "other", .str "other"])) := ((sm_app.trans M2).mono (by simp)).trans (sm_set (by simp))
    exact Sa.sm M (by simp)
  have td : (Gc.set Ga.length (.lst [.str "other", .str "other"]))[Ga.length]? = some (.lst [.str "other", .str "other"]) := set_at tc
  have obd := Sd.o.ds.ob
  simp only [dfs] at obd
  have fb := fuse_bad Sd.o.ds m3
  obtain ⟨Ge, l3, M3⟩ := lam_other (G := Gc.set Ga.length (.lst [.str "other", .str "other"])) (qz := qz_law_are_wrong_refused_3) (δ := [some (.ref hd), some (.ref d.h), some (.ref d.hi), some (.int (p : Int)), some (.tup (ws.map Dv.int)), some (.tup [a, b]), some x, some y, some (.ref Ga.length)]) (cl := 5) (x := y) (by simp) (by simp! [-List.append_assoc, qz_law_are_wrong_refused_3, xMeth, obd, fb])
  have te := M3.get (by simp) td
  have Sf : St hd hc s k n d (Ge.set Ga.length (.lst [.str "other", .str "other", .str "other"])) := by
    have M : Sm [Ga.length] Ga (Ge.set Ga.length (.lst [.str "other", .str "other", .str "other"])) := (((((sm_app.trans M2).mono (by simp)).trans (sm_set (by simp))).trans (M3.mono (by simp)))).trans (sm_set (by simp))
    exact Sa.sm M (by simp)
  have tf : (Ge.set Ga.length (.lst [.str "other", .str "other", .str "other"]))[Ga.length]? = some (.lst [.str "other", .str "other", .str "other"]) := set_at te
  refine ⟨_, ?_, Sf⟩
  have q := eq3 tf
  have rq := (rq_all hS hK hn Sf.o (Ge.set Ga.length (.lst [.str "other", .str "other", .str "other"])) (Ge.set Ga.length (.lst [.str "other", .str "other", .str "other"]))).1
  have sw := sub_wait Sf.o.it
  have ss := sub_stand Sf.o.it
  have obf := Sf.o.ds.ob
  simp only [dfs] at obf
  have wt : m_Disk_waiting [.ref d.h] (Ge.set Ga.length (.lst [.str "other", .str "other", .str "other"])) = some (.tup (qOf d.its), Ge.set Ga.length (.lst [.str "other", .str "other", .str "other"])) := by
    simp! [m_Disk_waiting, b_Disk_waiting, obf, Mi.fTuple, Mi.lstOf, Sf.o.ds.qu]
  have sd : m_Disk_standing [.ref d.h] (Ge.set Ga.length (.lst [.str "other", .str "other", .str "other"])) = some (.tup d.bl, Ge.set Ga.length (.lst [.str "other", .str "other", .str "other"])) := by
    simp! [m_Disk_standing, b_Disk_standing, obf, Mi.fTuple, Mi.lstOf, Sf.o.ds.bl]
  unfold wrongs at e1
  have sl : Mi.mSlice false (Mi.mVar 4) (some (Mi.mC (.int 1))) none [some (.ref hd), some (.ref d.h), some (.ref d.hi), some (.int (p : Int)), some (.tup (ws.map Dv.int)), none, none, none, none] G = some (.tup (Mi.cut (ws.map Dv.int) (some 1) none), G) := by simp! [Mi.mSlice, Mi.mO]
  simp! [m_law_are_wrong_refused, b_law_are_wrong_refused, sz, lm, sl, e1, e2, e3, l1, Mi.mAppend, tb, l2, tc, td, l3, te, mul3, q, Mi.mReprEq, obf, wt, sd, sw, ss, Mi.fTuple, Mi.lstOf, Sf.o.sd, rq]
end
end Lw

namespace Lw
open Mi (Dv MO Sto Sl Rs bnd ME MT MA MS MF Fl MG MGs MI)
open Ms (Fx Rx MSX MEX MFX xLift xSeq xIf xRaise xExpr xRet xMeth xMethK xDef mTry xRaiseV xIfE)
open PySem (PyData)
noncomputable def restC : MS :=
    Mi.mSeq (Mi.mAsg (Ms.mLam l_law_passed b_law_passed qz_law_is_call_right_1) (Mi.gNm 6)) (
    Mi.mSeq (Mi.mIfS (Mi.mTb (Mi.m2 (Mi.bEq false) (Mi.m2 Mi.bSubs (Mi.mVar 2) (Mi.mC (.str "fuse"))) (Mi.mC (.int 0)))) (Mi.mRet (Mi.mAnd (Mi.m2 (Mi.bEq false) (Mi.mVar 6) (Mi.mC (.str "cut"))) (Mi.mReprEq false (Mi.mMeth 0 "read" m_Disk_read (Mi.mVar 1) (Mi.mCons (Mi.mVar 3) Mi.mNil)) (Mi.mCall m_law_read (Mi.mCons (Mi.mVar 2) (Mi.mCons (Mi.mVar 3) Mi.mNil)))))) Mi.mSkip) (
    Mi.mSeq (Mi.mSetK (Mi.mVar 2) (Mi.mC (.str "fuse")) (Mi.mIf (Mi.mTb (Mi.mIsN false (Mi.m2 Mi.bSubs (Mi.mVar 2) (Mi.mC (.str "fuse"))))) (Mi.m2 Mi.bSubs (Mi.mVar 2) (Mi.mC (.str "fuse"))) (Mi.m2 Mi.bSub (Mi.m2 Mi.bSubs (Mi.mVar 2) (Mi.mC (.str "fuse"))) (Mi.mC (.int 1))))) (
    Mi.mSeq (Mi.mIfS (Mi.mTb (Mi.m2 (Mi.bEq false) (Mi.mVar 5) (Mi.mC (.int 0)))) (Mi.mExpr (Mi.mCall m_law_forced (Mi.mCons (Mi.mVar 2) Mi.mNil))) (Mi.mSetK (Mi.mVar 2) (Mi.mC (.str "wait")) (Mi.m2 (Mi.bAdd false) (Mi.m2 Mi.bSubs (Mi.mVar 2) (Mi.mC (.str "wait"))) (Mi.mLst false (Mi.mCons (Mi.mTup (Mi.mCons (Mi.mVar 3) (Mi.mCons (Mi.mVar 4) Mi.mNil))) Mi.mNil))))) (
    Mi.mRet (Mi.m2 (Mi.bEq false) (Mi.mVar 6) (Mi.mC (.str "None")))))))
theorem call_eq : ∃ a b, b_law_is_call_right = Mi.mSeq a (Mi.mSeq b restC) := ⟨_, _, rfl⟩
theorem lam_none {qz : MEX} {δ : Sl} {G G1 : Sto} (h : qz δ G = some (.ok .non, G1)) : Ms.mLam l_law_passed b_law_passed qz δ G = some (.str "None", G1) := passed_none (tl := fun G1 => qz δ G1) h
theorem lam_cut {qz : MEX} {δ : Sl} {G G1 : Sto} (h : qz δ G = some (.ex 1 none, G1)) : Ms.mLam l_law_passed b_law_passed qz δ G = some (.str "cut", G1) := passed_cut (tl := fun G1 => qz δ G1) h
section
variable {G G' : Sto} {hd hc n : Nat} {s k : Int} {d : Di}
theorem rd_blk {its : List (Nat × Dv)} {bl : List Dv} (hI : ∀ p ∈ its, p.1 < bl.length ∧ BlkD p.2) {p : Nat} {x : Dv} (e : rd its p = some x) : BlkD x := by
  unfold rd at e
  cases ef : its.reverse.find? (fun q => decide (q.1 = p)) with
  | none => rw [ef] at e; cases e
  | some q =>
    rw [ef] at e
    cases e
    exact (hI q (List.mem_reverse.mp (List.mem_of_find?_eq_some ef))).2
/-- both read the same -/
theorem reads (O : One s k n d G) {p : Nat} (hp : p < d.bl.length) : ∃ x, BlkD x ∧ m_Disk_read [.ref d.h, .int (p : Int)] G = some (x, G) ∧ m_law_read [.ref d.hi, .int (p : Int)] G = some (x, G) := by
  have e1 := read_ok O.ds (p : Int) (d.bl.getD p .non) (by omega) (by omega) (atI_nat hp)
  rw [look_nw] at e1
  refine ⟨_, ?_, e1, law_read_ok O.it O.sd p hp⟩
  cases h : rd d.its p with
  | none => exact O.bb.get hp
  | some x => exact rd_blk O.ib h
theorem rest_zero (S : St hd hc s k n d G) (h0 : d.fu = .int 0) {p : Nat} (hp : p < d.bl.length) {ws : List Int} (B : Blk ws) {w : Int} : ∃ δ', restC [some (.ref hd), some (.ref d.h), some (.ref d.hi), some (.int (p : Int)), some (.tup (ws.map Dv.int)), some (.int w), none] G = some (.rt (.bl true), δ', G) := by
  have D := S.o.ds
  have sf := sub_fuse S.o.it
  rw [h0] at D sf
  have ob := D.ob
  simp only [dfs] at ob
  have wr := write_ex D (p : Int) ws B (by omega) (by omega)
  have fx := force_ex D
  obtain ⟨x, bx, r1, r2⟩ := reads S.o hp
  obtain ⟨y, hy⟩ := re_blk bx
  have rq := hy.rq (by omega) (by omega) G G
  have q : Ms.mLam l_law_passed b_law_passed qz_law_is_call_right_1 [some (.ref hd), some (.ref d.h), some (.ref d.hi), some (.int (p : Int)), some (.tup (ws.map Dv.int)), some (.int w), none] G = some (.str "cut", G) := by
    refine lam_cut ?_
    by_cases w0 : w = 0
    · simp! [qz_law_is_call_right_1, xIfE, xMeth, ob, w0, fx]
    · by_cases w1 : w = 1
      · simp! [qz_law_is_call_right_1, xIfE, xMeth, ob, w1, wr]
      · simp! [qz_law_is_call_right_1, xIfE, xMethK, ob, w0, w1, wr, List.getD_cons_zero, List.getD_cons_succ]
  exact ⟨_, by simp! [restC, q, sf, ob, r1, r2, Mi.mReprEq, rq]; rfl⟩
end
end Lw

namespace Lw
open Mi (Dv MO Sto Sl Rs bnd ME MT MA MS MF Fl MG MGs MI)
open Ms (Fx Rx MSX MEX MFX xLift xSeq xIf xRaise xExpr xRet xMeth xMethK xDef mTry xRaiseV xIfE)
open PySem (PyData)
section
variable {G G' : Sto} {hd hc n : Nat} {s k : Int} {d : Di}
theorem eqI (i j : Int) (G : Sto) : Mi.bEq false (.int i) (.int j) G = some (.bl (decide (i = j)), G) := by
  simp! []
theorem eqS (x y : String) (G : Sto) : Mi.bEq false (.str x) (.str y) G = some (.bl (decide (x = y)), G) := by
  simp! []
theorem rest_force (S : St hd hc s k n d G) (hn : n ≤ 500) (hg : Go d.fu) {p : Nat} (hp : p < d.bl.length) {ws : List Int} (B : Blk ws) : ∃ d' G' δ', restC [some (.ref hd), some (.ref d.h), some (.ref d.hi), some (.int (p : Int)), some (.tup (ws.map Dv.int)), some (.int 0), none] G = some (.rt (.bl true), δ', G') ∧ St hd hc s k (n + 1) d' G' ∧ d'.h = d.h ∧ d'.hi = d.hi := by
  have D := S.o.ds
  have O := S.o
  have sf := sub_fuse S.o.it
  have il := S.o.il
  have nl := nw_len d.its
  have q0 := fu_eq hg
  have a2 := O.a2
  have ln := fun wt fu => itD_len (s := s) (k := k) (hs := d.hs) wt fu
  have pf := put_fuse (s := s) (k := k) (hs := d.hs) (.fls (qOf d.its)) d.fu (fdec d.fu)
  have ob := D.ob
  simp only [dfs] at ob
  obtain ⟨G3, e3, D3, S3, L3⟩ := force_ok D hg fun q hq => (O.ib q hq).1
  have mm : ∀ x ∈ [d.hi, d.hs], x ∉ [d.h, d.hb] := fun x hx => by
    have q1 := a2 d.h (by simp)
    have q2 := a2 d.hb (by simp)
    simp only [List.mem_cons, List.not_mem_nil, or_false] at hx ⊢
    omega
  have it3 := S3.get (mm _ (by simp)) S.o.it
  have sd3 := S3.get (mm _ (by simp)) S.o.sd
  have sf3 := sub_fuse it3
  have it4 : (G3.set d.hi (.dct (itD s k d.hs (.fls (qOf d.its)) (fdec d.fu))))[d.hi]? = some (.dct (itD s k d.hs (.fls (qOf d.its)) (fdec d.fu))) := set_at it3
  have sd4 : (G3.set d.hi (.dct (itD s k d.hs (.fls (qOf d.its)) (fdec d.fu))))[d.hs]? = some (.lst d.bl) := by rw [List.getElem?_set_ne O.a3]; exact sd3
  obtain ⟨G5, e5, t1, t2, S5, L5⟩ := forced_ok it4 sd4 O.a3 fun q hq => (O.ib q hq).1
  have S4 : Sm [d.hi] G3 (G3.set d.hi (.dct (itD s k d.hs (.fls (qOf d.its)) (fdec d.fu)))) := sm_set (by simp)
  have lt := S.o.lt
  have S45 : Sm [d.hi, d.hs] G3 G5 := (S4.mono (by simp)).trans S5
  have m5 : ∀ x ∈ [d.h, d.hb, G.length, G.length + 1], x ∉ [d.hi, d.hs] := fun x hx => by
    have q1 := a2 d.h (by simp)
    have q2 := a2 d.hb (by simp)
    have l1 := lt d.hi (by simp [hnds])
    have l2 := lt d.hs (by simp [hnds])
    simp only [List.mem_cons, List.not_mem_nil, or_false] at hx ⊢
    omega
  have D5 := D3.sm S45 (m5 _ (by simp)) (m5 _ (by simp)) (m5 _ (by simp)) (m5 _ (by simp))
  have SA : Sm (hd :: hc :: hnds d) G G5 := (S3.mono (by intro x hx; simp [hnds] at hx ⊢; omega)).trans (S45.mono (by intro x hx; simp [hnds] at hx ⊢; omega))
  have SK : Sm (hnds d) G G5 := (S3.mono (by intro x hx; simp [hnds] at hx ⊢; omega)).trans (S45.mono (by intro x hx; simp [hnds] at hx ⊢; omega))
  have q : Ms.mLam l_law_passed b_law_passed qz_law_is_call_right_1 [some (.ref hd), some (.ref d.h), some (.ref d.hi), some (.int (p : Int)), some (.tup (ws.map Dv.int)), some (.int 0), none] G = some (.str "None", G3) := by
    refine lam_none ?_
    simp! [qz_law_is_call_right_1, xIfE, xMeth, ob, e3]
  have O' : One s k (n + 1) { d with hq := G.length, hn := G.length + 1, bl := layAll d.bl d.its, its := [], fu := fdec d.fu } G5 := by
    refine ⟨D5, t1, t2, ?_, O.a3, layAll_blk _ _ O.bb fun q hq => (O.ib q hq).2, fun q hq => (by simp at hq), by rw [layAll_len]; exact O.sz, Nat.zero_le _, fdec_ok hg⟩
    · intro x hx
      have q1 := a2 d.h (by simp)
      have q2 := a2 d.hb (by simp)
      have l1 := lt d.hi (by simp [hnds])
      have l2 := lt d.hs (by simp [hnds])
      simp only [List.mem_cons, or_false, List.not_mem_nil] at hx
      dsimp only
      omega
  have R' : Res hd hc d { d with hq := G.length, hn := G.length + 1, bl := layAll d.bl d.its, its := [], fu := fdec d.fu } G G5 := ⟨S.d.sm SK (fun z => (S.a _ z).1 rfl) (fun z => (S.a _ z).2 rfl), SA, rfl, rfl, rfl, rfl, .inr (Nat.le_refl _), .inr (Nat.le_succ _)⟩
  refine ⟨_, _, [some (.ref hd), some (.ref d.h), some (.ref d.hi), some (.int (p : Int)), some (.tup (ws.map Dv.int)), some (.int 0), some (.str "None")], ?_, S.res O' R', rfl, rfl⟩
  clear O' R'
  generalize d.fu = fu at sf3 it3 pf it4 e5 q0 hg ⊢
  rcases hg with rfl | ⟨m, rfl⟩
  · simp only [fdec] at pf it4 e5 ⊢
    simp! [-Mi.put, -Mi.bEq, restC, q, sf3, q0, Mi.mSetK, it3, pf, ln, e5, eqI, eqS]
    try rfl
  · generalize ((m + 1 : Nat) : Int) = zz at sf3 it3 pf it4 e5 q0 ⊢
    simp only [fdec] at pf it4 e5 ⊢
    simp! [-Mi.put, -Mi.bEq, restC, q, sf3, q0, Mi.mSetK, it3, pf, ln, e5, eqI, eqS]
    try rfl
theorem rest_write (S : St hd hc s k n d G) (hn : n ≤ 500) (hg : Go d.fu) {p : Nat} (hp : p < d.bl.length) {ws : List Int} (B : Blk ws) {w : Int} (w0 : ¬ w = 0) : ∃ d' G' δ', restC [some (.ref hd), some (.ref d.h), some (.ref d.hi), some (.int (p : Int)), some (.tup (ws.map Dv.int)), some (.int w), none] G = some (.rt (.bl true), δ', G') ∧ St hd hc s k (n + 1) d' G' ∧ d'.h = d.h ∧ d'.hi = d.hi := by
  have D := S.o.ds
  have O := S.o
  have sf := sub_fuse S.o.it
  have il := S.o.il
  have nl := nw_len d.its
  have q0 := fu_eq hg
  have a2 := O.a2
  have ln := fun wt fu => itD_len (s := s) (k := k) (hs := d.hs) wt fu
  have pf := put_fuse (s := s) (k := k) (hs := d.hs) (.fls (qOf d.its)) d.fu (fdec d.fu)
  have ob := D.ob
  simp only [dfs] at ob
  obtain ⟨G3, e3, D3, S3, L3⟩ := write_ok D hg (p : Int) ws B (by omega) (by omega) (by unfold qOf; rw [List.length_map]; omega) (by omega)
  have mm : ∀ x ∈ [d.hi, d.hs], x ∉ [d.h, d.hq, d.hn] := fun x hx => by
    have q1 := a2 d.h (by simp)
    have q2 := a2 d.hq (by simp)
    have q3 := a2 d.hn (by simp)
    simp only [List.mem_cons, List.not_mem_nil, or_false] at hx ⊢
    omega
  have it3 := S3.get (mm _ (by simp)) S.o.it
  have sd3 := S3.get (mm _ (by simp)) S.o.sd
  have sf3 := sub_fuse it3
  have it4 : (G3.set d.hi (.dct (itD s k d.hs (.fls (qOf d.its)) (fdec d.fu))))[d.hi]? = some (.dct (itD s k d.hs (.fls (qOf d.its)) (fdec d.fu))) := set_at it3
  have sw4 := sub_wait it4
  have qa : qOf d.its ++ [.tup [.int (p : Int), .tup (ws.map Dv.int)]] = qOf (d.its ++ [(p, T ws)]) := by unfold qOf; rw [List.map_append]; rfl
  have lq : (qOf d.its).length + 1 ≤ 16777216 := by unfold qOf; rw [List.length_map]; omega
  have pw := put_wait (s := s) (k := k) (hs := d.hs) (.fls (qOf d.its)) (.fls (qOf (d.its ++ [(p, T ws)]))) (fdec d.fu)
  have it5 : ((G3.set d.hi (.dct (itD s k d.hs (.fls (qOf d.its)) (fdec d.fu)))).set d.hi (.dct (itD s k d.hs (.fls (qOf (d.its ++ [(p, T ws)]))) (fdec d.fu))))[d.hi]? = some (.dct (itD s k d.hs (.fls (qOf (d.its ++ [(p, T ws)]))) (fdec d.fu))) := set_at it4
  have S45 : Sm [d.hi] G3 ((G3.set d.hi (.dct (itD s k d.hs (.fls (qOf d.its)) (fdec d.fu)))).set d.hi (.dct (itD s k d.hs (.fls (qOf (d.its ++ [(p, T ws)]))) (fdec d.fu)))) := (sm_set (by simp)).trans (sm_set (by simp))
  have m5 : ∀ x ∈ [d.h, d.hb, d.hq, d.hn, d.hs], x ∉ [d.hi] := fun x hx => by
    have q1 := a2 d.h (by simp)
    have q2 := a2 d.hb (by simp)
    have q3 := a2 d.hq (by simp)
    have q4 := a2 d.hn (by simp)
    have q5 := O.a3
    simp only [List.mem_cons, List.not_mem_nil, or_false] at hx ⊢
    omega
  rw [qa] at D3
  have D5 := D3.sm S45 (m5 _ (by simp)) (m5 _ (by simp)) (m5 _ (by simp)) (m5 _ (by simp))
  have SA : Sm (hd :: hc :: hnds d) G ((G3.set d.hi (.dct (itD s k d.hs (.fls (qOf d.its)) (fdec d.fu)))).set d.hi (.dct (itD s k d.hs (.fls (qOf (d.its ++ [(p, T ws)]))) (fdec d.fu)))) := (S3.mono (by intro x hx; simp [hnds] at hx ⊢; omega)).trans (S45.mono (by intro x hx; simp [hnds] at hx ⊢; omega))
  have SK : Sm (hnds d) G ((G3.set d.hi (.dct (itD s k d.hs (.fls (qOf d.its)) (fdec d.fu)))).set d.hi (.dct (itD s k d.hs (.fls (qOf (d.its ++ [(p, T ws)]))) (fdec d.fu)))) := (S3.mono (by intro x hx; simp [hnds] at hx ⊢; omega)).trans (S45.mono (by intro x hx; simp [hnds] at hx ⊢; omega))
  have q : Ms.mLam l_law_passed b_law_passed qz_law_is_call_right_1 [some (.ref hd), some (.ref d.h), some (.ref d.hi), some (.int (p : Int)), some (.tup (ws.map Dv.int)), some (.int w), none] G = some (.str "None", G3) := by
    refine lam_none ?_
    by_cases w1 : w = 1
    · simp! [qz_law_is_call_right_1, xIfE, xMeth, ob, w1, e3]
    · simp! [qz_law_is_call_right_1, xIfE, xMethK, ob, w0, w1, e3, List.getD_cons_zero, List.getD_cons_succ]
  have O' : One s k (n + 1) { d with its := d.its ++ [(p, T ws)], fu := fdec d.fu } ((G3.set d.hi (.dct (itD s k d.hs (.fls (qOf d.its)) (fdec d.fu)))).set d.hi (.dct (itD s k d.hs (.fls (qOf (d.its ++ [(p, T ws)]))) (fdec d.fu)))) := by
    refine ⟨?_, it5, S45.get (m5 _ (by simp)) sd3, a2, O.a3, O.bb, ?_, O.sz, by show (d.its ++ [(p, T ws)]).length ≤ n + 1; rw [List.length_append]; simp; omega, fdec_ok hg⟩
    · show Dsk (fdec d.fu) _ d.h d.hb d.hq d.hn s k d.bl (qOf (d.its ++ [(p, T ws)])) (nwOf (d.its ++ [(p, T ws)]))
      rw [nwOf_app]
      exact D5
    · intro q hq
      rcases (List.mem_append.mp hq : _ ∨ _) with y | y
      · exact O.ib q y
      · rw [List.mem_singleton.mp y]
        exact ⟨hp, ws, rfl, B⟩
  have R' : Res hd hc d { d with its := d.its ++ [(p, T ws)], fu := fdec d.fu } G ((G3.set d.hi (.dct (itD s k d.hs (.fls (qOf d.its)) (fdec d.fu)))).set d.hi (.dct (itD s k d.hs (.fls (qOf (d.its ++ [(p, T ws)]))) (fdec d.fu)))) := ⟨S.d.sm SK (fun z => (S.a _ z).1 rfl) (fun z => (S.a _ z).2 rfl), SA, rfl, rfl, rfl, rfl, .inl rfl, .inl rfl⟩
  refine ⟨_, _, [some (.ref hd), some (.ref d.h), some (.ref d.hi), some (.int (p : Int)), some (.tup (ws.map Dv.int)), some (.int w), some (.str "None")], ?_, S.res O' R', rfl, rfl⟩
  clear O' R'
  generalize d.fu = fu at sf3 it3 pf pw sw4 it4 q0 hg ⊢
  rcases hg with rfl | ⟨m, rfl⟩
  · simp only [fdec] at pf pw sw4 it4 ⊢
    simp! [-Mi.put, -Mi.bEq, restC, q, sf3, q0, Mi.mSetK, it3, pf, ln, sw4, lq, qa, it4, pw, eqI, eqS, w0]
    try rfl
  · generalize ((m + 1 : Nat) : Int) = zz at sf3 it3 pf pw sw4 it4 q0 ⊢
    simp only [fdec] at pf pw sw4 it4 ⊢
    simp! [-Mi.put, -Mi.bEq, restC, q, sf3, q0, Mi.mSetK, it3, pf, ln, sw4, lq, qa, it4, pw, eqI, eqS, w0]
    try rfl
end
end Lw

namespace Lw
open Mi (Dv MO Sto Sl Rs bnd ME MT MA MS MF Fl MG MGs MI)
open Ms (Fx Rx MSX MEX MFX xLift xSeq xIf xRaise xExpr xRet xMeth xMethK xDef mTry xRaiseV xIfE mPar3)
open PySem (PyData)
theorem call_eq2 : b_law_is_call_right = Mi.mSeq (Mi.mAsg (Mi.mTup (Mi.mCons (Mi.mCall m_law_draw (Mi.mCons (Mi.mVar 0) (Mi.mCons (Mi.mCall m_law_many (Mi.mCons (Mi.m2 Mi.bSubs (Mi.mVar 2) (Mi.mC (.str "sizes"))) Mi.mNil)) Mi.mNil))) (Mi.mCons (Mi.mCall m_law_block (Mi.mCons (Mi.mVar 0) Mi.mNil)) (Mi.mCons (Mi.mCall m_law_draw (Mi.mCons (Mi.mVar 0) (Mi.mCons (Mi.mC (.int 4)) Mi.mNil))) Mi.mNil)))) (Mi.gTup 3 (Mi.gCons (Mi.gNm 3) (Mi.gCons (Mi.gNm 4) (Mi.gCons (Mi.gNm 5) Mi.gNil)))))
    (Mi.mSeq (Mi.mIfS (Mi.mTand (Mi.mTb (Mi.m2 (Mi.bEq false) (Mi.mCall m_law_draw (Mi.mCons (Mi.mVar 0) (Mi.mCons (Mi.mC (.int 6)) Mi.mNil))) (Mi.mC (.int 0)))) (Mi.mTnot (Mi.mTb (Mi.mCall m_law_are_wrong_refused (Mi.mCons (Mi.mVar 0) (Mi.mCons (Mi.mVar 1) (Mi.mCons (Mi.mVar 2) (Mi.mCons (Mi.mVar 3) (Mi.mCons (Mi.mVar 4) Mi.mNil))))))))) (Mi.mRet (Mi.mC (.bl false))) Mi.mSkip) restC) := rfl
section
variable {G G' : Sto} {hd hc n : Nat} {s k : Int} {d : Di}
theorem rest_ok (S : St hd hc s k n d G) (hn : n ≤ 500) {p : Nat} (hp : p < d.bl.length) {ws : List Int} (B : Blk ws) (w : Int) : ∃ d' G' δ', restC [some (.ref hd), some (.ref d.h), some (.ref d.hi), some (.int (p : Int)), some (.tup (ws.map Dv.int)), some (.int w), none] G = some (.rt (.bl true), δ', G') ∧ St hd hc s k (n + 1) d' G' ∧ d'.h = d.h ∧ d'.hi = d.hi := by
  rcases fu_cases S.o.fo with h0 | hg
  · obtain ⟨δ', e⟩ := rest_zero S h0 hp B (w := w)
    exact ⟨d, G, δ', e, S.mono (Nat.le_succ n), rfl, rfl⟩
  · by_cases w0 : w = 0
    · subst w0
      exact rest_force S hn hg hp B
    · exact rest_write S hn hg hp B w0
theorem call_ok (hS : 6 ≤ s ∧ s ≤ 40) (hK : 4 ≤ k ∧ k ≤ 24) (hn : n ≤ 500) (S : St hd hc s k n d G) : ∃ d' G', m_law_is_call_right [.ref hd, .ref d.h, .ref d.hi] G = some (.bl true, G') ∧ St hd hc s k (n + 1) d' G' ∧ d'.h = d.h ∧ d'.hi = d.hi := by
  have mny := Many_b hS hK
  have sz := sub_sizes S.o.it
  have lm := law_many_ok s k G hS hK
  obtain ⟨z, G1, e1, a1, b1, c1⟩ := draw S.d (Many s k) (by omega) (by omega)
  obtain ⟨p, rfl⟩ := Int.eq_ofNat_of_zero_le a1
  have S1 := S.dr c1
  obtain ⟨ws, G2, e2, B, c2⟩ := block S1.d
  have S2 := S1.dr c2
  obtain ⟨w, G3, e3, a3, b3, c3⟩ := draw S2.d 4 (by omega) (by omega)
  have S3 := S2.dr c3
  obtain ⟨r, G4, e4, a4, b4, c4⟩ := draw S3.d 6 (by omega) (by omega)
  have S4 := S3.dr c4
  have hp : p < d.bl.length := by rw [S.o.sz]; omega
  by_cases r0 : r = 0
  · subst r0
    obtain ⟨G5, e5, S5⟩ := wrong_ok hS hK hn S4 hp B
    obtain ⟨d', G', δ', e6, S6, h1, h2⟩ := rest_ok S5 hn hp B w
    refine ⟨d', G', ?_, S6, h1, h2⟩
    simp! [m_law_is_call_right, call_eq2, sz, lm, e1, e2, e3, e4, e5, e6]
  · obtain ⟨d', G', δ', e6, S6, h1, h2⟩ := rest_ok S4 hn hp B w
    refine ⟨d', G', ?_, S6, h1, h2⟩
    simp! [m_law_is_call_right, call_eq2, sz, lm, e1, e2, e3, e4, r0, e6]
theorem St.fuse (S : St hd hc s k n d G) (m : Nat) : ∃ G1 d', m_Disk_fuse [.ref d.h, .int (m : Int)] G = some (.non, G1) ∧ (∀ δ : Sl, δ[4]? = some (some (.ref d.hi)) → δ[6]? = some (some (.int (m : Int))) → ∃ G2, Mi.mSetK (Mi.mVar 4) (Mi.mC (.str "fuse")) (Mi.mVar 6) δ G1 = some (.nx, δ, G2) ∧ St hd hc s k n d' G2) ∧ d'.h = d.h ∧ d'.hi = d.hi := by
  obtain ⟨G1, e1, e2, S2⟩ := fuse_both S m
  have pf := put_fuse (s := s) (k := k) (hs := d.hs) (.fls (qOf d.its)) d.fu (.int (m : Int))
  have ln := itD_len (s := s) (k := k) (hs := d.hs) (.fls (qOf d.its)) d.fu
  refine ⟨G1, _, e1, fun δ h4 h6 => ⟨_, ?_, S2⟩, rfl, rfl⟩
  simp! [-Mi.put, Mi.mSetK, h4, h6, e2, pf, ln]
/-- both read the same, as text -/
theorem read_rq (hn : n ≤ 500) (S : St hd hc s k n d G) {p : Nat} (hp : p < d.bl.length) : ∃ x, m_Disk_read [.ref d.h, .int (p : Int)] G = some (x, G) ∧ m_law_read [.ref d.hi, .int (p : Int)] G = some (x, G) ∧ ∃ e, Mi.pyT G (.tup [x, .int (qOf d.its).length]) = some e ∧ Mi.pyT G (.tup [x, .int (qOf d.its).length]) = some e ∧ Mi.okR e := by
  obtain ⟨x, bx, r1, r2⟩ := reads S.o hp
  obtain ⟨y, hy⟩ := re_blk bx
  have il := S.o.il
  have lq : (qOf d.its).length = d.its.length := by unfold qOf; rw [List.length_map]
  refine ⟨x, r1, r2, ?_⟩
  have c := re_cons (m := 2) hy (re_cons (m := 2) (re_int (i := (((qOf d.its).length : Nat) : Int)) (abs18 (by omega))) re_nil (by omega)) (by omega)
  exact (re_tup c).rq (by omega) (by omega) G G
theorem turn_ok (hS : 6 ≤ s ∧ s ≤ 40) (hK : 4 ≤ k ∧ k ≤ 24) (hn : n ≤ 400) (S : St hd hc s k n d G) (x0 x5 x6 x7 x8 x9 : Option Dv) : ∃ d' y6 y8 G', qb_law_1 [x0, some (.ref hd), some (szs s k), some (.ref d.h), some (.ref d.hi), x5, x6, x7, x8, x9] G = some (.nx, [x0, some (.ref hd), some (szs s k), some (.ref d.h), some (.ref d.hi), x5, y6, x7, y8, x9], G') ∧ St hd hc s k (n + 1) d' G' ∧ d'.h = d.h ∧ d'.hi = d.hi := by
  have mny := Many_b hS hK
  have tail : ∀ {d1 : Di} {G1 : Sto}, St hd hc s k n d1 G1 → d1.h = d.h → d1.hi = d.hi → ∃ d' G2 G3 p, m_law_is_call_right [.ref hd, .ref d.h, .ref d.hi] G1 = some (.bl true, G2) ∧ m_law_draw [.ref hd, .int (Many s k)] G2 = some (.int (p : Nat), G3) ∧ m_law_many [szs s k] G2 = some (.int (Many s k), G2) ∧ St hd hc s k (n + 1) d' G3 ∧ d'.h = d.h ∧ d'.hi = d.hi ∧ p < d'.bl.length := fun {d1 G1} S1 h1 h2 => by
    obtain ⟨d', G2, e2, S2, q1, q2⟩ := call_ok hS hK (by omega) S1
    have lm := law_many_ok s k G2 hS hK
    obtain ⟨z, G3, e3, a3, b3, c3⟩ := draw S2.d (Many s k) (by omega) (by omega)
    obtain ⟨p, rfl⟩ := Int.eq_ofNat_of_zero_le a3
    rw [h1, h2] at e2
    exact ⟨d', G2, G3, p, e2, e3, lm, S2.dr c3, q1.trans h1, q2.trans h2, by rw [S2.o.sz]; omega⟩
  obtain ⟨r, G1, e1, a1, b1, c1⟩ := draw S.d 12 (by omega) (by omega)
  have S1 := S.dr c1
  by_cases r0 : r = 0
  · subst r0
    obtain ⟨v, G2, e2, m2, c2⟩ := pick S1.d [.int 0, .int 1, .int 3, .int 1000000000000000000000000000000] (by simp) (by simp)
    have S2 := S1.dr c2
    have hv : ∃ m : Nat, v = .int (m : Int) := by
      simp only [List.mem_cons, List.not_mem_nil, or_false] at m2
      rcases m2 with rfl | rfl | rfl | rfl
      · exact ⟨0, rfl⟩
      · exact ⟨1, rfl⟩
      · exact ⟨3, rfl⟩
      · exact ⟨1000000000000000000000000000000, rfl⟩
    obtain ⟨m, rfl⟩ := hv
    obtain ⟨G3, d3, e3, hk, q1, q2⟩ := S2.fuse m
    obtain ⟨G4, e4, S4⟩ := hk [x0, some (.ref hd), some (szs s k), some (.ref d.h), some (.ref d.hi), x5, some (.int (m : Int)), x7, x8, x9] rfl rfl
    obtain ⟨d', G5, G6, p, e5, e6, lm, S6, h1, h2, hp⟩ := tail S4 q1 q2
    obtain ⟨x, r1, r2, rq⟩ := read_rq (by omega) S6 hp
    have sw := sub_wait S6.o.it
    have ob := S6.o.ds.ob
    have wt := waiting_ok S6.o.ds
    have ob2 := S2.o.ds.ob
    rw [h1] at r1 ob wt
    rw [h2] at r2 sw
    simp only [dfs] at ob ob2
    refine ⟨d', some (.int (m : Int)), some (.int (p : Int)), G6, ?_, S6, h1, h2⟩
    simp! [-Mi.mSetK, qb_law_1, e1, e2, e3, e4, e5, lm, e6, p10, Mi.mReprEq, ob, ob2, r1, wt, r2, sw, Mi.fLen, Mi.lstOf, rq]
  · obtain ⟨d', G5, G6, p, e5, e6, lm, S6, h1, h2, hp⟩ := tail S1 rfl rfl
    obtain ⟨x, r1, r2, rq⟩ := read_rq (by omega) S6 hp
    have sw := sub_wait S6.o.it
    have ob := S6.o.ds.ob
    have wt := waiting_ok S6.o.ds
    rw [h1] at r1 ob wt
    rw [h2] at r2 sw
    simp only [dfs] at ob
    refine ⟨d', x6, some (.int (p : Int)), G6, ?_, S6, h1, h2⟩
    simp! [qb_law_1, e1, r0, e5, lm, e6, Mi.mReprEq, ob, r1, wt, r2, sw, Mi.fLen, Mi.lstOf, rq]
end
end Lw

namespace Lw
open Mi (Dv MO Sto Sl Rs bnd ME MT MA MS MF Fl MG MGs MI)
open Ms (Fx Rx MSX MEX MFX xLift xSeq xIf xRaise xExpr xRet xMeth xMethK xDef mTry xRaiseV xIfE)
open PySem (PyData)
noncomputable def restG : MS :=
    Mi.mSeq qf_law_1 (
    Mi.mSeq (Mi.mIfS (Mi.mTb (Mi.mReprEq true (Mi.mTup (Mi.mCons (Mi.mMeth 0 "sizes" m_Disk_sizes (Mi.mVar 3) Mi.mNil) (Mi.mCons (Mi.mMeth 0 "waiting" m_Disk_waiting (Mi.mVar 3) Mi.mNil) (Mi.mCons (Mi.mMeth 0 "standing" m_Disk_standing (Mi.mVar 3) Mi.mNil) Mi.mNil)))) (Mi.mTup (Mi.mCons (Mi.mVar 2) (Mi.mCons (Mi.mB Mi.fTuple (Mi.mCons (Mi.m2 Mi.bSubs (Mi.mVar 4) (Mi.mC (.str "wait"))) Mi.mNil)) (Mi.mCons (Mi.mB Mi.fTuple (Mi.mCons (Mi.m2 Mi.bSubs (Mi.mVar 4) (Mi.mC (.str "stand"))) Mi.mNil)) Mi.mNil)))))) (Mi.mRet (Mi.mC (.bl false))) Mi.mSkip) (
    Mi.mIfS (Mi.mTb (Mi.m2 Mi.bGt (Mi.mCall m_law_draw (Mi.mCons (Mi.mVar 1) (Mi.mCons (Mi.mC (.int 4)) Mi.mNil))) (Mi.mC (.int 0)))) (Mi.mSeq (Mi.mAsg (Mi.mCall m_law_keep (Mi.mCons (Mi.mVar 1) (Mi.mCons (Mi.mB Mi.fLen (Mi.mCons (Mi.m2 Mi.bSubs (Mi.mVar 4) (Mi.mC (.str "wait"))) Mi.mNil)) Mi.mNil))) (Mi.gNm 9)) (
    Mi.mSeq (Mi.mExpr (Mi.mMeth 0 "cut" m_Disk_cut (Mi.mVar 3) (Mi.mCons (Mi.mVar 9) Mi.mNil))) (
    Mi.mSeq (Mi.mExpr (Mi.mCall m_law_fell (Mi.mCons (Mi.mVar 4) (Mi.mCons (Mi.mVar 9) Mi.mNil)))) (
    Mi.mIfS (Mi.mTor (Mi.mTnot (Mi.mTb (Mi.mCall m_law_is_call_right (Mi.mCons (Mi.mVar 1) (Mi.mCons (Mi.mVar 3) (Mi.mCons (Mi.mVar 4) Mi.mNil)))))) (Mi.mTnot (Mi.mTb (Mi.mCall m_law_is_call_right (Mi.mCons (Mi.mVar 1) (Mi.mCons (Mi.mVar 3) (Mi.mCons (Mi.mVar 4) Mi.mNil))))))) (Mi.mRet (Mi.mC (.bl false))) Mi.mSkip)))) Mi.mSkip))
theorem go_eq : qb_law_2 = Mi.mSeq (Mi.mAsg (Mi.mCall m_law_draw (Mi.mCons (Mi.mVar 1) (Mi.mCons (Mi.mC (.int 7)) Mi.mNil))) (Mi.gNm 6)) (
    Mi.mSeq (Mi.mIfS (Mi.mTor (Mi.mTb (Mi.m2 Mi.bGt (Mi.mVar 5) (Mi.mC (.int 0)))) (Mi.mTb (Mi.m2 (Mi.bEq false) (Mi.mCall m_law_draw (Mi.mCons (Mi.mVar 1) (Mi.mCons (Mi.mC (.int 2)) Mi.mNil))) (Mi.mC (.int 0))))) (Mi.mSeq (Mi.mIfS (Mi.mTb (Ms.mReprIs true "None" (Mi.mIf (Mi.mTb (Mi.m2 Mi.bLt (Mi.mVar 5) (Mi.mC (.int 3)))) (Mi.mMeth 0 "fuse" m_Disk_fuse (Mi.mVar 3) (Mi.mCons (Mi.mVar 6) Mi.mNil)) (Mi.mMethK 0 "fuse" m_Disk_fuse [0, 1] (Mi.mVar 3) Mi.mNil (Mi.mCons (Mi.mVar 6) Mi.mNil))))) (Mi.mRet (Mi.mC (.bl false))) Mi.mSkip) (
    Mi.mSetK (Mi.mVar 4) (Mi.mC (.str "fuse")) (Mi.mVar 6))) Mi.mSkip) restG) := rfl
theorem shownNone : ∃ d, Mi.pyT ([] : Sto) .non = some d ∧ Mi.okR d ∧ d.shown = PySem.Str.ofString "None" := ⟨.none, rfl, ⟨5, rfl, by decide, by decide⟩, rfl⟩
theorem shownNone' (G : Sto) : ∃ d, Mi.pyT G .non = some d ∧ Mi.okR d ∧ d.shown = PySem.Str.ofString "None" := ⟨.none, rfl, ⟨5, rfl, by decide, by decide⟩, rfl⟩
section
variable {G G' : Sto} {hd hc n : Nat} {s k : Int} {d : Di}
theorem cut_both (O : One s k n d G) (A : Ap hd hc d) (K : Dk hd hc G) {ks : List Nat} (hk : ∀ m ∈ ks, m ≤ 32) (hl : ks.length ≤ 10000) :
    ∃ (d' : Di) (G1 G2 : Sto), m_Disk_cut [.ref d.h, .tup (kD ks)] G = some (.non, G1) ∧ m_law_fell [.ref d.hi, .tup (kD ks)] G1 = some (.non, G2) ∧ One s k n d' G2 ∧ Res hd hc d d' G G2 := by
  obtain ⟨G1, e1, D1, S1, L1⟩ := cut_ok O.ds O.ib O.bb hk hl
  have a2 := O.a2
  have mm : ∀ x ∈ [d.hi, d.hs], x ∉ [d.h, d.hb] := fun x hx => by
    have q1 := a2 d.h (by simp)
    have q2 := a2 d.hb (by simp)
    simp only [List.mem_cons, List.not_mem_nil, or_false] at hx ⊢
    omega
  have g1 := S1.get (mm _ (by simp)) O.it
  have g2 := S1.get (mm _ (by simp)) O.sd
  obtain ⟨G2, e2, t1, t2, S2, L2⟩ := fell_ok g1 g2 O.a3 O.ib O.bb hk
  have lt := O.lt
  have l1 := lt d.hi (by simp [hnds])
  have l2 := lt d.hs (by simp [hnds])
  have m2 : ∀ x ∈ [d.h, d.hb, G.length, G.length + 1], x ∉ [d.hi, d.hs] := fun x hx => by
    have q1 := a2 d.h (by simp)
    have q2 := a2 d.hb (by simp)
    simp only [List.mem_cons, List.not_mem_nil, or_false] at hx ⊢
    omega
  have SA : Sm (hd :: hc :: hnds d) G G2 := (S1.mono (by intro x hx; simp [hnds] at hx ⊢; omega)).trans (S2.mono (by intro x hx; simp [hnds] at hx ⊢; omega))
  have SK : Sm (hnds d) G G2 := (S1.mono (by intro x hx; simp [hnds] at hx ⊢; omega)).trans (S2.mono (by intro x hx; simp [hnds] at hx ⊢; omega))
  refine ⟨{ d with hq := G.length, hn := G.length + 1, bl := cutAll d.bl d.its ks, its := [], fu := .non }, G1, G2, e1, e2, ⟨D1.sm S2 (m2 _ (by simp)) (m2 _ (by simp)) (m2 _ (by simp)) (m2 _ (by simp)), t1, t2, ?_, O.a3, cutAll_blk _ _ _ O.bb O.ib hk, fun q hq => (by simp at hq), by rw [cutAll_len]; exact O.sz, Nat.zero_le _, .inl rfl⟩, ⟨K.sm SK (fun z => (A _ z).1 rfl) (fun z => (A _ z).2 rfl), SA, rfl, rfl, rfl, rfl, .inr (Nat.le_refl _), .inr (Nat.le_succ _)⟩⟩
  intro x hx
  have q1 := a2 d.h (by simp)
  have q2 := a2 d.hb (by simp)
  simp only [List.mem_cons, or_false, List.not_mem_nil] at hx
  dsimp only
  omega
abbrev sl9 (x0 : Option Dv) (hd : Nat) (s k : Int) (h hi : Nat) (x5 x6 x7 x8 x9 : Option Dv) : Sl := [x0, some (.ref hd), some (szs s k), some (.ref h), some (.ref hi), x5, x6, x7, x8, x9]
theorem turns_ok (hS : 6 ≤ s ∧ s ≤ 40) (hK : 4 ≤ k ∧ k ≤ 24) (hn : n ≤ 300) (S : St hd hc s k n d G) (x0 x5 x6 x7 x8 x9 : Option Dv) : ∃ d' y6 y7 y8 G', qf_law_1 (sl9 x0 hd s k d.h d.hi x5 x6 x7 x8 x9) G = some (.nx, sl9 x0 hd s k d.h d.hi x5 y6 y7 y8 x9, G') ∧ St hd hc s k (n + 11) d' G' ∧ d'.h = d.h ∧ d'.hi = d.hi := by
  obtain ⟨r, G1, e1, a1, b1, c1⟩ := draw S.d 11 (by omega) (by omega)
  have S1 := S.dr c1
  have lr : (Mi.rng 0 r).length = r.toNat := rng_toNat r
  obtain ⟨δ', G', e, d', m, ⟨y6, y7, y8, rfl⟩, S', h1, h2, hm⟩ := loop_inv (g := Mi.gNm 7) (b := qb_law_1) (st := fun _ => True)
    (fun r δ G => ∃ (d' : Di) (m : Nat), (∃ y6 y7 y8, δ = sl9 x0 hd s k d.h d.hi x5 y6 y7 y8 x9) ∧ St hd hc s k m d' G ∧ d'.h = d.h ∧ d'.hi = d.hi ∧ m + r.length ≤ n + 11)
    (fun dv ds δ G ⟨d1, m, ⟨y6, y7, y8, ed⟩, S1, h1, h2, hm⟩ => by
      subst ed
      rw [List.length_cons] at hm
      obtain ⟨d2, z6, z8, G2, e2, S2, q1, q2⟩ := turn_ok hS hK (by omega) S1 x0 x5 y6 (some dv) y8 x9
      rw [h1, h2] at e2
      exact ⟨trivial, _, _, rfl, _, _, e2, d2, m + 1, ⟨_, _, _, rfl⟩, S2, q1.trans h1, q2.trans h2, by omega⟩)
    (fun _ _ _ => trivial) (Mi.rng 0 r) _ G1 ⟨d, n, ⟨x6, x7, x8, rfl⟩, S1, rfl, rfl, by omega⟩
  refine ⟨d', y6, y7, y8, G', ?_, S'.mono (by rw [List.length_nil] at hm; omega), h1, h2⟩
  have b : -4611686018427387904 ≤ r ∧ r < 4611686018427387904 := by omega
  unfold qf_law_1 qi_law_1 Mi.mFor
  simp! [Mi.iRange1, e1, b]
  exact e
theorem go_head (S : St hd hc s k n d G) (x0 x6 x7 x8 x9 : Option Dv) {g : Nat} : ∃ d' y6 G', qb_law_2 (sl9 x0 hd s k d.h d.hi (some (.int (g : Int))) x6 x7 x8 x9) G = restG (sl9 x0 hd s k d.h d.hi (some (.int (g : Int))) y6 x7 x8 x9) G' ∧ St hd hc s k n d' G' ∧ d'.h = d.h ∧ d'.hi = d.hi := by
  obtain ⟨z, G1, e1, a1, b1, c1⟩ := draw S.d 7 (by omega) (by omega)
  obtain ⟨m, rfl⟩ := Int.eq_ofNat_of_zero_le a1
  have S1 := S.dr c1
  have fz : ∀ {G2 : Sto}, St hd hc s k n d G2 → ∃ G3 G4 d', m_Disk_fuse [.ref d.h, .int (m : Int)] G2 = some (.non, G3) ∧ Mi.mSetK (Mi.mVar 4) (Mi.mC (.str "fuse")) (Mi.mVar 6) (sl9 x0 hd s k d.h d.hi (some (.int (g : Int))) (some (.int (m : Int))) x7 x8 x9) G3 = some (.nx, sl9 x0 hd s k d.h d.hi (some (.int (g : Int))) (some (.int (m : Int))) x7 x8 x9, G4) ∧ St hd hc s k n d' G4 ∧ d'.h = d.h ∧ d'.hi = d.hi := fun {G2} S2 => by
    obtain ⟨G3, d3, e3, hk, q1, q2⟩ := S2.fuse m
    obtain ⟨G4, e4, S4⟩ := hk (sl9 x0 hd s k d.h d.hi (some (.int (g : Int))) (some (.int (m : Int))) x7 x8 x9) rfl rfl
    exact ⟨G3, G4, d3, e3, e4, S4, q1, q2⟩
  have nn := fun G => shownNone' G
  by_cases g0 : (0 : Int) < (g : Int)
  · obtain ⟨G3, G4, d', e3, e4, S4, q1, q2⟩ := fz S1
    have ob := S1.o.ds.ob
    simp only [dfs] at ob
    refine ⟨d', some (.int (m : Int)), G4, ?_, S4, q1, q2⟩
    by_cases g3 : (g : Int) < 3
    · rw [go_eq]
      unfold sl9 at e4 ⊢
      simp! [e1, g0, g3, ob, e3, Ms.mReprIs, nn, e4]
    · rw [go_eq]
      unfold sl9 at e4 ⊢
      simp! [e1, g0, g3, ob, e3, Ms.mReprIs, nn, e4, List.getD_cons_zero, List.getD_cons_succ]
  · obtain ⟨r, G2, e2, a2, b2, c2⟩ := draw S1.d 2 (by omega) (by omega)
    have S2 := S1.dr c2
    have g3 : (g : Int) < 3 := by omega
    by_cases r0 : r = 0
    · subst r0
      obtain ⟨G3, G4, d', e3, e4, S4, q1, q2⟩ := fz S2
      have ob := S2.o.ds.ob
      simp only [dfs] at ob
      refine ⟨d', some (.int (m : Int)), G4, ?_, S4, q1, q2⟩
      rw [go_eq]
      unfold sl9 at e4 ⊢
      simp! [e1, g0, e2, g3, ob, e3, Ms.mReprIs, nn, e4]
    · refine ⟨d, some (.int (m : Int)), G2, ?_, S2, rfl, rfl⟩
      rw [go_eq]
      unfold sl9
      simp! [e1, g0, e2, r0]
theorem go_tail (hS : 6 ≤ s ∧ s ≤ 40) (hK : 4 ≤ k ∧ k ≤ 24) (hn : n ≤ 300) (S : St hd hc s k n d G) (x0 x5 x6 x7 x8 x9 : Option Dv) : ∃ d' y6 y7 y8 y9 G', restG (sl9 x0 hd s k d.h d.hi x5 x6 x7 x8 x9) G = some (.nx, sl9 x0 hd s k d.h d.hi x5 y6 y7 y8 y9, G') ∧ St hd hc s k (n + 13) d' G' ∧ d'.h = d.h ∧ d'.hi = d.hi := by
  obtain ⟨d1, y6, y7, y8, G1, e1, S1, h1, h2⟩ := turns_ok hS hK hn S x0 x5 x6 x7 x8 x9
  have rq := (rq_all hS hK (by omega) S1.o G1 G1).2
  have sw := sub_wait S1.o.it
  have ss := sub_stand S1.o.it
  have szq := sizes_ok S1.o.ds
  have wt := waiting_ok S1.o.ds
  have sd := standing_ok S1.o.ds
  have ob := S1.o.ds.ob
  have st := S1.o.sd
  rw [h1] at ob szq wt sd
  rw [h2] at sw ss
  simp only [dfs] at ob
  obtain ⟨r, G2, e2, a2, b2, c2⟩ := draw S1.d 4 (by omega) (by omega)
  have S2 := S1.dr c2
  by_cases r0 : 0 < r
  · have il := S2.o.il
    have lq : (qOf d1.its).length = d1.its.length := by unfold qOf; rw [List.length_map]
    obtain ⟨ks, G3, e3, hk, hl, c3⟩ := keep_ok S2.d ((qOf d1.its).length : Int) (by omega) (by omega)
    have S3 := S2.dr c3
    obtain ⟨d', G4, G5, e4, e5, O5, R5⟩ := cut_both S3.o S3.a S3.d hk hl
    have S5 := S3.res O5 R5
    obtain ⟨d6, G6, e6, S6, p1, p2⟩ := call_ok hS hK (by omega) S5
    obtain ⟨d7, G7, e7, S7, p3, p4⟩ := call_ok hS hK (by omega) S6
    have fl : Mi.fLen [.fls (qOf d1.its)] G2 = some (.int (qOf d1.its).length, G2) := rfl
    have sw2 := sub_wait S2.o.it
    have ob3 := S3.o.ds.ob
    have q1 := R5.h
    have q2 := R5.hi
    rw [h2] at sw2
    rw [h1] at ob3 e4
    rw [h2] at e5
    rw [p1, p2, q1, q2, h1, h2] at e7
    rw [q1, q2, h1, h2] at e6
    simp only [dfs] at ob3
    refine ⟨d7, y6, y7, y8, some (.tup (kD ks)), G7, ?_, S7.mono (by omega), by rw [p3, p1, q1, h1], by rw [p4, p2, q2, h2]⟩
    unfold sl9 at e1 ⊢
    simp! [restG, e1, Mi.mReprEq, ob, szq, wt, sd, sw, ss, Mi.fTuple, Mi.lstOf, st, rq, e2, r0, sw2, fl, e3, ob3, e4, e5, e6, e7]
  · refine ⟨d1, y6, y7, y8, x9, G2, ?_, S2.mono (by omega), h1, h2⟩
    unfold sl9 at e1 ⊢
    simp! [restG, e1, Mi.mReprEq, ob, szq, wt, sd, sw, ss, Mi.fTuple, Mi.lstOf, st, rq, e2, r0]
theorem gos_ok (hS : 6 ≤ s ∧ s ≤ 40) (hK : 4 ≤ k ∧ k ≤ 24) (S : St hd hc s k 0 d G) (x0 x5 x6 x7 x8 x9 : Option Dv) : ∃ δ' G', qf_law_2 (sl9 x0 hd s k d.h d.hi x5 x6 x7 x8 x9) G = some (.nx, δ', G') := by
  obtain ⟨δ', G', e, _⟩ := loop_inv (g := Mi.gNm 5) (b := qb_law_2) (st := fun _ => True)
    (fun r δ G => ∃ (d' : Di) (m : Nat), (∃ y5 y6 y7 y8 y9, δ = sl9 x0 hd s k d.h d.hi y5 y6 y7 y8 y9) ∧ St hd hc s k m d' G ∧ d'.h = d.h ∧ d'.hi = d.hi ∧ m + 13 * r.length ≤ 100 ∧ ∀ x ∈ r, ∃ g : Nat, x = .int (g : Int))
    (fun dv ds δ G ⟨d1, m, ⟨y5, y6, y7, y8, y9, ed⟩, S1, h1, h2, hm, hg⟩ => by
      subst ed
      rw [List.length_cons] at hm
      obtain ⟨g, rfl⟩ := hg dv (List.mem_cons_self ..)
      obtain ⟨d2, z6, G2, e2, S2, q1, q2⟩ := go_head S1 x0 y6 y7 y8 y9 (g := g)
      obtain ⟨d3, w6, w7, w8, w9, G3, e3, S3, q3, q4⟩ := go_tail hS hK (by omega) S2 x0 (some (.int (g : Int))) z6 y7 y8 y9
      rw [q1, q2, h1, h2] at e3
      rw [h1, h2, e3] at e2
      exact ⟨trivial, _, _, rfl, _, _, e2, d3, m + 13, ⟨_, _, _, _, _, rfl⟩, S3, (q3.trans q1).trans h1, (q4.trans q2).trans h2, by omega, fun x hx => hg x (List.mem_cons_of_mem _ hx)⟩)
    (fun _ _ _ => trivial) (Mi.rng 0 5) _ G ⟨d, 0, ⟨x5, x6, x7, x8, x9, rfl⟩, S, rfl, rfl, by rw [rng_toNat]; decide, fun x hx => by
      unfold Mi.rng at hx
      obtain ⟨g, _, rfl⟩ := List.mem_map.mp hx
      exact ⟨g, by rw [Int.zero_add]⟩⟩
  refine ⟨δ', G', ?_⟩
  unfold qf_law_2 qi_law_2 Mi.mFor
  simp! [Mi.iRange1]
  exact e
theorem start_ok (K : Dk hd hc G) (hS : 6 ≤ s ∧ s ≤ 40) (hK : 4 ≤ k ∧ k ≤ 24) :
    ∃ (G1 G3 : Sto) (d : Di), m_Disk_mk [.ref G.length, .int s, .int k] (G ++ [.ins 0 []]) = some (.non, G1) ∧ d.h = G.length ∧ m_law_blank [szs s k] G1 = some (.ref d.hi, G3) ∧ St hd hc s k 0 d G3 := by
  have e1 := mk_ok s k G hS hK
  have D := dsk_mk s k G
  have lt := K.lt
  have S1 : Sm [] G (G ++ [.ins 0 (dfs s k (G.length + 1) (G.length + 2) (G.length + 3) .non), .lst (List.replicate (Many s k) d_BLANK), .lst [], .dct []]) := sm_app
  have l1 : (G ++ [.ins 0 (dfs s k (G.length + 1) (G.length + 2) (G.length + 3) .non), .lst (List.replicate (Many s k) d_BLANK), .lst [], .dct []] : Sto).length = G.length + 4 := by rw [List.length_append]; rfl
  generalize (G ++ [.ins 0 (dfs s k (G.length + 1) (G.length + 2) (G.length + 3) .non), .lst (List.replicate (Many s k) d_BLANK), .lst [], .dct []] : Sto) = G2 at e1 D S1 l1
  have K2 := K.disk S1
  have e2 := blank_ok s k G2 hS hK
  have S3 : Sm [] G2 (G2 ++ [.dct (itD s k (G2.length + 1) (.fls []) .non), .lst (List.replicate (Many s k) d_BLANK)]) := sm_app
  have g1 : (G2 ++ [MO.dct (itD s k (G2.length + 1) (.fls []) .non), .lst (List.replicate (Many s k) d_BLANK)])[G2.length]? = some (.dct (itD s k (G2.length + 1) (.fls []) .non)) := get0 _ _ _
  have g2 : (G2 ++ [MO.dct (itD s k (G2.length + 1) (.fls []) .non), .lst (List.replicate (Many s k) d_BLANK)])[G2.length + 1]? = some (.lst (List.replicate (Many s k) d_BLANK)) := by
    rw [List.getElem?_append_right (by omega)]
    simp
  generalize (G2 ++ [MO.dct (itD s k (G2.length + 1) (.fls []) .non), .lst (List.replicate (Many s k) d_BLANK)]) = G3 at e2 S3 g1 g2
  let d : Di := ⟨G.length, G.length + 1, G.length + 2, G.length + 3, G2.length, G2.length + 1, List.replicate (Many s k) d_BLANK, [], .non⟩
  have O : One s k 0 d G3 := by
    refine ⟨D.sm S3 (by simp) (by simp) (by simp) (by simp), g1, g2, ?_, by show G2.length ≠ G2.length + 1; omega, ?_, fun q hq => (by cases hq), by show (List.replicate (Many s k) d_BLANK).length = _; rw [List.length_replicate], Nat.le_refl _, .inl rfl⟩
    · intro x hx
      simp only [List.mem_cons, List.not_mem_nil, or_false, d] at hx ⊢
      omega
    · intro x hx
      rw [(List.mem_replicate.mp hx).2]
      exact blkd_blank
  refine ⟨G2, G3, d, e1, rfl, e2, O, fun x hx => ?_, K2.disk S3⟩
  simp only [hnds, List.mem_cons, List.not_mem_nil, or_false, d] at hx
  omega
end
theorem law_runs : ∀ ns : List Int, ns.length ≤ 63 → ∃ G', m_law [.scr ns] [] = some (.bl true, G') := fun ns h => by
  obtain ⟨hd, hc, G, e1, K⟩ := deck_ok ns h
  obtain ⟨s, k, G1, e2, hS, hK, c2⟩ := drawn_sizes K
  obtain ⟨G2, G3, d, e3, q1, e4, S⟩ := start_ok c2.d hS hK
  obtain ⟨δ', G', e5⟩ := gos_ok hS hK S (some (.scr ns)) none none none none none
  rw [q1] at e5
  have b0 : ∀ (x y z w : Dv) (G : Sto), Mi.bSubs (.tup [x, y, z, w]) (.int 0) G = some (x, G) := fun _ _ _ _ _ => rfl
  have b1 : ∀ (x y z w : Dv) (G : Sto), Mi.bSubs (.tup [x, y, z, w]) (.int 1) G = some (y, G) := fun _ _ _ _ _ => rfl
  refine ⟨G', ?_⟩
  unfold sl9 at e5
  simp! [m_law, b_law, e1, e2, Mi.mMake, b0, b1, e3, e4, e5]
end Lw

open PySem PySem.W PyProof.Rows
set_option maxRecDepth 100000 in
set_option maxHeartbeats 0 in
theorem PySem.Challenge.cw_trailkeep_k14_fuses_holds : PySem.Challenge.rw_trailkeep_k14_fuses.Holds := by
  w_on
  o_law
  k_head
  case hw => w_witness2
  k_fill
  refine Lw.walk (l := PySem.Challenge.rw_trailkeep_k14_fuses) rfl rfl (fun w h Y => by first | exact PySem.W.kIn_of Y | exact PySem.W.km_in_of Y) (by decide +kernel) ?F Lw.law_runs
  case F =>
    intro w mg fa h kin hns hmg L
    refine' Lw.all_mk rfl kin hns hmg L ?aC_Disk ?aC_PowerCut ?aC_BadBlock ?aC_BadPlace ?aC_BadCut ?aC_BadNumber ?aC_TrailError ?zb_LookupError ?zb_ValueError ?zb_all ?zb_bool ?zb_enumerate ?zb_int ?zb_isinstance ?zb_len ?zb_max ?zb_range ?zb_repr ?zb_tuple ?zb_zip ?zc_CONTENT ?zc_LEAST_BLOCKS ?zc_LEAST_SEGMENTS ?zc_MOST_BLOCKS ?zc_MOST_SEGMENTS ?zc_ROOT_WORDS ?zc_SPARE_SEGMENTS ?zc_WORDS ?xk_PowerCut ?xb_PowerCut ?xt_PowerCut ?xi_PowerCut ?xk_BadBlock ?xb_BadBlock ?xt_BadBlock ?xi_BadBlock ?xk_BadPlace ?xb_BadPlace ?xt_BadPlace ?xi_BadPlace ?xk_BadCut ?xb_BadCut ?xt_BadCut ?xi_BadCut ?xk_BadNumber ?xb_BadNumber ?xt_BadNumber ?xi_BadNumber ?xk_TrailError ?xb_TrailError ?xt_TrailError ?xi_TrailError ?xs_BadBlock_BadBlock ?xs_BadBlock_BadCut ?xs_BadBlock_BadNumber ?xs_BadBlock_BadPlace ?xs_BadBlock_PowerCut ?xs_BadBlock_TrailError ?xs_BadCut_BadBlock ?xs_BadCut_BadCut ?xs_BadCut_BadNumber ?xs_BadCut_BadPlace ?xs_BadCut_PowerCut ?xs_BadCut_TrailError ?xs_BadNumber_BadBlock ?xs_BadNumber_BadCut ?xs_BadNumber_BadNumber ?xs_BadNumber_BadPlace ?xs_BadNumber_PowerCut ?xs_BadNumber_TrailError ?xs_BadPlace_BadBlock ?xs_BadPlace_BadCut ?xs_BadPlace_BadNumber ?xs_BadPlace_BadPlace ?xs_BadPlace_PowerCut ?xs_BadPlace_TrailError ?xs_PowerCut_BadBlock ?xs_PowerCut_BadCut ?xs_PowerCut_BadNumber ?xs_PowerCut_BadPlace ?xs_PowerCut_PowerCut ?xs_PowerCut_TrailError ?xq_PowerCut ?ev_BadBlock ?va_BadBlock ?vi_BadBlock ?vt_BadBlock ?vl_BadBlock ?vc_BadBlock ?vk_BadBlock ?ev_BadCut ?va_BadCut ?vi_BadCut ?vt_BadCut ?vl_BadCut ?vc_BadCut ?vk_BadCut ?ev_BadNumber ?va_BadNumber ?vi_BadNumber ?vt_BadNumber ?vl_BadNumber ?vc_BadNumber ?vk_BadNumber ?ev_BadPlace ?va_BadPlace ?vi_BadPlace ?vt_BadPlace ?vl_BadPlace ?vc_BadPlace ?vk_BadPlace ?xu_BadBlock_LookupError ?xu_BadBlock_ValueError ?xu_BadCut_LookupError ?xu_BadCut_ValueError ?xu_BadNumber_LookupError ?xu_BadNumber_ValueError ?xu_BadPlace_LookupError ?xu_BadPlace_ValueError ?xu_PowerCut_LookupError ?xu_PowerCut_ValueError ?xi_get ?xi_take ?xh_BadBlock ?xj_BadBlock ?xd_BadBlock ?xca_BadBlock ?xmo_BadBlock ?xh_BadCut ?xj_BadCut ?xd_BadCut ?xca_BadCut ?xmo_BadCut ?xh_BadNumber ?xj_BadNumber ?xd_BadNumber ?xca_BadNumber ?xmo_BadNumber ?xh_BadPlace ?xj_BadPlace ?xd_BadPlace ?xca_BadPlace ?xmo_BadPlace ?xh_PowerCut ?xj_PowerCut ?xd_PowerCut ?xca_PowerCut ?xmo_PowerCut ?no_BadBlock_thing ?no_BadCut_thing ?no_BadNumber_thing ?no_BadPlace_thing ?pg_Disk ?hd_Disk ?po_Disk ?sa_Disk ?na_Disk_blocks ?na_Disk_k ?na_Disk_left ?na_Disk_n ?na_Disk_newest ?na_Disk_queue ?na_Disk_r ?na_Disk_s ?a0 ?l0 ?c0 ?k0 ?a1 ?l1 ?c1 ?k1 ?a2 ?l2 ?c2 ?k2 ?a3 ?l3 ?c3 ?k3 ?a4 ?l4 ?c4 ?k4 ?a5 ?i5 ?l5 ?c5 ?k5 ?mk_Disk ?kc_Disk ?a6 ?l6 ?c6 ?k6 ?a7 ?i7 ?l7 ?c7 ?k7 ?a8 ?i8 ?l8 ?c8 ?k8 ?a9 ?i9 ?l9 ?c9 ?k9 ?a10 ?i10 ?l10 ?c10 ?k10 ?a11 ?i11 ?l11 ?c11 ?k11 ?a12 ?i12 ?l12 ?c12 ?k12 ?a13 ?i13 ?l13 ?c13 ?k13 ?a14 ?l14 ?c14 ?k14 ?a15 ?l15 ?c15 ?k15 ?a16 ?l16 ?c16 ?k16 ?a17 ?l17 ?c17 ?k17 ?a18 ?l18 ?c18 ?k18 ?a19 ?l19 ?c19 ?k19 ?a20 ?l20 ?c20 ?k20 ?a21 ?i21 ?l21 ?c21 ?k21 ?a22 ?i22 ?l22 ?c22 ?k22 ?a23 ?l23 ?c23 ?k23 ?a24 ?l24 ?c24 ?k24 ?a25 ?l25 ?c25 ?k25 ?a26 ?i26 ?l26 ?c26 ?k26 ?a27 ?l27 ?c27 ?k27 ?a28 ?l28 ?c28 ?k28 ?a29 ?l29 ?c29 ?k29 ?ht_0 ?hn_0 ?a30 ?l30 ?c30 ?k30 ?a31 ?l31 ?c31 ?k31 ?a32 ?l32 ?c32 ?k32 ?a33 ?l33 ?c33 ?k33 ?a34 ?l34 ?c34 ?k34 ?ht_1 ?hn_1 ?a35 ?l35 ?c35 ?k35 ?a36 ?l36 ?c36 ?k36 ?tn_
    (case aC_Disk => k_is); (case aC_PowerCut => k_is); (case aC_BadBlock => k_is); (case aC_BadPlace => k_is); (case aC_BadCut => k_is); (case aC_BadNumber => k_is)
    (case aC_TrailError => k_is); (case zb_LookupError => k_is); (case zb_ValueError => k_is); (case zb_all => k_is); (case zb_bool => k_is); (case zb_enumerate => k_is)
    (case zb_int => k_is); (case zb_isinstance => k_is); (case zb_len => k_is); (case zb_max => k_is); (case zb_range => k_is); (case zb_repr => k_is)
    (case zb_tuple => k_is); (case zb_zip => k_is); (case zc_CONTENT => k_is); (case zc_LEAST_BLOCKS => k_is); (case zc_LEAST_SEGMENTS => k_is); (case zc_MOST_BLOCKS => k_is)
    (case zc_MOST_SEGMENTS => k_is); (case zc_ROOT_WORDS => k_is); (case zc_SPARE_SEGMENTS => k_is); (case zc_WORDS => k_is); (case xk_PowerCut => k_is); (case xb_PowerCut => k_is)
    (case xt_PowerCut => k_is); (case xi_PowerCut => k_is); (case xk_BadBlock => k_is); (case xb_BadBlock => k_is); (case xt_BadBlock => k_is); (case xi_BadBlock => k_is)
    (case xk_BadPlace => k_is); (case xb_BadPlace => k_is); (case xt_BadPlace => k_is); (case xi_BadPlace => k_is); (case xk_BadCut => k_is); (case xb_BadCut => k_is)
    (case xt_BadCut => k_is); (case xi_BadCut => k_is); (case xk_BadNumber => k_is); (case xb_BadNumber => k_is); (case xt_BadNumber => k_is); (case xi_BadNumber => k_is)
    (case xk_TrailError => k_is); (case xb_TrailError => k_is); (case xt_TrailError => k_is); (case xi_TrailError => k_is); (case xs_BadBlock_BadBlock => first | rfl | k_is); (case xs_BadBlock_BadCut => first | rfl | k_is)
    (case xs_BadBlock_BadNumber => first | rfl | k_is); (case xs_BadBlock_BadPlace => first | rfl | k_is); (case xs_BadBlock_PowerCut => first | rfl | k_is); (case xs_BadBlock_TrailError => first | rfl | k_is); (case xs_BadCut_BadBlock => first | rfl | k_is); (case xs_BadCut_BadCut => first | rfl | k_is)
    (case xs_BadCut_BadNumber => first | rfl | k_is); (case xs_BadCut_BadPlace => first | rfl | k_is); (case xs_BadCut_PowerCut => first | rfl | k_is); (case xs_BadCut_TrailError => first | rfl | k_is); (case xs_BadNumber_BadBlock => first | rfl | k_is); (case xs_BadNumber_BadCut => first | rfl | k_is)
    (case xs_BadNumber_BadNumber => first | rfl | k_is); (case xs_BadNumber_BadPlace => first | rfl | k_is); (case xs_BadNumber_PowerCut => first | rfl | k_is); (case xs_BadNumber_TrailError => first | rfl | k_is); (case xs_BadPlace_BadBlock => first | rfl | k_is); (case xs_BadPlace_BadCut => first | rfl | k_is)
    (case xs_BadPlace_BadNumber => first | rfl | k_is); (case xs_BadPlace_BadPlace => first | rfl | k_is); (case xs_BadPlace_PowerCut => first | rfl | k_is); (case xs_BadPlace_TrailError => first | rfl | k_is); (case xs_PowerCut_BadBlock => first | rfl | k_is); (case xs_PowerCut_BadCut => first | rfl | k_is)
    (case xs_PowerCut_BadNumber => first | rfl | k_is); (case xs_PowerCut_BadPlace => first | rfl | k_is); (case xs_PowerCut_PowerCut => first | rfl | k_is); (case xs_PowerCut_TrailError => first | rfl | k_is); (case xq_PowerCut => k_exc); (case ev_BadBlock => k_is)
    (case va_BadBlock => k_is); (case vi_BadBlock => k_is); (case vt_BadBlock => k_is); (case vl_BadBlock => k_is); (case vc_BadBlock => k_is); (case vk_BadBlock => k_is)
    (case ev_BadCut => k_is); (case va_BadCut => k_is); (case vi_BadCut => k_is); (case vt_BadCut => k_is); (case vl_BadCut => k_is); (case vc_BadCut => k_is)
    (case vk_BadCut => k_is); (case ev_BadNumber => k_is); (case va_BadNumber => k_is); (case vi_BadNumber => k_is); (case vt_BadNumber => k_is); (case vl_BadNumber => k_is)
    (case vc_BadNumber => k_is); (case vk_BadNumber => k_is); (case ev_BadPlace => k_is); (case va_BadPlace => k_is); (case vi_BadPlace => k_is); (case vt_BadPlace => k_is)
    (case vl_BadPlace => k_is); (case vc_BadPlace => k_is); (case vk_BadPlace => k_is); (case xu_BadBlock_LookupError => k_is); (case xu_BadBlock_ValueError => k_is); (case xu_BadCut_LookupError => k_is)
    (case xu_BadCut_ValueError => k_is); (case xu_BadNumber_LookupError => k_is); (case xu_BadNumber_ValueError => k_is); (case xu_BadPlace_LookupError => k_is); (case xu_BadPlace_ValueError => k_is); (case xu_PowerCut_LookupError => k_is)
    (case xu_PowerCut_ValueError => k_is); (case xi_get => k_is); (case xi_take => k_is); (case xh_BadBlock => k_is); (case xj_BadBlock => k_is); (case xd_BadBlock => k_is)
    (case xca_BadBlock => k_is); (case xmo_BadBlock => k_is); (case xh_BadCut => k_is); (case xj_BadCut => k_is); (case xd_BadCut => k_is); (case xca_BadCut => k_is)
    (case xmo_BadCut => k_is); (case xh_BadNumber => k_is); (case xj_BadNumber => k_is); (case xd_BadNumber => k_is); (case xca_BadNumber => k_is); (case xmo_BadNumber => k_is)
    (case xh_BadPlace => k_is); (case xj_BadPlace => k_is); (case xd_BadPlace => k_is); (case xca_BadPlace => k_is); (case xmo_BadPlace => k_is); (case xh_PowerCut => k_is)
    (case xj_PowerCut => k_is); (case xd_PowerCut => k_is); (case xca_PowerCut => k_is); (case xmo_PowerCut => k_is); (case no_BadBlock_thing => k_is); (case no_BadCut_thing => k_is)
    (case no_BadNumber_thing => k_is); (case no_BadPlace_thing => k_is); (case pg_Disk => k_is); (case hd_Disk => k_is); (case po_Disk => k_is); (case sa_Disk => k_is)
    (case na_Disk_blocks => k_is); (case na_Disk_k => k_is); (case na_Disk_left => k_is); (case na_Disk_n => k_is); (case na_Disk_newest => k_is); (case na_Disk_queue => k_is)
    (case na_Disk_r => k_is); (case na_Disk_s => k_is); (case a0 => k_is); (case l0 => k_is); (case c0 => k_is); (case k0 => k_is)
    (case a1 => k_is); (case l1 => k_is); (case c1 => k_is); (case k1 => k_is); (case a2 => k_is); (case l2 => k_is)
    (case c2 => k_is); (case k2 => k_is); (case a3 => k_is); (case l3 => k_is); (case c3 => k_is); (case k3 => k_is)
    (case a4 => k_is); (case l4 => k_is); (case c4 => k_is); (case k4 => k_is); (case a5 => k_is); (case i5 => k_is)
    (case l5 => k_is); (case c5 => k_is); (case k5 => k_is); (case mk_Disk => k_is); (case kc_Disk => k_is); (case a6 => k_is)
    (case l6 => k_is); (case c6 => k_is); (case k6 => k_is); (case a7 => k_is); (case i7 => k_is); (case l7 => k_is)
    (case c7 => k_is); (case k7 => k_is); (case a8 => k_is); (case i8 => k_is); (case l8 => k_is); (case c8 => k_is)
    (case k8 => k_is); (case a9 => k_is); (case i9 => k_is); (case l9 => k_is); (case c9 => k_is); (case k9 => k_is)
    (case a10 => k_is); (case i10 => k_is); (case l10 => k_is); (case c10 => k_is); (case k10 => k_is); (case a11 => k_is)
    (case i11 => k_is); (case l11 => k_is); (case c11 => k_is); (case k11 => k_is); (case a12 => k_is); (case i12 => k_is)
    (case l12 => k_is); (case c12 => k_is); (case k12 => k_is); (case a13 => k_is); (case i13 => k_is); (case l13 => k_is)
    (case c13 => k_is); (case k13 => k_is); (case a14 => k_is); (case l14 => k_is); (case c14 => k_is); (case k14 => k_is)
    (case a15 => k_is); (case l15 => k_is); (case c15 => k_is); (case k15 => k_is); (case a16 => k_is); (case l16 => k_is)
    (case c16 => k_is); (case k16 => k_is); (case a17 => k_is); (case l17 => k_is); (case c17 => k_is); (case k17 => k_is)
    (case a18 => k_is); (case l18 => k_is); (case c18 => k_is); (case k18 => k_is); (case a19 => k_is); (case l19 => k_is)
    (case c19 => k_is); (case k19 => k_is); (case a20 => k_is); (case l20 => k_is); (case c20 => k_is); (case k20 => k_is)
    (case a21 => k_is); (case i21 => k_is); (case l21 => k_is); (case c21 => k_is); (case k21 => k_is); (case a22 => k_is)
    (case i22 => k_is); (case l22 => k_is); (case c22 => k_is); (case k22 => k_is); (case a23 => k_is); (case l23 => k_is)
    (case c23 => k_is); (case k23 => k_is); (case a24 => k_is); (case l24 => k_is); (case c24 => k_is); (case k24 => k_is)
    (case a25 => k_is); (case l25 => k_is); (case c25 => k_is); (case k25 => k_is); (case a26 => k_is); (case i26 => k_is)
    (case l26 => k_is); (case c26 => k_is); (case k26 => k_is); (case a27 => k_is); (case l27 => k_is); (case c27 => k_is)
    (case k27 => k_is); (case a28 => k_is); (case l28 => k_is); (case c28 => k_is); (case k28 => k_is); (case a29 => k_is)
    (case l29 => k_is); (case c29 => k_is); (case k29 => k_is); (case ht_0 => first | rfl | k_is); (case hn_0 => first | rfl | k_is); (case a30 => k_is)
    (case l30 => k_is); (case c30 => k_is); (case k30 => k_is); (case a31 => k_is); (case l31 => k_is); (case c31 => k_is)
    (case k31 => k_is); (case a32 => k_is); (case l32 => k_is); (case c32 => k_is); (case k32 => k_is); (case a33 => k_is)
    (case l33 => k_is); (case c33 => k_is); (case k33 => k_is); (case a34 => k_is); (case l34 => k_is); (case c34 => k_is)
    (case k34 => k_is); (case ht_1 => first | rfl | k_is); (case hn_1 => first | rfl | k_is); (case a35 => k_is); (case l35 => k_is); (case c35 => k_is)
    (case k35 => k_is); (case a36 => k_is); (case l36 => k_is); (case c36 => k_is); (case k36 => k_is); (case tn_ => decide)

