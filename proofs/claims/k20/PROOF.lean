import PyProof.Rows.All
import HandS.ForMost
import KE.KeyNested
import HandS.ForExc
import HandS.Flow
import HandS.TupAny
import HandS.Deep
import HandS.Wide
import HandS.WideBits
import HandS.Style
import PyProof.Rows.RuleB_pow
import HandS.IsInst
import HandS.ExcField
import HandS.ExcIs
import HandS.Defaults
import HandS.HeadEnd
import HandS.HeadHook4
import KE.SortData
import HandS.TupSets
import HandS.SortRule
import PyProof.ReprRoads
import HandS.Ends
import HandS.Head0
import HandS.Head1
import HandS.Head2
import KE.KStateDown
import HandS.Codes
import PyProof.InstNe
import HandS.DictTup
import HandS.Iter
import KE.KDictItemsList
import KE.KDictWalk
import HandS.Conv
import KE.KExcSuper
import HandS.ExcInit
import HandS.ExcValue
import HandS.Dict
import HandS.More
import HandS.TupLen
import PyProof.Rows.TupTab
import HandS.DictComp
import HandS.Text
import HandS.RaiseMore
import KE.SortCalls
import HandS.TryOnly
import HandS.ExcOwn
import PyProof.EqKinds
import PyProof.StrLawsRepr
import PyProof.ReprBulk
import PyProof.ReprText
import PyProof.Rows.ReprOcc
import PyProof.Rows.SortStr
import PyProof.Rows.StrMeet
import PyProof.StrBlockL
import PySem.Challenge.RW_fallingcalls_k20_tables_told
set_option Elab.async false
set_option linter.all false
set_option maxRecDepth 100000
set_option maxHeartbeats 4000000
namespace Fc
open PySem
inductive D where
  | non | bl (b : Bool) | int (i : Int) | str (x : Str) | tup (ds : List D) | rol (ds : List D) | ref (n : Nat)
/-- what stands in the store (the script, read only, is a value, D.rol): a list, a dict with plain keys, one with tuples of plain keys, an instance, a caught error, a locked dict -/
inductive O where
  | lst (ds : List D) | dK (kvs : List (L2.Key × D)) | dT (kvs : List (List L2.Key × D))
  /-- a dict whose keys are tuples of any depth -/
  | dN (kvs : List (D × D))
  | ins (c : Str) (fs : List (Str × D)) | err (c : Str) (fs : List (Str × D)) | lck (o : O)
abbrev S := List O
inductive Res (a : Type) where
  | ok (x : a) (s : S) | exc (c : Str) (fs : List (Str × D)) (s : S)
abbrev M (a : Type) := S → Option (Res a)
def ret {a : Type} (x : a) : M a := fun s => some (.ok x s)
def stuck {a : Type} : M a := fun _ => none
def bnd {a b : Type} (m : M a) (k : a → M b) : M b := fun s => match m s with
  | none => none
  | some (.ok x s') => k x s'
  | some (.exc c fs s') => some (.exc c fs s')
abbrev Env := List (Option D)
abbrev E := Env → M D
abbrev T := Env → M Bool
abbrev EL := Env → M (List D)
def unl : O → O
  | .lck o => o
  | o => o
def rd (s : S) (n : Nat) : Option O := (s[n]?).map unl
def new (o : O) : M D := fun s => some (.ok (.ref s.length) (s ++ [o]))
def lstAt (s : S) (n : Nat) : Option (List D) := match s[n]? with
  | some (.lst ds) => some ds
  | _ => none
def mutO (n : Nat) (f : O → Option (O × D)) : M D := fun s => match s[n]? with
  | some o => match f o with
    | some (o', d) => some (.ok d (s.set n o'))
    | none => none
  | none => none
def keyOf : D → Option L2.Key
  | .int i => some (.inl i)
  | .str x => some (.inr x)
  | _ => none
def keysOf : List D → Option (List L2.Key)
  | [] => some []
  | d :: r => match keyOf d, keysOf r with
    | some k, some ks => some (k :: ks)
    | _, _ => none
def dOf : L2.Key → D
  | .inl i => .int i
  | .inr x => .str x
mutual
/-- a key of any depth -/
def nkey : D → Option NestedKey
  | .non => some .none
  | .bl b => some (.num (if b = true then 1 else 0))
  | .int i => some (.num i)
  | .str x => some (.text x)
  | .tup ds => (nkeys ds).map .tup
  | .rol _ => none
  | .ref _ => none
def nkeys : List D → Option (List NestedKey)
  | [] => some []
  | d :: r => match nkey d, nkeys r with
    | some k, some ks => some (k :: ks)
    | _, _ => none
end
/-- a tuple that is a key -/
def nkT (d : D) : Option NestedKey := match d with
  | .tup ds => match nkeys ds with
    | some ks => if (NestedKey.tup ks).depth ≤ 8 then some (.tup ks) else none
    | none => none
  | _ => none
variable {κ : Type} [DecidableEq κ]
def kget (kvs : List (κ × D)) (k : κ) : Option D := (kvs.find? fun kv => decide (kv.1 = k)).map (·.2)
def kput (kvs : List (κ × D)) (k : κ) (v : D) : List (κ × D) :=
  if (kvs.any fun kv => decide (kv.1 = k)) = true then kvs.map fun kv => if kv.1 = k then (kv.1, v) else kv else kvs ++ [(k, v)]
/-- what a dict holds at a key: none where it's no dict or no key -/
def dget (o : O) (k : D) : Option (Option D) := match o with
  | .dK kvs => (keyOf k).map fun k => kget kvs k
  | .dT kvs => match k with
    | .tup ds => (keysOf ds).map fun ks => kget kvs ks
    | _ => none
  | _ => none
def dput (o : O) (k v : D) : Option O := match o with
  | .dK kvs => if kvs.length < 16777216 then (keyOf k).map fun k => .dK (kput kvs k v) else none
  | .dT kvs => if kvs.length < 16777216 then match k with
    | .tup ds => (keysOf ds).map fun ks => .dT (kput kvs ks v)
    | _ => none else none
  | _ => none
def sz (n : Nat) : Bool := decide (n ≤ 16777216)
def truth (s : S) : D → Option Bool
  | .non => some false
  | .bl b => some b
  | .int i => some (i != 0)
  | .str x => if sz x.length then some (((x.length : Nat) : Int) != 0) else none
  | .tup ds => some (!ds.isEmpty)
  | .rol ds => some (!ds.isEmpty)
  | .ref n => match s[n]? with
    | some (.lst ds) => some (!ds.isEmpty)
    | some (.dK kvs) => some (!kvs.isEmpty)
    | _ => none
mutual
/-- lists read out, to depth n -/
def dat (s : S) : Nat → D → Option PyData
  | _, .non => some .none
  | _, .bl b => some (.bool b)
  | _, .int i => some (.int i)
  | _, .str x => some (.str x)
  | 0, .tup _ => none
  | 0, .ref _ => none
  | _, .rol _ => none
  | n + 1, .tup ds => (dats s n ds).map .tuple
  | n + 1, .ref a => match lstAt s a with
    | some ds => (dats s n ds).map .list
    | none => none
def dats (s : S) : Nat → List D → Option (List PyData)
  | _, [] => some []
  | n, d :: r => match dat s n d, dats s n r with
    | some x, some xs => some (x :: xs)
    | _, _ => none
end
def allT (f : D → D → Option Bool) : List D → List D → Bool
  | [], [] => true
  | a :: as, b :: bs => f a b == some true && allT f as bs
  | _, _ => false
/-- == of two items: the same thing, or data, or lists and tuples of such -/
def eqZ (s : S) : Nat → D → D → Option Bool
  | 0, _, _ => none
  | n + 1, a, b => match dat s 60 a, dat s 60 b with
    | some x, some y => if SeqAt.shaped x && SeqAt.shaped y then some (PyData.eqv x y) else none
    | _, _ => match a, b with
      | .ref i, .ref j => if i = j then some true else match lstAt s i, lstAt s j with
        | some ds, some es => if ds.length = es.length then (if allT (eqZ s n) ds es then some true else none) else some false
        | _, _ => none
      | .tup ds, .tup es => if allT (eqZ s n) ds es then some true else none
      | _, _ => none
def eqT (s : S) (a b : D) : Option Bool := match a, b with
  | .ref i, .ref j => match lstAt s i, lstAt s j with
    | some ds, some es => if ds.length = es.length then (if allT (eqZ s 8) ds es then some true else none) else some false
    | _, _ => none
  | _, _ => none
/-- == of data: none where it is not known -/
def eqD (s : S) (a b : D) : Option Bool := match dat s 60 a, dat s 60 b with
  | some x, some y => if SeqAt.shaped x && SeqAt.shaped y then some (PyData.eqv x y) else none
  | _, _ => eqT s a b
def eVar (i : Nat) : E := fun σ s => match σ[i]? with
  | some (some d) => some (.ok d s)
  | _ => none
def eC (d : D) : E := fun _ s => some (.ok d s)
def e1 (f : D → M D) (a : E) : E := fun σ => bnd (a σ) f
def e2 (f : D → D → M D) (a b : E) : E := fun σ => bnd (a σ) fun x => bnd (b σ) fun y => f x y
def lNil : EL := fun _ => ret []
def lCons (a : E) (r : EL) : EL := fun σ => bnd (a σ) fun x => bnd (r σ) fun xs => ret (x :: xs)
def eN (f : List D → M D) (es : EL) : E := fun σ => bnd (es σ) f
def isLst (s : S) (x : D) : Bool := match x with
  | .ref n => match s[n]? with
    | some (.lst _) => true
    | _ => false
  | _ => false
/-- o.m(es), o a list: the receiver first -/
def eM (f : D → List D → M D) (o : E) (es : EL) : E := fun σ => bnd (o σ) fun x => fun s => if isLst s x then bnd (es σ) (fun xs => f x xs) s else none
def eIf (t : T) (a b : E) : E := fun σ => bnd (t σ) fun c => if c then a σ else b σ
def eOr (a b : E) : E := fun σ => bnd (a σ) fun x => fun s => match truth s x with
  | some true => some (.ok x s)
  | some false => b σ s
  | none => none
def eAnd (a b : E) : E := fun σ => bnd (a σ) fun x => fun s => match truth s x with
  | some true => b σ s
  | some false => some (.ok x s)
  | none => none
/-- tests -/
def tE (a : E) : T := fun σ => bnd (a σ) fun x => fun s => match truth s x with
  | some c => some (.ok c s)
  | none => none
/-- a test that is a comparison -/
def tB (a : E) : T := fun σ => bnd (a σ) fun x => match x with
  | .bl c => ret c
  | _ => stuck
def tNot (t : T) : T := fun σ => bnd (t σ) fun c => ret (!c)
def tAnd (t u : T) : T := fun σ => bnd (t σ) fun c => if c then u σ else ret false
def eNotT (t : T) : E := fun σ => bnd (t σ) fun c => ret (.bl (!c))
def tOr (t u : T) : T := fun σ => bnd (t σ) fun c => if c then ret true else u σ
def pur2 (f : S → D → D → Option D) : D → D → M D := fun x y s => (f s x y).map fun d => .ok d s
/-- intsD below 2 ^ 1000000 -/
def bits (i : Int) : Nat := i.natAbs.log2
def oAdd : D → D → M D := fun x y s => match x, y with
  | .int i, .int j => some (.ok (.int (i + j)) s)
  | .str a, .str b => if sz (a.length + b.length) then some (.ok (.str (a ++ b)) s) else none
  | .tup a, .tup b => if sz (a.length + b.length) then some (.ok (.tup (a ++ b)) s) else none
  | .ref m, .ref n => match s[m]?, s[n]? with
    | some (.lst a), some (.lst b) => if sz (a.length + b.length) then new (.lst (a ++ b)) s else none
    | _, _ => none
  | _, _ => none
def oSub : D → D → M D := pur2 fun _ x y => match x, y with
  | .int i, .int j => some (.int (i - j))
  | _, _ => none
def oMul : D → D → M D := fun x y s => match x, y with
  | .int i, .int j => if bits i + bits j < 900000 then some (.ok (.int (i * j)) s) else none
  | .ref m, .int k => match s[m]? with
    | some (.lst a) => if decide (-1000000 < k) && decide (k < 1000000) && sz (a.length * k.toNat) then new (.lst (List.replicate k.toNat a).flatten) s else none
    | _ => none
  | _, _ => none
def oMod : D → D → M D := pur2 fun _ x y => match x, y with
  | .int i, .int j => if 0 < j then some (.int (i % j)) else none
  | _, _ => none
def oDiv : D → D → M D := pur2 fun _ x y => match x, y with
  | .int i, .int j => if 0 < j && bits j < 8000 then some (.int (i / j)) else none
  | _, _ => none
def oPow : D → D → M D := pur2 fun _ x y => match x, y with
  | .int i, .int j => if 0 ≤ j && (bits i + 1) * j.toNat ≤ 100000 then some (.int (i ^ j.toNat)) else none
  | _, _ => none
def oNeg : D → M D := fun x s => match x with
  | .int i => some (.ok (.int (-i)) s)
  | _ => none
def cmpI (f : Int → Int → Bool) : D → D → M D := pur2 fun _ x y => match x, y with
  | .int i, .int j => some (.bl (f i j))
  | _, _ => none
def oLt := cmpI fun i j => decide (i < j)
def oLe := cmpI fun i j => decide (i ≤ j)
def oGt := cmpI fun i j => decide (j < i)
def oGe := cmpI fun i j => decide (j ≤ i)
def oEq : D → D → M D := pur2 fun s x y => (eqD s x y).map .bl
def oNe : D → D → M D := pur2 fun s x y => (eqD s x y).map fun b => .bl (!b)
/-- a < b <= c -/
def eChain (f g : D → D → M D) (a b c : E) : E := fun σ => bnd (a σ) fun x => bnd (b σ) fun y => bnd (f x y) fun r => match r with
  | .bl true => bnd (c σ) fun z => g y z
  | .bl false => ret (.bl false)
  | _ => stuck
def oIsN : D → M D := fun x s => some (.ok (.bl (match x with | .non => true | _ => false)) s)
def oNotN : D → M D := fun x s => some (.ok (.bl (match x with | .non => false | _ => true)) s)
def flat : D → Bool
  | .non => true
  | .bl _ => true
  | .int _ => true
  | .str _ => true
  | _ => false
def vOf : D → L2.V
  | .bl b => .bl b
  | .int i => .int i
  | .str x => .str x
  | _ => .non
def isIn (s : S) (x y : D) : Option Bool := match y with
  | .str b => match x with
    | .str a => some (!(Builtin.Str.occurrences b a 0 b.length 1).isEmpty)
    | _ => none
  | .tup ds => if flat x && ds.all flat then some (ds.any fun d => L2.eqV (vOf d) (vOf x)) else none
  | .ref n => match s[n]? with
    | some (.lst ds) => match dat s 60 x, dats s 60 ds with
      | some d, some es => if SeqAt.shaped d && SeqAt.shaped (.list es) then some (es.any fun z => PyData.eqv z d) else none
      | _, _ => none
    | some o => (dget (unl o) x).map (·.isSome)
    | none => none
  | _ => none
def oIn : D → D → M D := pur2 fun s x y => (isIn s x y).map .bl
def oNotIn : D → D → M D := pur2 fun s x y => (isIn s x y).map fun b => .bl (!b)
/-- a[i] -/
def atD (s : S) (x y : D) : Option D := match x with
  | .tup ds => match y with
    | .int i => L2.atI ds i
    | _ => none
  | .rol ds => match y with
    | .int i => L2.atI ds i
    | _ => none
  | .str z => match y with
    | .int i => if sz z.length then (L2.atI z.cps.toList i).map fun c => .str ⟨#[c]⟩ else none
    | _ => none
  | .ref n => match s[n]? with
    | some (.lst ds) => match y with
      | .int i => L2.atI ds i
      | _ => none
    | some o => (dget (unl o) y).bind id
    | none => none
  | _ => none
def oAt : D → D → M D := pur2 atD
def cutL {a : Type} (xs : List a) (lo hi : Option Int) : List a := (xs.drop (HT.sIx xs.length 0 lo)).take (HT.sIx xs.length xs.length hi - HT.sIx xs.length 0 lo)
def oCut (x : D) (lo hi : Option Int) : M D := fun s => match x with
  | .tup ds => some (.ok (.tup (cutL ds lo hi)) s)
  | .str z => if sz z.length then some (.ok (.str (L2.cutS z lo hi)) s) else none
  | .ref n => match s[n]? with
    | some (.lst ds) => new (.lst (cutL ds lo hi)) s
    | _ => none
  | _ => none
/-- a part of a slice: left out, or an int -/
abbrev EO := Env → M (Option Int)
def pNo : EO := fun _ => ret none
def pYes (a : E) : EO := fun σ => bnd (a σ) fun x => match x with
  | .int i => ret (some i)
  | _ => stuck
def eCut (a : E) (lo hi : EO) : E := fun σ => bnd (a σ) fun x => bnd (lo σ) fun l => bnd (hi σ) fun h => oCut x l h
def mTup (ds : List D) : M D := if sz ds.length then ret (.tup ds) else stuck
def mLst (ds : List D) : M D := if sz ds.length then new (.lst ds) else stuck
def mDK : M D := new (.dK [])
def mDT : M D := new (.dT [])
def lenD (s : S) : D → Option Nat
  | .str x => if sz x.length then some x.length else none
  | .tup ds => some ds.length
  | .rol ds => some ds.length
  | .ref n => match s[n]? with
    | some (.lst ds) => some ds.length
    | some o => match unl o with
      | .dK kvs => some kvs.length
      | _ => none
    | none => none
  | _ => none
def fLen : List D → M D := fun xs s => match xs with
  | [x] => (lenD s x).map fun n => .ok (.int n) s
  | _ => none
def fInt : List D → M D := fun xs s => match xs with
  | [.int i] => some (.ok (.int i) s)
  | [.bl b] => some (.ok (.int (if b then 1 else 0)) s)
  | _ => none
def intsD : List D → Option (List Int)
  | [] => some []
  | .int i :: r => (intsD r).map (i :: ·)
  | _ :: _ => none
def maxI : Int → List Int → Int
  | a, [] => a
  | a, b :: r => maxI (if b > a then b else a) r
def minI : Int → List Int → Int
  | a, [] => a
  | a, b :: r => minI (if b < a then b else a) r
def mm (f : Int → List Int → Int) : List D → M D := fun xs s => match xs with
  | [.ref n] => match lstAt s n with
    | some ds => match intsD ds with
      | some (a :: r) => some (.ok (.int (f a r)) s)
      | _ => none
    | none => none
  | [.int i, .int j] => some (.ok (.int (f i [j])) s)
  | _ => none
def fMax := mm maxI
def fMin := mm minI
def fList : List D → M D := fun xs s => match xs with
  | [.tup ds] => new (.lst ds) s
  | [.ref n] => match s[n]? with
    | some (.lst ds) => new (.lst ds) s
    | some (.dK kvs) => new (.lst (kvs.map fun kv => dOf kv.1)) s
    | _ => none
  | _ => none
def fTuple : List D → M D := fun xs s => match xs with
  | [.tup ds] => some (.ok (.tup ds) s)
  | [.ref n] => match s[n]? with
    | some (.lst ds) => some (.ok (.tup ds) s)
    | _ => none
  | _ => none
/-- isinstance(x, T) of a built-in T: is the kind of x one of those that T takes -/
inductive Ty where
  | int | bool | str | tuple | list | dict
def isTy (s : S) (x : D) (t : Ty) : Option Bool := match x with
  | .non => some false
  | .bl _ => some (match t with | .int => true | .bool => true | _ => false)
  | .int _ => some (match t with | .int => true | _ => false)
  | .str _ => some (match t with | .str => true | _ => false)
  | .tup _ => some (match t with | .tuple => true | _ => false)
  | .rol _ => none
  | .ref n => (s[n]?).bind fun o => match o with
    | .lst _ => some (match t with | .list => true | _ => false)
    | .dK _ => some (match t with | .dict => true | _ => false)
    | .dT _ => some (match t with | .dict => true | _ => false)
    | .dN _ => none
    | .ins _ _ => none
    | .err _ _ => none
    | .lck _ => none
def oIs (t : Ty) : D → M D := fun x s => (isTy s x t).map fun b => .ok (.bl b) s
def oBitLen : D → M D := fun x s => match x with
  | .int i => some (.ok (.int (Builtin.Int.intBits i : Nat)) s)
  | _ => none
def mAppend : D → List D → M D := fun x xs s => match x, xs with
  | .ref n, [y] => mutO n (fun o => match o with
    | .lst ds => if ds.length < 16777216 then some (.lst (ds ++ [y]), .non) else none
    | _ => none) s
  | _, _ => none
def mPop : D → List D → M D := fun x xs s => match x, xs with
  | .ref n, [] => mutO n (fun o => match o with
    | .lst ds => (ds[ds.length - 1]?).map fun y => (.lst ds.dropLast, y)
    | _ => none) s
  | _, _ => none
def isDict (s : S) (x : D) : Bool := match x with
  | .ref n => match rd s n with
    | some (.dK _) => true
    | some (.dT _) => true
    | _ => false
  | _ => false
def dgetAt (s : S) (x k : D) : Option (Option D) := match x with
  | .ref n => (rd s n).bind fun o => dget o k
  | _ => none
/-- d.get(k, z) -/
def eGet2 (d k z : E) : E := fun σ => bnd (d σ) fun x => fun s => if isDict s x then bnd (k σ) (fun y => bnd (z σ) fun w => fun s => (dgetAt s x y).map fun o => .ok (o.getD w) s) s else none
def oFld (f : Str) : D → M D := fun x s => match x with
  | .ref n => match s[n]? with
    | some (.ins _ fs) => (fs.lookup f).map fun d => .ok d s
    | some (.err _ fs) => (fs.lookup f).map fun d => .ok d s
    | _ => none
  | _ => none
def fput (f : Str) (v : D) : List (Str × D) → List (Str × D)
  | [] => [(f, v)]
  | (g, x) :: r => if g = f then (g, v) :: r else (g, x) :: fput f v r
inductive R where
  | nx (σ : Env) (s : S) | rt (d : D) (s : S) | bk (σ : Env) (s : S) | ct (σ : Env) (s : S) | xc (c : Str) (fs : List (Str × D)) (σ : Env) (s : S)
abbrev C := Env → S → Option R
def ex {a : Type} (σ : Env) (r : Option (Res a)) (k : a → S → Option R) : Option R := match r with
  | none => none
  | some (.ok x s) => k x s
  | some (.exc c fs s) => some (.xc c fs σ s)
def cNil : C := fun σ s => some (.nx σ s)
def cSeq (a b : C) : C := fun σ s => match a σ s with
  | some (.nx σ' s') => b σ' s'
  | r => r
def cExpr (e : E) : C := fun σ s => ex σ (e σ s) fun _ s' => some (.nx σ s')
def cRet (e : E) : C := fun σ s => ex σ (e σ s) fun d s' => some (.rt d s')
def cBrk : C := fun σ s => some (.bk σ s)
def cCnt : C := fun σ s => some (.ct σ s)
def cIf (t : T) (a b : C) : C := fun σ s => ex σ (t σ s) fun c s' => if c then a σ s' else b σ s'
/-- targets -/
abbrev G := D → Env → S → Option Env
def gName (i : Nat) : G := fun d σ _ => some (σ.set i (some d))
abbrev GL := List D → Env → S → Option Env
def gNil : GL := fun ds σ _ => match ds with
  | [] => some σ
  | _ => none
def gCons (g : G) (r : GL) : GL := fun ds σ s => match ds with
  | d :: ds => (g d σ s).bind fun σ' => r ds σ' s
  | [] => none
def gTup (k : Nat) (r : GL) : G := fun d σ s => match d with
  | .tup ds => if ds.length = k then r ds σ s else none
  | .ref n => match s[n]? with
    | some (.lst ds) => if ds.length = k then r ds σ s else none
    | _ => none
  | _ => none
def cSet (e : E) (g : G) : C := fun σ s => ex σ (e σ s) fun d s' => (g d σ s').map fun σ' => .nx σ' s'
/-- a, b = e1, e2 with two plain names, both sides reckoned first -/
def cPar (i j : Nat) (es : EL) : C := fun σ s => ex σ (es σ s) fun ds s' => match ds with
  | [x, y] => some (.nx ((σ.set i (some x)).set j (some y)) s')
  | _ => none
def cAug (i : Nat) (f : D → D → M D) (e : E) : C := fun σ s => match σ[i]? with
  | some (some x) => ex σ (e σ s) fun y s' => ex σ (f x y s') fun z s2 => some (.nx (σ.set i (some z)) s2)
  | _ => none
def cSub (o i e : E) : C := fun σ s => ex σ (e σ s) fun v s1 => ex σ (o σ s1) fun x s2 => ex σ (i σ s2) fun y s3 => match x with
  | .ref n => match s3[n]? with
    | some (.lst ds) => match y with
      | .int k => (L2.ixN ds.length k).map fun j => .nx σ (s3.set n (.lst (ds.set j v)))
      | _ => none
    | some ob => (dput ob y v).map fun o' => .nx σ (s3.set n o')
    | none => none
  | _ => none
def cFld (f : Str) (o e : E) : C := fun σ s => ex σ (e σ s) fun v s1 => ex σ (o σ s1) fun x s2 => match x with
  | .ref n => match s2[n]? with
    | some (.ins c fs) => if fs.length < 900 then some (.nx σ (s2.set n (.ins c (fput f v fs)))) else none
    | _ => none
  | _ => none
/-- k turns are left, the next one is the i-th of the list at n, whose length stays -/
def forL (n : Nat) (g : G) (b : C) : Nat → Nat → Env → S → Option R
  | 0, i, σ, s => match lstAt s n with
    | some ds => if ds.length = i then some (.nx σ s) else none
    | none => none
  | k + 1, i, σ, s => match lstAt s n with
    | some ds => if ds.length = i + (k + 1) then match ds[i]? with
        | some d => match g d σ s with
          | some σ1 => match b σ1 s with
            | some (.nx σ2 s2) => forL n g b k (i + 1) σ2 s2
            | some (.ct σ2 s2) => forL n g b k (i + 1) σ2 s2
            | some (.bk σ2 s2) => some (.nx σ2 s2)
            | r => r
          | none => none
        | none => none
      else none
    | none => none
def forV (g : G) (b : C) : List D → Env → S → Option R
  | [], σ, s => some (.nx σ s)
  | d :: r, σ, s => match g d σ s with
    | some σ1 => match b σ1 s with
      | some (.nx σ2 s2) => forV g b r σ2 s2
      | some (.ct σ2 s2) => forV g b r σ2 s2
      | some (.bk σ2 s2) => some (.nx σ2 s2)
      | x => x
    | none => none
def setBack (n : Nat) (o : O) : Option R → Option R
  | some (.nx σ s) => some (.nx σ (s.set n o))
  | some (.rt d s) => some (.rt d (s.set n o))
  | some (.bk σ s) => some (.bk σ (s.set n o))
  | some (.ct σ s) => some (.ct σ (s.set n o))
  | some (.xc c fs σ s) => some (.xc c fs σ s)
  | none => none
/-- sources: how a thing is walked -/
inductive Src where
  | seq | keys | items | vals
def signs (x : Str) : List D := x.cps.toList.map fun c => .str ⟨#[c]⟩
def pairD (kv : L2.Key × D) : D := .tup [dOf kv.1, kv.2]
def dSrc (k : Src) (o : O) : Option (List D) := match k, o with
  | .keys, .dK kvs => some (kvs.map fun kv => dOf kv.1)
  | .keys, .dT _ => none
  | .seq, .dK kvs => some (kvs.map fun kv => dOf kv.1)
  | .seq, .dT kvs => some (kvs.map fun kv => .tup (kv.1.map dOf))
  | .items, .dK kvs => some (kvs.map pairD)
  | .vals, .dK kvs => some (kvs.map (·.2))
  | _, _ => none
/-- what is walked: values; the list at n of k items, as it stands; the dict at n, locked meanwhile -/
inductive SK where
  | vals (ds : List D) | list (n k : Nat) | dict (n : Nat) (ds : List D)
abbrev SrcE := Env → M SK
def srcOf (k : Src) (x : D) (s : S) : Option SK := match x with
  | .tup ds => match k with
    | .seq => some (.vals ds)
    | _ => none
  | .str z => match k with
    | .seq => some (.vals (signs z))
    | _ => none
  | .ref n => match s[n]? with
    | some (.lst ds) => match k with
      | .seq => some (.list n ds.length)
      | _ => none
    | some o => (dSrc k (unl o)).map (.dict n)
    | none => none
  | _ => none
def iSrc (k : Src) (e : E) : SrcE := fun σ => bnd (e σ) fun x s => (srcOf k x s).map fun sk => .ok sk s
def rangeL (a b : Int) : List D := (List.range (b - a).toNat).map fun (i : Nat) => .int (a + (i : Int))
def small (i : Int) : Bool := decide (-(2 ^ 62) ≤ i) && decide (i < 2 ^ 62)
def iRange (a b : E) : SrcE := fun σ => bnd (a σ) fun x => bnd (b σ) fun y s => match x, y with
  | .int i, .int j => if small i && small j then some (.ok (.vals (rangeL i j)) s) else none
  | _, _ => none
def lockV (n : Nat) (s : S) (f : S → Option R) : Option R := match s[n]? with
  | some (.lck o) => f s
  | some o => setBack n o (f (s.set n (.lck o)))
  | none => none
def cFor (src : SrcE) (g : G) (b : C) : C := fun σ s => ex σ (src σ s) fun sk s1 => match sk with
  | .vals ds => forV g b ds σ s1
  | .list n k => forL n g b k 0 σ s1
  | .dict n ds => lockV n s1 fun s2 => forV g b ds σ s2
/-- a while of at most n turns -/
def whileN (t : T) (b : C) : Nat → C
  | 0, _, _ => none
  | n + 1, σ, s => ex σ (t σ s) fun c s1 => if c then match b σ s1 with
      | some (.nx σ2 s2) => whileN t b n σ2 s2
      | some (.ct σ2 s2) => whileN t b n σ2 s2
      | some (.bk σ2 s2) => some (.nx σ2 s2)
      | r => r
    else some (.nx σ s1)
open Classical in
noncomputable def cWhile (t : T) (b : C) : C := fun σ s => if h : ∃ r, ∃ n, whileN t b n σ s = some r then some (choose h) else none
def wipe (σ : Env) : List Nat → Env
  | [] => σ
  | v :: vs => (wipe σ vs).set v none
def lcStep (D0 : Nat) (d : D) (s : S) : Option S := match s[D0]? with
  | some (.lst acc) => if acc.length < 16777216 then some (s.set D0 (.lst (acc ++ [d]))) else none
  | _ => none
def lcV (D0 : Nat) (vs : List Nat) (g : G) (t : T) (e : E) : List D → Env → S → Option S
  | [], _, s => some s
  | d :: r, σ, s => match g d (wipe σ vs) s with
    | some σ1 => match t σ1 s with
      | some (.ok true s1) => match e σ1 s1 with
        | some (.ok y s2) => (lcStep D0 y s2).bind fun s3 => lcV D0 vs g t e r σ s3
        | _ => none
      | some (.ok false s1) => lcV D0 vs g t e r σ s1
      | _ => none
    | none => none
def lcL (D0 n : Nat) (vs : List Nat) (g : G) (t : T) (e : E) : Nat → Nat → Env → S → Option S
  | 0, i, _, s => match lstAt s n with
    | some ds => if ds.length = i then some s else none
    | none => none
  | k + 1, i, σ, s => match lstAt s n with
    | some ds => if ds.length = i + (k + 1) then match ds[i]? with
        | some d => match g d (wipe σ vs) s with
          | some σ1 => match t σ1 s with
            | some (.ok true s1) => match e σ1 s1 with
              | some (.ok y s2) => (lcStep D0 y s2).bind fun s3 => lcL D0 n vs g t e k (i + 1) σ s3
              | _ => none
            | some (.ok false s1) => lcL D0 n vs g t e k (i + 1) σ s1
            | _ => none
          | none => none
        | none => none
      else none
    | none => none
def lcNew (s : S) (f : Nat → S → Option S) : Option (Res D) := (f s.length (s ++ [.lst []])).map fun s' => .ok (.ref s.length) s'
def lcDict (n : Nat) (s : S) (f : S → Option (Res D)) : Option (Res D) := match s[n]? with
  | some (.lck o) => f s
  | some o => match f (s.set n (.lck o)) with
    | some (.ok d s') => some (.ok d (s'.set n o))
    | r => r
  | none => none
def tYes : T := fun _ => ret true
def eLc (vs : List Nat) (src : SrcE) (g : G) (t : T) (e : E) : E := fun σ => bnd (src σ) fun sk s1 => match sk with
  | .vals ds => lcNew s1 fun D0 s2 => lcV D0 vs g t e ds σ s2
  | .list n k => lcNew s1 fun D0 s2 => lcL D0 n vs g t e k 0 σ s2
  | .dict n ds => lcDict n s1 fun s2 => lcNew s2 fun D0 s3 => lcV D0 vs g t e ds σ s3
abbrev F := List D → M D
/-- a def with np parameters and nn names in all -/
def defF (np nn : Nat) (b : C) : F := fun ds s => if ds.length = np then match b (ds.map some ++ List.replicate (nn - np) none) s with
  | some (.nx _ s') => some (.ok .non s')
  | some (.rt d s') => some (.ok d s')
  | some (.xc c fs _ s') => some (.exc c fs s')
  | _ => none else none
def eCall (f : F) (dfl : List D) (es : EL) : E := fun σ => bnd (es σ) fun ds => f (ds ++ dfl)
/-- raise C(v): the error's own field -/
def cRaise (c f : Str) (e : E) : C := fun σ s => ex σ (e σ s) fun v s' => some (.xc c [(f, v)] σ s')
def cTry (sub : List Str) (b u : C) : C := fun σ s => match b σ s with
  | some (.xc c fs σ1 s1) => if sub.contains c then u σ1 s1 else some (.xc c fs σ1 s1)
  | r => r
/-- C(es) of an own class with __init__ -/
def eMake (c : Str) (init : F) (dfl : List D) (es : EL) : E := fun σ => bnd (es σ) fun ds => fun s => match init (.ref s.length :: (ds ++ dfl)) (s ++ [.ins c []]) with
  | some (.ok .non s') => some (.ok (.ref s.length) s')
  | some (.exc x fs s') => some (.exc x fs s')
  | _ => none
/-- o.m(es) of an own class -/
def eMeth (c m : Str) (f : F) (dfl : List D) (o : E) (es : EL) : E := fun σ => bnd (o σ) fun x => fun s => match x with
  | .ref n => match s[n]? with
    | some (.ins c' fs) => if c' = c ∧ fs.lookup m = none then bnd (es σ) (fun ds => f (x :: (ds ++ dfl))) s else none
    | _ => none
  | _ => none
end Fc
namespace Fc
open PySem PySem.Spec PyProof.Rows L2
/-- a tuple that never changes; the script -/
def RolAt (K : PySem.W.Frag) (H : Hp) (a : Addr) (xs : List V) : Prop := SqL K H a xs ∧ ∀ H' : Hp, (∀ b o ys, H b = some (.frz o (.lst ys)) → H' b = some (.frz o (.lst ys))) → SqL K H' a xs
theorem RolAt.of {K : PySem.W.Frag} {H : Hp} {a : Addr} {xs : List V} (hO : Only H) (h : SqL K H a xs) : RolAt K H a xs := by
  refine ⟨h, fun H' k => ?_⟩
  rcases h with (h | ⟨o, h⟩) | h
  · rcases hO a with z | ⟨o, ys, z⟩
    · rw [z] at h; cases h
    · rw [z] at h; cases h
  · exact .inl (.inr ⟨o, k _ _ _ h⟩)
  · exact .inr h
/-- where the classes stand: those of instances, those of errors -/
structure CM where
  ins : Str → Option Addr
  err : Str → Option Addr
  wld : Option World
variable (K : PySem.W.Frag) (cm : CM)
mutual
def RV (p : List Addr) (H : Hp) : D → V → Prop
  | .non, v => v = .non
  | .bl b, v => v = .bl b
  | .int i, v => v = .int i
  | .str x, v => v = .str x
  | .tup ds, v => ∃ a vs, v = .ref a ∧ H a = some (.tup vs) ∧ RVs p H ds vs
  | .rol ds, v => ∃ a vs, v = .ref a ∧ RolAt K H a vs ∧ RVs p H ds vs
  | .ref n, v => ∃ a, p[n]? = some a ∧ v = .ref a
def RVs (p : List Addr) (H : Hp) : List D → List V → Prop
  | [], vs => vs = []
  | d :: ds, vs => ∃ v r, vs = v :: r ∧ RV p H d v ∧ RVs p H ds r
end
/-- by name, by key -/
def RKs {κ : Type} (p : List Addr) (H : Hp) : List (κ × D) → List (κ × V) → Prop
  | [], vs => vs = []
  | d :: ds, vs => ∃ v r, vs = (d.1, v) :: r ∧ RV K p H d.2 v ∧ RKs p H ds r
/-- an entry of a dict whose keys are tuples of any depth -/
def entN (w : World) (x : NestedKey × Addr × Value) : DictEntry := ⟨x.1.hash w, .ref x.2.1, x.2.2⟩
/-- such a dict at a -/
def NdO (w : World) (a : Addr) (xs : List (NestedKey × Addr × Value)) : HO := .ext fun h => ∃ o es ep, h.get? a = some o ∧ o.ExactDict ∧ o.data = .dict es ep ∧ es.toList = xs.map (entN w) ∧ (xs.map (·.1)).Nodup ∧ (a == sysModules) = false ∧ xs.length ≤ sizeLine
/-- entry by entry -/
def RN (p : List Addr) (H : Hp) : List (D × D) → List (NestedKey × Addr × Value) → Prop
  | [], xs => xs = []
  | kv :: r, xs => ∃ k b v u ys, xs = (k, b, u) :: ys ∧ nkT kv.1 = some k ∧ RV K p H kv.1 (.ref b) ∧ RV K p H kv.2 v ∧ RelV v u ∧ RN p H r ys
/-- an object's content -/
def RC (p : List Addr) (H : Hp) (a : Addr) : O → HO → Prop
  | .lst ds, u => ∃ vs, u = .lst vs ∧ RVs K p H ds vs
  | .dK kvs, u => ∃ ws, u = .dK ws ∧ RKs K p H kvs ws
  | .dT kvs, u => ∃ ws, u = .dT ws ∧ RKs K p H kvs ws
  | .dN kvs, u => ∃ w xs, cm.wld = some w ∧ u = NdO w a xs ∧ RN K p H kvs xs
  | .ins c fs, u => ∃ C dx gs, cm.ins c = some C ∧ u = .ins C dx gs ∧ RKs K p H fs gs
  | .err c fs, u => False
  | .lck o, u => False
/-- a caught error at a, its own dict, if it has one -/
def ErrO (a C : Addr) (d : Option Addr) : HO := .ext fun h => ∃ oe vs, h.get? a = some oe ∧ oe.cls = .ref C ∧ oe.dict = d ∧ oe.data = .fields vs
/-- an error's own fields -/
def RDd (p : List Addr) (H : Hp) (fs : List (Str × D)) : Option Addr → Prop
  | some dd => ∃ gs, H dd = some (.xd gs) ∧ RKs K p H fs gs
  | none => fs = []
def RO (p : List Addr) (H : Hp) (a : Addr) : O → Prop
  | .err c fs => ∃ C d, cm.err c = some C ∧ H a = some (ErrO a C d) ∧ RDd K p H fs d
  | .lck o => ∃ od u, H a = some (.frz od u) ∧ Mut (some u) ∧ RC K cm p H a o u
  | o => ∃ u, H a = some u ∧ RC K cm p H a o u
structure RS (p : List Addr) (s : S) (H : Hp) : Prop where
  len : p.length = s.length
  nd : p.Nodup
  ob : ∀ (n : Nat) (o : O) (a : Addr), s[n]? = some o → p[n]? = some a → RO K cm p H a o
def RE (p : List Addr) (H : Hp) (e : Env) (σ : L2.St) : Prop := e.length = σ.length ∧ ∀ (i : Nat) (d : D), e[i]? = some (some d) → ∃ v, σ[i]? = some (some v) ∧ RV K p H d v
/-- what stays: the addresses, the tuples, the script, errors' dicts -/
structure Fut0 (p : List Addr) (H : Hp) (p' : List Addr) (H' : Hp) : Prop where
  pre : ∀ (n : Nat) (a : Addr), p[n]? = some a → p'[n]? = some a
  tup : ∀ b ys, H b = some (.tup ys) → H' b = some (.tup ys)
  frl : ∀ b o ys, H b = some (.frz o (.lst ys)) → H' b = some (.frz o (.lst ys))
  xd : ∀ b fs, H b = some (.xd fs) → H' b = some (.xd fs)
/-- .. and all that is locked -/
structure Fut (p : List Addr) (H : Hp) (p' : List Addr) (H' : Hp) : Prop extends Fut0 p H p' H' where
  frz : ∀ b o u, H b = some (.frz o u) → H' b = some (.frz o u)
theorem Fut.mk' {p : List Addr} {H : Hp} {p' : List Addr} {H' : Hp} (pre : ∀ (n : Nat) (a : Addr), p[n]? = some a → p'[n]? = some a) (tup : ∀ b ys, H b = some (.tup ys) → H' b = some (.tup ys)) (frz : ∀ b o u, H b = some (.frz o u) → H' b = some (.frz o u)) (xd : ∀ b fs, H b = some (.xd fs) → H' b = some (.xd fs)) : Fut p H p' H' :=
  ⟨⟨pre, tup, fun b o ys h => frz b o _ h, xd⟩, frz⟩
variable {K cm} {p p' p2 : List Addr} {H H' H2 : Hp}
theorem Fut.refl : Fut p H p H := .mk' (fun _ _ h => h) (fun _ _ h => h) (fun _ _ _ h => h) (fun _ _ h => h)
theorem Fut.trans (a : Fut p H p' H') (b : Fut p' H' p2 H2) : Fut p H p2 H2 := .mk' (fun n x h => b.pre n x (a.pre n x h)) (fun c ys h => b.tup c ys (a.tup c ys h)) (fun c o ys h => b.frz c o ys (a.frz c o ys h)) (fun c fs h => b.xd c fs (a.xd c fs h))
theorem Fut0.trans (a : Fut0 p H p' H') (b : Fut0 p' H' p2 H2) : Fut0 p H p2 H2 := ⟨fun n x h => b.pre n x (a.pre n x h), fun c ys h => b.tup c ys (a.tup c ys h), fun c o ys h => b.frl c o ys (a.frl c o ys h), fun c fs h => b.xd c fs (a.xd c fs h)⟩
mutual
theorem RV.mono0 (f : Fut0 p H p' H') : ∀ (d : D) {v : V}, RV K p H d v → RV K p' H' d v
  | .non, _, h => by simpa [RV] using h
  | .bl _, _, h => by simpa [RV] using h
  | .int _, _, h => by simpa [RV] using h
  | .str _, _, h => by simpa [RV] using h
  | .tup ds, _, h => by
    simp only [RV] at h ⊢
    obtain ⟨a, vs, e, t, r⟩ := h
    exact ⟨a, vs, e, f.tup a vs t, RVs.mono0 f ds r⟩
  | .rol ds, _, h => by
    simp only [RV] at h ⊢
    obtain ⟨a, vs, e, t, r⟩ := h
    exact ⟨a, vs, e, ⟨t.2 H' f.frl, fun H2 k => t.2 H2 fun b o ys q => k b o ys (f.frl b o ys q)⟩, RVs.mono0 f ds r⟩
  | .ref n, _, h => by
    simp only [RV] at h ⊢
    obtain ⟨a, e, q⟩ := h
    exact ⟨a, f.pre n a e, q⟩
theorem RVs.mono0 (f : Fut0 p H p' H') : ∀ (ds : List D) {vs : List V}, RVs K p H ds vs → RVs K p' H' ds vs
  | [], _, h => by simpa [RVs] using h
  | d :: ds, _, h => by
    simp only [RVs] at h ⊢
    obtain ⟨v, r, e, h1, h2⟩ := h
    exact ⟨v, r, e, RV.mono0 f d h1, RVs.mono0 f ds h2⟩
end
theorem RKs.mono0 {κ : Type} (f : Fut0 p H p' H') : ∀ (ds : List (κ × D)) {vs : List (κ × V)}, RKs K p H ds vs → RKs K p' H' ds vs
  | [], _, h => by simpa [RKs] using h
  | d :: ds, _, h => by
    simp only [RKs] at h ⊢
    obtain ⟨v, r, e, h1, h2⟩ := h
    exact ⟨v, r, e, RV.mono0 f d.2 h1, RKs.mono0 f ds h2⟩
theorem RN.mono0 (f : Fut0 p H p' H') : ∀ (ds : List (D × D)) {xs : List (NestedKey × Addr × Value)}, RN K p H ds xs → RN K p' H' ds xs
  | [], _, h => by simpa [RN] using h
  | d :: ds, _, h => by
    simp only [RN] at h ⊢
    obtain ⟨k, b, v, u, ys, e, h1, h2, h3, h4, h5⟩ := h
    exact ⟨k, b, v, u, ys, e, h1, RV.mono0 f d.1 h2, RV.mono0 f d.2 h3, h4, RN.mono0 f ds h5⟩
theorem RC.mono0 (f : Fut0 p H p' H') {a : Addr} : ∀ (o : O) {u : HO}, RC K cm p H a o u → RC K cm p' H' a o u
  | .lst ds, _, h => by
    obtain ⟨vs, e, r⟩ := h
    exact ⟨vs, e, r.mono0 f⟩
  | .dK ds, _, h => by
    obtain ⟨vs, e, r⟩ := h
    exact ⟨vs, e, r.mono0 f⟩
  | .dT ds, _, h => by
    obtain ⟨vs, e, r⟩ := h
    exact ⟨vs, e, r.mono0 f⟩
  | .dN ds, _, h => by
    obtain ⟨w, xs, e1, e, r⟩ := h
    exact ⟨w, xs, e1, e, r.mono0 f⟩
  | .ins c fs, _, h => by
    obtain ⟨C, dx, gs, e1, e, r⟩ := h
    exact ⟨C, dx, gs, e1, e, r.mono0 f⟩
  | .err _ _, _, h => h
  | .lck _, _, h => h
theorem RDd.mono0 (f : Fut0 p H p' H') {fs : List (Str × D)} : ∀ {d : Option Addr}, RDd K p H fs d → RDd K p' H' fs d
  | some _, ⟨gs, e, r⟩ => ⟨gs, f.xd _ _ e, r.mono0 f⟩
  | none, h => h
theorem RE.mono0 (f : Fut0 p H p' H') {e : Env} {σ : L2.St} (h : RE K p H e σ) : RE K p' H' e σ := ⟨h.1, fun i d q => let ⟨v, a, b⟩ := h.2 i d q; ⟨v, a, b.mono0 f⟩⟩
theorem RV.mono (f : Fut p H p' H') (d : D) {v : V} (h : RV K p H d v) : RV K p' H' d v := RV.mono0 f.toFut0 d h
theorem RVs.mono (f : Fut p H p' H') (ds : List D) {vs : List V} (h : RVs K p H ds vs) : RVs K p' H' ds vs := RVs.mono0 f.toFut0 ds h
theorem RKs.mono {κ : Type} (f : Fut p H p' H') (ds : List (κ × D)) {vs : List (κ × V)} (h : RKs K p H ds vs) : RKs K p' H' ds vs := RKs.mono0 f.toFut0 ds h
theorem RC.mono (f : Fut p H p' H') {a : Addr} (o : O) {u : HO} (h : RC K cm p H a o u) : RC K cm p' H' a o u := RC.mono0 f.toFut0 o h
theorem RDd.mono (f : Fut p H p' H') {fs : List (Str × D)} {d : Option Addr} (h : RDd K p H fs d) : RDd K p' H' fs d := RDd.mono0 f.toFut0 h
theorem RE.mono (f : Fut p H p' H') {e : Env} {σ : L2.St} (h : RE K p H e σ) : RE K p' H' e σ := h.mono0 f.toFut0
theorem RVs.length : ∀ {ds : List D} {vs : List V}, RVs K p H ds vs → ds.length = vs.length
  | [], _, h => by simp only [RVs] at h; rw [h]; rfl
  | d :: ds, _, h => by
    simp only [RVs] at h
    obtain ⟨v, r, e, _, h2⟩ := h
    rw [e, List.length_cons, List.length_cons, RVs.length h2]
theorem RVs.get : ∀ {ds : List D} {vs : List V} {i : Nat} {d : D}, RVs K p H ds vs → ds[i]? = some d → ∃ v, vs[i]? = some v ∧ RV K p H d v
  | [], _, _, _, _, e => by simp at e
  | d :: ds, _, 0, _, h, e => by
    simp only [RVs] at h
    obtain ⟨v, r, e', h1, _⟩ := h
    simp at e; subst e
    exact ⟨v, by rw [e']; rfl, h1⟩
  | d :: ds, _, i + 1, d', h, e => by
    simp only [RVs] at h
    obtain ⟨v, r, e', _, h2⟩ := h
    obtain ⟨w, q1, q2⟩ := RVs.get (i := i) (d := d') h2 (by simpa using e)
    exact ⟨w, by rw [e']; simpa using q1, q2⟩
theorem RVs.append : ∀ {ds es : List D} {vs ws : List V}, RVs K p H ds vs → RVs K p H es ws → RVs K p H (ds ++ es) (vs ++ ws)
  | [], _, _, _, h, k => by simp only [RVs] at h; rw [h]; exact k
  | d :: ds, es, _, ws, h, k => by
    simp only [RVs] at h
    obtain ⟨v, r, e, h1, h2⟩ := h
    rw [e]
    show RVs K p H (d :: (ds ++ es)) (v :: (r ++ ws))
    simp only [RVs]
    exact ⟨v, _, rfl, h1, RVs.append h2 k⟩
theorem RVs.of_get : ∀ {ds : List D} {vs : List V}, ds.length = vs.length → (∀ (i : Nat) d v, ds[i]? = some d → vs[i]? = some v → RV K p H d v) → RVs K p H ds vs
  | [], [], _, _ => by simp only [RVs]
  | [], _ :: _, l, _ => by simp at l
  | _ :: _, [], l, _ => by simp at l
  | d :: ds, v :: vs, l, h => by
    simp only [RVs]
    exact ⟨v, vs, rfl, h 0 d v rfl rfl, RVs.of_get (by simpa using l) fun i d' v' e1 e2 => h (i + 1) d' v' (by simpa using e1) (by simpa using e2)⟩
theorem RVs.drop {ds : List D} {vs : List V} (h : RVs K p H ds vs) (n : Nat) : RVs K p H (ds.drop n) (vs.drop n) := by
  refine RVs.of_get (by simp [h.length]) fun i d v e1 e2 => ?_
  rw [List.getElem?_drop] at e1 e2
  obtain ⟨w, q1, q2⟩ := h.get e1
  rw [e2] at q1; cases q1; exact q2
theorem RVs.take {ds : List D} {vs : List V} (h : RVs K p H ds vs) (n : Nat) : RVs K p H (ds.take n) (vs.take n) := by
  refine RVs.of_get (by simp [h.length]) fun i d v e1 e2 => ?_
  rw [List.getElem?_take] at e1 e2
  split at e1
  · rename_i hi
    rw [if_pos hi] at e2
    obtain ⟨w, q1, q2⟩ := h.get e1
    rw [e2] at q1; cases q1; exact q2
  · cases e1
theorem RVs.set {ds : List D} {vs : List V} (h : RVs K p H ds vs) (n : Nat) {d : D} {v : V} (r : RV K p H d v) : RVs K p H (ds.set n d) (vs.set n v) := by
  have hl := h.length
  refine RVs.of_get (by simp [hl]) fun i d' v' e1 e2 => ?_
  rw [List.getElem?_set] at e1 e2
  by_cases hi : n = i
  · rw [if_pos hi] at e1 e2
    split at e1
    · rename_i h1
      rw [if_pos (by omega)] at e2
      cases e1; cases e2; exact r
    · cases e1
  · rw [if_neg hi] at e1 e2
    obtain ⟨w, q1, q2⟩ := h.get e1
    rw [e2] at q1; cases q1; exact q2
/-- one address for each number -/
theorem RS.at (r : RS K cm p s H) {n : Nat} {o : O} (h : s[n]? = some o) : ∃ a, p[n]? = some a ∧ RO K cm p H a o := by
  have hn := (List.getElem?_eq_some_iff.mp h).1
  have e : p[n]? = some (p[n]'(by rw [r.len]; exact hn)) := by simp [r.len, hn]
  exact ⟨_, e, r.ob n o _ h e⟩
theorem RO.some {a : Addr} {o : O} (h : RO K cm p H a o) : ∃ u, H a = some u := by
  cases o with
  | lck o => obtain ⟨od, u, e, _⟩ := h; exact ⟨_, e⟩
  | lst _ => obtain ⟨u, e, _⟩ := h; exact ⟨_, e⟩
  | dK _ => obtain ⟨u, e, _⟩ := h; exact ⟨_, e⟩
  | dT _ => obtain ⟨u, e, _⟩ := h; exact ⟨_, e⟩
  | dN _ => obtain ⟨u, e, _⟩ := h; exact ⟨_, e⟩
  | ins _ _ => obtain ⟨u, e, _⟩ := h; exact ⟨_, e⟩
  | err _ _ => obtain ⟨_, _, _, e, _⟩ := h; exact ⟨_, e⟩
theorem RS.not_mem (r : RS K cm p s H) {a : Addr} (h : H a = none) : a ∉ p := fun hm => by
  obtain ⟨n, hn, e⟩ := List.getElem_of_mem hm
  have e' : p[n]? = some a := by rw [← e]; simp [hn]
  have hs : n < s.length := by rw [← r.len]; exact hn
  obtain ⟨u, q⟩ := (r.ob n s[n] a (by simp [hs]) e').some
  rw [h] at q; cases q
theorem RO.keep0 {a : Addr} {o : O} (h : RO K cm p H a o) (f : Fut0 p H p' H') (ha : H' a = H a) : RO K cm p' H' a o := by
  cases o with
  | lck o => obtain ⟨od, u, e, m, r⟩ := h; exact ⟨od, u, ha.trans e, m, r.mono0 f⟩
  | lst _ => obtain ⟨u, e, r⟩ := h; exact ⟨u, ha.trans e, r.mono0 f⟩
  | dK _ => obtain ⟨u, e, r⟩ := h; exact ⟨u, ha.trans e, r.mono0 f⟩
  | dT _ => obtain ⟨u, e, r⟩ := h; exact ⟨u, ha.trans e, r.mono0 f⟩
  | dN _ => obtain ⟨u, e, r⟩ := h; exact ⟨u, ha.trans e, RC.mono0 f _ r⟩
  | ins _ _ => obtain ⟨u, e, r⟩ := h; exact ⟨u, ha.trans e, r.mono0 f⟩
  | err _ _ => obtain ⟨C, d, e1, e2, r⟩ := h; exact ⟨C, d, e1, ha.trans e2, r.mono0 f⟩
theorem RO.keep {a : Addr} {o : O} (h : RO K cm p H a o) (f : Fut p H p' H') (ha : H' a = H a) : RO K cm p' H' a o := h.keep0 f.toFut0 ha
/-- all that is tracked stays -/
theorem Fut.same (k : Same H H') : Fut p H p H' := .mk' (fun _ _ h => h) (fun b ys h => k b _ h) (fun b o ys h => k b _ h) (fun b fs h => k b _ h)
theorem RS.same (r : RS K cm p s H) (k : Same H H') : RS K cm p s H' := ⟨r.len, r.nd, fun n o a h1 h2 => by
  have q := r.ob n o a h1 h2
  obtain ⟨u, e⟩ := q.some
  exact q.keep (Fut.same k) ((k a u e).trans e.symm)⟩
theorem same_new {a : Addr} {u : HO} (h : H a = none) : Same H (upd H a u) := fun b o e => by rw [upd_ne (ne_of_none e h)]; exact e
/-- a new object -/
theorem Fut.new {a : Addr} {u : HO} (h : H a = none) : Fut p H (p ++ [a]) (upd H a u) :=
  .mk' (fun n b e => by rw [List.getElem?_append_left (List.getElem?_eq_some_iff.mp e).1]; exact e) (Fut.same (p := p) (same_new h)).tup (Fut.same (p := p) (same_new h)).frz (Fut.same (p := p) (same_new h)).xd
theorem RS.newO (r : RS K cm p s H) {a : Addr} {u : HO} {o : O} (h : H a = none) (c : RO K cm (p ++ [a]) (upd H a u) a o) : RS K cm (p ++ [a]) (s ++ [o]) (upd H a u) ∧ (p ++ [a])[s.length]? = some a := by
  have f : Fut p H (p ++ [a]) (upd H a u) := Fut.new h
  refine ⟨⟨by simp [r.len], ?_, fun n o' b h1 h2 => ?_⟩, by rw [← r.len]; simp⟩
  · rw [List.nodup_append]
    refine ⟨r.nd, by simp, fun x hx y hy e => ?_⟩
    simp at hy; subst hy; subst e
    exact r.not_mem h hx
  · by_cases hn : n < s.length
    · rw [List.getElem?_append_left hn] at h1
      rw [List.getElem?_append_left (by rw [r.len]; exact hn)] at h2
      have q := r.ob n o' b h1 h2
      refine q.keep f (upd_ne fun e => ?_)
      subst e
      exact r.not_mem h (List.mem_of_getElem? h2)
    · have e : n = s.length := by
        have := (List.getElem?_eq_some_iff.mp h1).1
        simp at this; omega
      subst e
      simp at h1; subst h1
      rw [← r.len] at h2; simp at h2; subst h2
      exact c
theorem RC.ro {a : Addr} {u : HO} {o : O} (c : RC K cm p H a o u) (h : H a = some u) : RO K cm p H a o := by
  cases o with
  | lck o => exact False.elim c
  | err _ _ => exact False.elim c
  | lst _ => exact ⟨u, h, c⟩
  | dK _ => exact ⟨u, h, c⟩
  | dT _ => exact ⟨u, h, c⟩
  | dN _ => exact ⟨u, h, c⟩
  | ins _ _ => exact ⟨u, h, c⟩
theorem RS.new (r : RS K cm p s H) {a : Addr} {u : HO} {o : O} (h : H a = none) (c : RC K cm p H a o u) : Fut p H (p ++ [a]) (upd H a u) ∧ RS K cm (p ++ [a]) (s ++ [o]) (upd H a u) ∧ (p ++ [a])[s.length]? = some a :=
  ⟨Fut.new h, r.newO h ((c.mono (Fut.new h)).ro upd_same)⟩
/-- an object is changed -/
theorem put_at {b : Addr} {a : Addr} {u u0 w : HO} (h0 : H a = some u0) (hm : Mut (some u0)) (e : H b = some w) (hn : ¬ Mut (some w)) : upd H a u b = some w := by
  rw [upd_ne fun z => ?_]
  · exact e
  · subst z; rw [h0] at e; cases e; exact hn hm
theorem Fut.put {a : Addr} {u u0 : HO} (h0 : H a = some u0) (hm : Mut (some u0)) : Fut p H p (upd H a u) :=
  .mk' (fun _ _ e => e) (fun b ys e => put_at h0 hm e fun z => z) (fun b o ys e => put_at h0 hm e fun z => z) (fun b fs e => put_at h0 hm e fun z => z)
theorem RS.putO (r : RS K cm p s H) {n : Nat} {a : Addr} {u u0 : HO} {o : O} (ha : p[n]? = some a) (h0 : H a = some u0) (f : Fut0 p H p (upd H a u)) (c : RO K cm p (upd H a u) a o) : RS K cm p (s.set n o) (upd H a u) := by
  refine ⟨by simp [r.len], r.nd, fun k o' b h1 h2 => ?_⟩
  by_cases hk : n = k
  · subst hk
    rw [ha] at h2; cases h2
    have hn : n < s.length := by rw [← r.len]; exact (List.getElem?_eq_some_iff.mp ha).1
    rw [List.getElem?_set_self hn] at h1; cases h1
    exact c
  · rw [List.getElem?_set_ne hk] at h1
    have q := r.ob k o' b h1 h2
    refine q.keep0 f (upd_ne fun e => ?_)
    subst e
    have l1 := (List.getElem?_eq_some_iff.mp ha).1
    have l2 := (List.getElem?_eq_some_iff.mp h2).1
    exact hk ((List.getElem_inj r.nd (h₀ := l1) (h₁ := l2)).mp (by rw [(List.getElem?_eq_some_iff.mp ha).2, (List.getElem?_eq_some_iff.mp h2).2]))
theorem RS.put (r : RS K cm p s H) {n : Nat} {a : Addr} {u u0 : HO} {o : O} (ha : p[n]? = some a) (h0 : H a = some u0) (hm : Mut (some u0)) (c : RC K cm p H a o u) : Fut p H p (upd H a u) ∧ RS K cm p (s.set n o) (upd H a u) :=
  ⟨Fut.put h0 hm, r.putO ha h0 (Fut.put h0 hm).toFut0 ((c.mono (Fut.put h0 hm)).ro upd_same)⟩
end Fc
namespace L2
open PySem
theorem PE.imp {X : Cx} {x : Expr} {t t' : TE} (h : PE X x t) (k : ∀ σ H Q, t' σ H Q → t σ H Q) : PE X x t' := ⟨fun pins s σ H Q I q => h.run pins s σ H Q I (k σ H Q q)⟩
theorem PT.imp {X : Cx} {x : Expr} {t t' : TT} (h : PT X x t) (k : ∀ σ H Q, t' σ H Q → t σ H Q) : PT X x t' := ⟨fun pins s σ H Q I q => h.run pins s σ H Q I (k σ H Q q)⟩
theorem PW.imp {X : Cx} {x : Expr} {t t' : TT} (h : PW X x t) (k : ∀ σ H Q, t' σ H Q → t σ H Q) : PW X x t' := ⟨fun w pins s σ H Q I q => h.run w pins s σ H Q I (k σ H Q q)⟩
theorem PA.imp {X : Cx} {x : List Expr} {t t' : TA} (h : PA X x t) (k : ∀ σ H Q, t' σ H Q → t σ H Q) : PA X x t' := ⟨fun w pins s σ H Q I q => h.run w pins s σ H Q I (k σ H Q q)⟩
theorem PO.imp {X : Cx} {x : Option Expr} {t t' : TO} (h : PO X x t) (k : ∀ σ H Q, t' σ H Q → t σ H Q) : PO X x t' := ⟨fun pins s σ H Q I q => h.run pins s σ H Q I (k σ H Q q)⟩
theorem PE.or {X : Cx} {x : Expr} {t t' : TE} (h : PE X x t) (h' : PE X x t') : PE X x (fun σ H Q => t σ H Q ∨ t' σ H Q) := ⟨fun pins s σ H Q I q => q.elim (h.run pins s σ H Q I) (h'.run pins s σ H Q I)⟩
end L2
namespace Fc
open PySem PySem.Spec PyProof.Rows L2
/-- an error in the air: its class, its own dict's fields -/
def RX (K : PySem.W.Frag) (cm : CM) (p : List Addr) (H : Hp) (c : Str) (fs : List (Str × D)) (cls : Value) (d : Option Addr) : Prop :=
  ∃ C, cm.err c = some C ∧ cls = .ref C ∧ RDd K p H fs d
/-- what a result must give -/
def Po {a b : Type} (K : PySem.W.Frag) (cm : CM) (W : WX) (rel : List Addr → Hp → a → b → Prop) (p : List Addr) (σ : L2.St) (H : Hp) (r : Option (Res a)) (Q : b → Hp → Prop) : Prop := match r with
  | none => False
  | some (.ok d s') => ∀ p' H' v, Fut p H p' H' → RS K cm p' s' H' → rel p' H' d v → Q v H'
  | some (.exc c fs s') => ∀ p' H' cls dd, Fut p H p' H' → RS K cm p' s' H' → RX K cm p' H' c fs cls dd → W cls dd σ H'
section
variable {K : PySem.W.Frag} {cm : CM} {W : WX} {p p' : List Addr} {σ : L2.St} {H H' : Hp}
theorem Po.fut {a b : Type} {rel : List Addr → Hp → a → b → Prop} {r : Option (Res a)} {Q : b → Hp → Prop} (h : Po K cm W rel p σ H r Q) (f : Fut p H p' H') : Po K cm W rel p' σ H' r Q := by
  match r, h with
  | some (.ok d s'), h => exact fun p2 H2 v f2 => h p2 H2 v (f.trans f2)
  | some (.exc c fs s'), h => exact fun p2 H2 cls dd f2 => h p2 H2 cls dd (f.trans f2)
theorem Po.imp {a b : Type} {rel : List Addr → Hp → a → b → Prop} {r : Option (Res a)} {Q Q' : b → Hp → Prop} (h : Po K cm W rel p σ H r Q) (k : ∀ v H, Q v H → Q' v H) : Po K cm W rel p σ H r Q' := by
  match r, h with
  | some (.ok d s'), h => exact fun p2 H2 v f2 r2 q => k _ _ (h p2 H2 v f2 r2 q)
  | some (.exc c fs s'), h => exact h
/-- one thing behind another -/
theorem Po.bnd {a b c d : Type} {rel1 : List Addr → Hp → a → b → Prop} {rel2 : List Addr → Hp → c → d → Prop} {m : M a} {k : a → M c} {s : S} {Q : d → Hp → Prop} (h : Po K cm W rel2 p σ H (bnd m k s) Q) :
    Po K cm W rel1 p σ H (m s) fun x H1 => ∃ y p1 s1, Fut p H p1 H1 ∧ RS K cm p1 s1 H1 ∧ rel1 p1 H1 y x ∧ Po K cm W rel2 p1 σ H1 (k y s1) Q := by
  unfold Fc.bnd at h
  match e : m s, h with
  | none, h => exact h
  | some (.exc x fs s'), h => exact h
  | some (.ok y s'), h => exact fun p1 H1 v f r q => ⟨y, p1, s', f, r, q, Po.fut h f⟩
theorem Po.ok {a b : Type} {rel : List Addr → Hp → a → b → Prop} {x : a} {s : S} {Q : b → Hp → Prop} {v : b} (h : Po K cm W rel p σ H (some (.ok x s)) Q) (r : RS K cm p s H) (q : rel p H x v) : Q v H := h p H v Fut.refl r q
end
variable (K : PySem.W.Frag) (cm : CM) (W : WX)
def rB : List Addr → Hp → Bool → Bool → Prop := fun _ _ a b => a = b
def rI' : List Addr → Hp → Option Int → Option Int → Prop := fun _ _ a b => a = b
/-- an expression's, a test's, an argument list's, a slice part's reading -/
def tD (f : E) : TE := fun σ H Q => ∃ p e s, RE K p H e σ ∧ RS K cm p s H ∧ Po K cm W (RV K) p σ H (f e s) Q
def tT (f : T) : TT := fun σ H Q => ∃ p e s, RE K p H e σ ∧ RS K cm p s H ∧ Po K cm W rB p σ H (f e s) Q
def tL (f : EL) : TA := fun σ H Q => ∃ p e s, RE K p H e σ ∧ RS K cm p s H ∧ Po K cm W (RVs K) p σ H (f e s) Q
def tO (f : EO) : TO := fun σ H Q => ∃ p e s, RE K p H e σ ∧ RS K cm p s H ∧ Po K cm W rI' p σ H (f e s) Q
variable {K cm W}
section
variable (X : Cx) (cm : CM) (W : WX)
abbrev JE (x : Expr) (f : E) : Prop := PE X x (tD X.K cm W f)
abbrev JT (x : Expr) (f : T) : Prop := PT X x (tT X.K cm W f)
abbrev JW (x : Expr) (f : T) : Prop := PW X x (tT X.K cm W f)
abbrev JA (x : List Expr) (f : EL) : Prop := PA X x (tL X.K cm W f)
abbrev JO (x : Option Expr) (f : EO) : Prop := PO X x (tO X.K cm W f)
/-- an operator by values -/
def S2 (fv : Value → Value → Sem Value) (op : D → D → M D) : Prop := ∃ r : R2, OpR X fv r ∧ ∀ (W : WX) p s σ H x y dx dy Q, RS X.K cm p s H → RV X.K p H dx x → RV X.K p H dy y → Po X.K cm W (RV X.K) p σ H (op dx dy s) Q → r x y H Q
def SN (fv : Value) (op : List D → M D) : Prop := ∃ r : List V → Hp → VK → Prop, CallR X fv r ∧ ∀ (W : WX) p s σ H xs ds Q, RS X.K cm p s H → RVs X.K p H ds xs → Po X.K cm W (RV X.K) p σ H (op ds s) Q → r xs H Q
end
section
variable {σ : L2.St} {H : Hp}
theorem tD.bnd {f : E} {k : D → M D} {Q : VK} (h : tD K cm W (fun e => bnd (f e) k) σ H Q) : tD K cm W f σ H fun x H1 => ∃ p e s d, RE K p H1 e σ ∧ RS K cm p s H1 ∧ RV K p H1 d x ∧ Po K cm W (RV K) p σ H1 (k d s) Q := by
  obtain ⟨p, e, s, re, rs, q⟩ := h
  refine ⟨p, e, s, re, rs, (Po.bnd (rel1 := RV K) q).imp ?_⟩
  rintro v H1 ⟨d, p1, s1, f, rs1, rv, q1⟩
  exact ⟨p1, e, s1, d, re.mono f, rs1, rv, q1⟩
theorem tD.two {a b : E} {k : D → D → M D} {Q : VK} (h : tD K cm W (e2 k a b) σ H Q) : tD K cm W a σ H fun x H1 => tD K cm W b σ H1 fun y H2 => ∃ p e s d1 d2, RE K p H2 e σ ∧ RS K cm p s H2 ∧ RV K p H2 d1 x ∧ RV K p H2 d2 y ∧ Po K cm W (RV K) p σ H2 (k d1 d2 s) Q := by
  obtain ⟨p, e, s, re, rs, q⟩ := h
  refine ⟨p, e, s, re, rs, (Po.bnd (rel1 := RV K) q).imp ?_⟩
  rintro v H1 ⟨d, p1, s1, f, rs1, rv, q1⟩
  refine ⟨p1, e, s1, re.mono f, rs1, (Po.bnd (rel1 := RV K) q1).imp ?_⟩
  rintro w H2 ⟨d', p2, s2, f2, rs2, rw', q2⟩
  exact ⟨p2, e, s2, d, d', (re.mono f).mono f2, rs2, rv.mono f2, rw', q2⟩
theorem tD.args {es : EL} {k : List D → M D} {Q : VK} (h : tD K cm W (eN k es) σ H Q) : tL K cm W es σ H fun xs H1 => ∃ p e s ds, RE K p H1 e σ ∧ RS K cm p s H1 ∧ RVs K p H1 ds xs ∧ Po K cm W (RV K) p σ H1 (k ds s) Q := by
  obtain ⟨p, e, s, re, rs, q⟩ := h
  refine ⟨p, e, s, re, rs, (Po.bnd (rel1 := RVs K) q).imp ?_⟩
  rintro v H1 ⟨d, p1, s1, f, rs1, rv, q1⟩
  exact ⟨p1, e, s1, d, re.mono f, rs1, rv, q1⟩
end
section
variable {X : Cx} {a b c : Expr} {fa fb fc : E} {pos : Pos}
theorem r_var (i : Nat) {x : Str} {pos : Pos} (hN : X.N[i]? = some x := by rfl) (hv : Vis X.env.scope x := by first | exact Or.inl rfl | exact Or.inr (Or.inl rfl) | exact Or.inr (Or.inr rfl)) (hd : (x == ("__debug__" : Str)) = false := by decide)
    (hcd : (x == ("__classdict__" : Str)) = false := by decide) : JE X cm W (.Name x pos) (eVar i) := by
  refine (pe_var hN hv hd hcd).imp ?_
  rintro σ H Q ⟨p, e, s, re, rs, q⟩
  unfold eVar at q
  match h : e[i]?, q with
  | some (some d), q =>
    obtain ⟨v, h1, h2⟩ := re.2 i d h
    exact ⟨v, h1, q.ok rs h2⟩
theorem r_const {x : Expr} {d : D} {v : V} (h : PE X x (tC v)) (r : ∀ p H, RV X.K p H d v) : JE X cm W x (eC d) := by
  refine h.imp ?_
  rintro σ H Q ⟨p, e, s, re, rs, q⟩
  exact Po.ok q rs (r p H)
theorem r_int {i : Int} {j pos} : JE X cm W (.Constant (.int i) j pos) (eC (.int i)) := r_const pe_int fun _ _ => by simp [RV]
theorem r_bl {i : Bool} {j pos} : JE X cm W (.Constant (.bool i) j pos) (eC (.bl i)) := r_const pe_bl fun _ _ => by simp [RV]
theorem r_non {j pos} : JE X cm W (.Constant .none j pos) (eC .non) := r_const pe_non fun _ _ => by simp [RV]
theorem r_str {x : Str} {j pos} : JE X cm W (.Constant (.str x) j pos) (eC (.str x)) := r_const pe_str fun _ _ => by simp [RV]
/-- a constant of the module -/
structure GlobC (K : PySem.W.Frag) (mg : Str → Option Value) (x : Str) (d : D) : Prop where
  ex : ∃ v u, mg x = some u ∧ RelV v u ∧ ∀ p H, RV K p H d v
theorem r_glob {x : Str} {d : D} {pos : Pos} (h : GlobC X.K X.mg x d) (hg : Gl X x := by rfl) (hd : (x == ("__debug__" : Str)) = false := by decide) : JE X cm W (.Name x pos) (eC d) := by
  obtain ⟨v, u, h1, h2, h3⟩ := h.ex
  exact r_const (pe_glob hg h1 h2 hd) h3
theorem r_op {op : Operator} {f : D → D → M D} (ho : S2 X cm (binaryOp op) f) (ha : JE X cm W a fa) (hb : JE X cm W b fb) : JE X cm W (.BinOp a op b pos) (e2 f fa fb) := by
  obtain ⟨r, h1, h2⟩ := ho
  refine (pe_op h1 ha hb).imp fun σ H Q q => ?_
  refine (?_ : tOp r _ _ σ H Q)
  obtain ⟨p, e, s, re, rs, q⟩ := tD.two q
  refine ⟨p, e, s, re, rs, q.imp ?_⟩
  rintro x H1 ⟨p, e, s, re, rs, q⟩
  refine ⟨p, e, s, re, rs, q.imp ?_⟩
  rintro y H2 ⟨p, e, s, d1, d2, re, rs, r1, r2, q⟩
  exact h2 W p s σ H2 x y d1 d2 Q rs r1 r2 q
theorem r_cmp {op : CmpOp} {f : D → D → M D} (ho : S2 X cm (compareOp op) f) (ha : JE X cm W a fa) (hb : JE X cm W b fb) (hm : behindInMarks op b = false := by first | exact nomark _ | rfl) : JE X cm W (.Compare a [op] [b] pos) (e2 f fa fb) := by
  obtain ⟨r, h1, h2⟩ := ho
  refine (pe_cmpR h1 ha hb hm).imp fun σ H Q q => ?_
  refine (?_ : tOp r _ _ σ H Q)
  obtain ⟨p, e, s, re, rs, q⟩ := tD.two q
  refine ⟨p, e, s, re, rs, q.imp ?_⟩
  rintro x H1 ⟨p, e, s, re, rs, q⟩
  refine ⟨p, e, s, re, rs, q.imp ?_⟩
  rintro y H2 ⟨p, e, s, d1, d2, re, rs, r1, r2, q⟩
  exact h2 W p s σ H2 x y d1 d2 Q rs r1 r2 q
theorem r_neg (ha : JE X cm W a fa) : JE X cm W (.UnaryOp .USub a pos) (e1 oNeg fa) := by
  refine (pe_un un_neg ha).imp fun σ H Q q => ?_
  obtain ⟨p, e, s, re, rs, q⟩ := tD.bnd q
  refine ⟨p, e, s, re, rs, q.imp ?_⟩
  rintro x H1 ⟨p, e, s, d, re, rs, r1, q⟩
  cases d <;> simp only [oNeg] at q <;> first | exact False.elim q | skip
  simp only [RV] at r1
  exact ⟨_, r1, q.ok rs (by simp [RV])⟩
theorem r_isN {j : Nat} {pos' : Pos} {y : Expr} (ha : JE X cm W a fa) (hy : y = .Constant .none j pos' := by rfl) : JE X cm W (.Compare a [.Is] [y] pos) (e1 oIsN fa) := by
  subst hy
  refine (pe_cmp (pc_isN ha) rfl).imp fun σ H Q q => ?_
  obtain ⟨p, e, s, re, rs, q⟩ := tD.bnd q
  refine ⟨p, e, s, re, rs, q.imp ?_⟩
  rintro x H1 ⟨p, e, s, d, re, rs, r1, q⟩
  refine Po.ok q rs ?_
  cases d <;> simp only [RV] at r1 ⊢ <;> first | (subst r1; rfl) | (obtain ⟨_, _, rfl, _⟩ := r1; rfl) | (obtain ⟨_, _, rfl⟩ := r1; rfl)
end
end Fc
namespace Fc
open PySem PySem.Spec PyProof.Rows L2
section
variable {K : PySem.W.Frag} {cm : CM} {W : WX} {p : List Addr} {s : S} {σ : L2.St} {H : Hp}
theorem lst_at (rs : RS K cm p s H) {n : Nat} {x : V} {ds : List D} (r : RV K p H (.ref n) x) (h : s[n]? = some (.lst ds)) : ∃ a vs, x = .ref a ∧ p[n]? = some a ∧ H a = some (.lst vs) ∧ RVs K p H ds vs := by
  simp only [RV] at r
  obtain ⟨a, ha, rfl⟩ := r
  obtain ⟨b, hb, u, e, vs, rfl, q⟩ := rs.at h
  rw [ha] at hb; cases hb
  exact ⟨a, vs, rfl, ha, e, q⟩
theorem rv_int {x : V} {i : Int} (r : RV K p H (.int i) x) : x = .int i := by simpa [RV] using r
theorem rv_bl {x : V} {i : Bool} (r : RV K p H (.bl i) x) : x = .bl i := by simpa [RV] using r
theorem rv_str {x : V} {i : Str} (r : RV K p H (.str i) x) : x = .str i := by simpa [RV] using r
theorem rv_non {x : V} (r : RV K p H .non x) : x = .non := by simpa [RV] using r
theorem rv_tup {x : V} {ds : List D} (r : RV K p H (.tup ds) x) : ∃ a vs, x = .ref a ∧ H a = some (.tup vs) ∧ RVs K p H ds vs := by simpa [RV] using r
theorem mk_int (i : Int) : RV K p H (.int i) (.int i) := by simp [RV]
theorem mk_bl (i : Bool) : RV K p H (.bl i) (.bl i) := by simp [RV]
theorem mk_str (i : Str) : RV K p H (.str i) (.str i) := by simp [RV]
theorem mk_non : RV K p H .non .non := by simp [RV]
theorem mk_tup {a : Addr} {vs : List V} {ds : List D} (h : H a = some (.tup vs)) (r : RVs K p H ds vs) : RV K p H (.tup ds) (.ref a) := by
  simp only [RV]
  exact ⟨a, vs, rfl, h, r⟩
theorem mk_ref {a : Addr} {n : Nat} (h : p[n]? = some a) : RV K p H (.ref n) (.ref a) := by
  simp only [RV]
  exact ⟨a, h, rfl⟩
theorem sz_ok {n : Nat} (h : sz n = true) : n ≤ sizeLine := by rw [sizeLine_eq]; exact of_decide_eq_true h
/-- a new list, a new tuple -/
theorem Po.newl {ds : List D} {vs : List V} {Q : VK} (h : Po K cm W (RV K) p σ H (new (.lst ds) s) Q) (rs : RS K cm p s H) (r : RVs K p H ds vs) {a : Addr} (ha : H a = none) : Q (.ref a) (upd H a (.lst vs)) := by
  obtain ⟨f, rs', e⟩ := rs.new (o := .lst ds) (u := .lst vs) ha ⟨vs, rfl, r⟩
  exact h _ _ _ f rs' (mk_ref e)
theorem Po.newt {ds : List D} {vs : List V} {Q : VK} (h : Po K cm W (RV K) p σ H (some (.ok (.tup ds) s)) Q) (rs : RS K cm p s H) (r : RVs K p H ds vs) {a : Addr} (ha : H a = none) : Q (.ref a) (upd H a (.tup vs)) := by
  have k := same_new (u := HO.tup vs) ha
  exact h _ _ _ (Fut.same k) (rs.same k) (mk_tup upd_same (r.mono (Fut.same k)))
mutual
theorem dat_ok (rs : RS K cm p s H) : ∀ (n : Nat) (d : D) {v : V} {x : PyData}, RV K p H d v → dat s n d = some x → Dp K H v x
  | n, .non, v, x, r, e => by
    cases n <;> (simp only [dat] at e; cases e; rw [rv_non r]; exact .non)
  | n, .bl b, v, x, r, e => by
    cases n <;> (simp only [dat] at e; cases e; rw [rv_bl r]; exact .bl b)
  | n, .int b, v, x, r, e => by
    cases n <;> (simp only [dat] at e; cases e; rw [rv_int r]; exact .int b)
  | n, .str b, v, x, r, e => by
    cases n <;> (simp only [dat] at e; cases e; rw [rv_str r]; exact .str b)
  | n, .rol b, v, x, r, e => by
    cases n <;> (simp only [dat] at e; cases e)
  | 0, .tup ds, v, x, r, e => by simp only [dat] at e; cases e
  | 0, .ref a, v, x, r, e => by simp only [dat] at e; cases e
  | n + 1, .tup ds, v, x, r, e => by
    simp only [dat, Option.map_eq_some_iff] at e
    obtain ⟨xs, e, rfl⟩ := e
    obtain ⟨a, vs, rfl, h, q⟩ := rv_tup r
    exact .tup (SqT.of h) (dats_ok rs n ds q e)
  | n + 1, .ref a, v, x, r, e => by
    simp only [dat, lstAt] at e
    cases h : s[a]? with
    | none => rw [h] at e; cases e
    | some o =>
      rw [h] at e
      cases o with
      | lst ds =>
        obtain ⟨xs, e1, rfl⟩ := Option.map_eq_some_iff.mp e
        obtain ⟨b, vs, rfl, _, hb, q⟩ := lst_at rs r h
        exact .lst (SqL.of hb) (dats_ok rs n ds q e1)
      | _ => cases e
theorem dats_ok (rs : RS K cm p s H) : ∀ (n : Nat) (ds : List D) {vs : List V} {xs : List PyData}, RVs K p H ds vs → dats s n ds = some xs → DpAll K H vs xs
  | n, [], vs, xs, r, e => by
    cases n <;> (simp only [dats] at e; cases e; simp only [RVs] at r; rw [r]; exact .nil)
  | n, d :: ds, vs, xs, r, e => by
    simp only [RVs] at r
    obtain ⟨v, r', rfl, r1, r2⟩ := r
    simp only [dats] at e
    split at e
    · rename_i x xs' e1 e2
      cases e
      exact .cons (dat_ok rs n d r1 e1) (dats_ok rs n ds r2 e2)
    · cases e
end
/-- plain keys -/
theorem key_ok {d : D} {k : Key} {v : V} (h : keyOf d = some k) (r : RV K p H d v) : v = kV k := by
  cases d <;> simp only [keyOf] at h <;> first | (cases h; done) | skip
  · cases h; exact rv_int r
  · cases h; exact rv_str r
theorem keys_ok : ∀ {ds : List D} {ks : List Key} {vs : List V}, keysOf ds = some ks → RVs K p H ds vs → vs = ks.map kV
  | [], ks, vs, h, r => by
    simp only [keysOf] at h; cases h
    simp only [RVs] at r; rw [r]; rfl
  | d :: ds, ks, vs, h, r => by
    simp only [keysOf] at h
    simp only [RVs] at r
    obtain ⟨v, r', rfl, r1, r2⟩ := r
    split at h
    · rename_i k ks' e1 e2
      cases h
      rw [key_ok e1 r1, keys_ok e2 r2]; rfl
    · cases h
theorem RKs.get {κ : Type} [DecidableEq κ] (k : κ) : ∀ {ds : List (κ × D)} {vs : List (κ × V)}, RKs K p H ds vs → (∀ d, kget ds k = some d → ∃ v, valV vs k = some v ∧ RV K p H d v) ∧ (kget ds k = none → valV vs k = none)
  | [], vs, r => by
    simp only [RKs] at r; subst r
    exact ⟨fun d e => by simp [kget] at e, fun _ => rfl⟩
  | d :: ds, vs, r => by
    simp only [RKs] at r
    obtain ⟨v, r', rfl, r1, r2⟩ := r
    have ih := RKs.get k r2
    by_cases hk : d.1 = k
    · refine ⟨fun x e => ?_, fun e => ?_⟩
      · simp [kget, hk] at e; subst e
        exact ⟨v, by rw [valV_pos hk], r1⟩
      · simp [kget, hk] at e
    · refine ⟨fun x e => ?_, fun e => ?_⟩
      · have e' : kget ds k = some x := by simpa [kget, hk] using e
        obtain ⟨w, q1, q2⟩ := ih.1 x e'
        exact ⟨w, by rw [valV_neg hk]; exact q1, q2⟩
      · have e' : kget ds k = none := by simpa [kget, hk] using e
        rw [valV_neg hk]; exact ih.2 e'
theorem RKs.keys {κ : Type} : ∀ {ds : List (κ × D)} {vs : List (κ × V)}, RKs K p H ds vs → ds.map (·.1) = vs.map (·.1)
  | [], vs, r => by simp only [RKs] at r; rw [r]; rfl
  | d :: ds, vs, r => by
    simp only [RKs] at r
    obtain ⟨v, r', rfl, r1, r2⟩ := r
    simp [RKs.keys r2]
theorem RKs.length {κ : Type} {ds : List (κ × D)} {vs : List (κ × V)} (r : RKs K p H ds vs) : ds.length = vs.length := by
  have := congrArg List.length r.keys
  simpa using this
/-- what a dict, locked or not, gives at a key -/
theorem dget_ok (rs : RS K cm p s H) {n : Nat} {x : V} {o : O} {k : D} {kv : V} {r : Option D} (rx : RV K p H (.ref n) x) (h : s[n]? = some o) (rk : RV K p H k kv) (e : dget (unl o) k = some r) :
    ∃ a, x = .ref a ∧ ((∃ d v, r = some d ∧ DGet H a kv (some v) ∧ RV K p H d v) ∨ (r = none ∧ DGet H a kv none)) := by
  simp only [RV] at rx
  obtain ⟨a, ha, rfl⟩ := rx
  obtain ⟨b, hb, hr⟩ := rs.at h
  rw [ha] at hb; cases hb
  refine ⟨a, rfl, ?_⟩
  have rdK : ∀ kvs, unl o = .dK kvs → ∃ ws, Rd H a (.dK ws) ∧ RKs K p H kvs ws := fun kvs q => by
    cases o with
    | lck o' =>
      obtain ⟨od, u, e1, _, c⟩ := hr
      simp only [unl] at q; subst q
      obtain ⟨ws, rfl, c⟩ := c
      exact ⟨ws, .inr ⟨od, e1⟩, c⟩
    | dK _ =>
      simp only [unl] at q; cases q
      obtain ⟨u, e1, ws, rfl, c⟩ := hr
      exact ⟨ws, .inl e1, c⟩
    | _ => simp only [unl] at q; cases q
  have rdT : ∀ kvs, unl o = .dT kvs → ∃ ws, Rd H a (.dT ws) ∧ RKs K p H kvs ws := fun kvs q => by
    cases o with
    | lck o' =>
      obtain ⟨od, u, e1, _, c⟩ := hr
      simp only [unl] at q; subst q
      obtain ⟨ws, rfl, c⟩ := c
      exact ⟨ws, .inr ⟨od, e1⟩, c⟩
    | dT _ =>
      simp only [unl] at q; cases q
      obtain ⟨u, e1, ws, rfl, c⟩ := hr
      exact ⟨ws, .inl e1, c⟩
    | _ => simp only [unl] at q; cases q
  unfold dget at e
  split at e
  · rename_i kvs q
    obtain ⟨k', e1, rfl⟩ := Option.map_eq_some_iff.mp e
    obtain ⟨ws, h1, h2⟩ := rdK kvs q
    have ek := key_ok e1 rk
    subst ek
    have g := h2.get k'
    cases hg : kget kvs k' with
    | some d =>
      obtain ⟨v, g1, g2⟩ := g.1 d hg
      exact .inl ⟨d, v, rfl, .inl ⟨ws, k', h1, rfl, g1.symm⟩, g2⟩
    | none => exact .inr ⟨rfl, .inl ⟨ws, k', h1, rfl, (g.2 hg).symm⟩⟩
  · rename_i kvs q
    split at e
    · rename_i ds
      obtain ⟨k', e1, rfl⟩ := Option.map_eq_some_iff.mp e
      obtain ⟨ws, h1, h2⟩ := rdT kvs q
      obtain ⟨b, vs, rfl, hb, rb⟩ := rv_tup rk
      have ek := keys_ok e1 rb
      subst ek
      have g := h2.get k'
      cases hg : kget kvs k' with
      | some d =>
        obtain ⟨v, g1, g2⟩ := g.1 d hg
        exact .inl ⟨d, v, rfl, .inr ⟨ws, k', b, h1, rfl, hb, g1.symm⟩, g2⟩
      | none => exact .inr ⟨rfl, .inr ⟨ws, k', b, h1, rfl, hb, (g.2 hg).symm⟩⟩
    · cases e
  · cases e
end
section
variable {X : Cx} {cm : CM}
theorem s_oAdd : S2 X cm (binaryOp .Add) oAdd := by
  refine ⟨_, op_add.or (op_add_str.or (op_cat.or op_catA)), fun W p s σ H x y dx dy Q rs rx ry q => ?_⟩
  unfold oAdd at q
  split at q
  · rename_i i j
    exact .inl ⟨i, j, rv_int rx, rv_int ry, Po.ok q rs (mk_int _)⟩
  · rename_i a b
    split at q
    · rename_i h
      exact .inr (.inl ⟨a, b, rv_str rx, rv_str ry, sz_ok h, Po.ok q rs (mk_str _)⟩)
    · exact q.elim
  · rename_i a b
    split at q
    · rename_i h
      obtain ⟨c, vs, rfl, h1, r1⟩ := rv_tup rx
      obtain ⟨d, ws, rfl, h2, r2⟩ := rv_tup ry
      refine .inr (.inr (.inr ⟨c, d, vs, ws, rfl, rfl, SqT.of h1, SqT.of h2, by rw [← r1.length, ← r2.length]; exact sz_ok h, fun e => ?_, fun _ e => ?_, fun _ _ a ha => ?_⟩))
      · have e' : a = [] := List.length_eq_zero_iff.mp (by rw [r1.length, e]; rfl)
        subst e'
        exact Po.ok q rs (mk_tup h2 r2)
      · have e' : b = [] := List.length_eq_zero_iff.mp (by rw [r2.length, e]; rfl)
        subst e'
        refine Po.ok q rs ?_
        rw [List.append_nil]
        exact mk_tup h1 r1
      · exact Po.newt q rs (r1.append r2) ha
    · exact q.elim
  · rename_i m n
    split at q
    · rename_i a b h1 h2
      split at q
      · rename_i h
        obtain ⟨c, vs, rfl, _, g1, r1⟩ := lst_at rs rx h1
        obtain ⟨d, ws, rfl, _, g2, r2⟩ := lst_at rs ry h2
        exact .inr (.inr (.inl ⟨c, d, vs, ws, rfl, rfl, g1, g2, by rw [← r1.length, ← r2.length]; exact sz_ok h, fun a ha => Po.newl q rs (r1.append r2) ha⟩))
      · exact q.elim
    · exact q.elim
  · exact q.elim
theorem pur2_ok {K : PySem.W.Frag} {W : WX} {f : S → D → D → Option D} {p s σ H Q} {dx dy : D} (q : Po K cm W (RV K) p σ H (pur2 f dx dy s) Q) : ∃ d, f s dx dy = some d ∧ Po K cm W (RV K) p σ H (some (.ok d s)) Q := by
  unfold pur2 at q
  cases h : f s dx dy with
  | none => rw [h] at q; exact q.elim
  | some d => rw [h] at q; exact ⟨d, rfl, q⟩
theorem s_oSub : S2 X cm (binaryOp .Sub) oSub := by
  refine ⟨_, op_sub, fun W p s σ H x y dx dy Q rs rx ry q => ?_⟩
  obtain ⟨d, e, q⟩ := pur2_ok q
  split at e
  · rename_i i j
    cases e
    exact ⟨i, j, rv_int rx, rv_int ry, Po.ok q rs (mk_int _)⟩
  · cases e
theorem s_oMul : S2 X cm (binaryOp .Mult) oMul := by
  refine ⟨_, op_mulW.or op_rep, fun W p s σ H x y dx dy Q rs rx ry q => ?_⟩
  unfold oMul at q
  split at q
  · rename_i i j
    split at q
    · rename_i h
      refine .inl ⟨i, j, rv_int rx, rv_int ry, ?_, Po.ok q rs (mk_int _)⟩
      show i.natAbs.log2 + j.natAbs.log2 < 1000000
      unfold bits at h
      omega
    · exact q.elim
  · rename_i m k
    split at q
    · rename_i a h1
      split at q
      · rename_i h
        obtain ⟨c, vs, rfl, _, g1, r1⟩ := lst_at rs rx h1
        simp only [Bool.and_eq_true, decide_eq_true_eq] at h
        have hk : k.toNat = k.toNat := rfl
        refine .inr ⟨c, k, vs, rfl, rv_int ry, g1, ?_, by have := h.1.2; omega, by rw [← r1.length]; exact sz_ok h.2, fun b hb => ?_⟩
        · have := h.1.1
          omega
        · refine Po.newl q rs ?_ hb
          have : ∀ n : Nat, RVs X.K p H (List.replicate n a).flatten (List.replicate n vs).flatten := by
            intro n
            induction n with
            | zero => simp [RVs]
            | succ n ih =>
              rw [List.replicate_succ, List.replicate_succ, List.flatten_cons, List.flatten_cons]
              exact r1.append ih
          exact this _
      · exact q.elim
    · exact q.elim
  · exact q.elim
theorem s_oMod : S2 X cm (binaryOp .Mod) oMod := by
  refine ⟨_, op_mod, fun W p s σ H x y dx dy Q rs rx ry q => ?_⟩
  obtain ⟨d, e, q⟩ := pur2_ok q
  split at e
  · rename_i i j
    split at e
    · rename_i h
      cases e
      exact ⟨i, j, rv_int rx, rv_int ry, h, Po.ok q rs (mk_int _)⟩
    · cases e
  · cases e
theorem s_oDiv : S2 X cm (binaryOp .FloorDiv) oDiv := by
  refine ⟨_, op_fdivW, fun W p s σ H x y dx dy Q rs rx ry q => ?_⟩
  obtain ⟨d, e, q⟩ := pur2_ok q
  split at e
  · rename_i i j
    split at e
    · rename_i h
      cases e
      simp only [Bool.and_eq_true, decide_eq_true_eq] at h
      refine ⟨i, j, rv_int rx, rv_int ry, ⟨h.1, ?_⟩, Po.ok q rs (mk_int _)⟩
      have := h.2
      unfold bits at this
      omega
    · cases e
  · cases e
theorem op_powW : OpR X (binaryOp .Pow) (rI (fun i j => 0 ≤ j ∧ (Builtin.Int.intBits i : Int) * j ≤ 2 ^ 27) fun i j => .int (i ^ j.toNat)) := opI fun _ _ _ _ _ _ _ hc q => pow_int hc.1 hc.2 q
theorem s_oPow : S2 X cm (binaryOp .Pow) oPow := by
  refine ⟨_, op_powW, fun W p s σ H x y dx dy Q rs rx ry q => ?_⟩
  obtain ⟨d, e, q⟩ := pur2_ok q
  split at e
  · rename_i i j
    split at e
    · rename_i h
      cases e
      simp only [Bool.and_eq_true, decide_eq_true_eq] at h
      refine ⟨i, j, rv_int rx, rv_int ry, ⟨h.1, ?_⟩, Po.ok q rs (mk_int _)⟩
      have h2 := h.2
      have hb : Builtin.Int.intBits i ≤ bits i + 1 := by
        unfold Builtin.Int.intBits bits
        split <;> omega
      have h3 : Builtin.Int.intBits i * j.toNat ≤ 100000 := Nat.le_trans (Nat.mul_le_mul_right _ hb) h2
      have h4 : ((Builtin.Int.intBits i * j.toNat : Nat) : Int) = (Builtin.Int.intBits i : Int) * j := by
        rw [Int.natCast_mul, Int.toNat_of_nonneg h.1]
      omega
    · cases e
  · cases e
theorem s_cmpI {op : CmpOp} {f : Int → Int → Bool} (h : OpR X (compareOp op) (rI0 fun i j => .bl (f i j))) : S2 X cm (compareOp op) (cmpI f) := by
  refine ⟨_, h, fun W p s σ H x y dx dy Q rs rx ry q => ?_⟩
  obtain ⟨d, e, q⟩ := pur2_ok q
  split at e
  · rename_i i j
    cases e
    exact ⟨i, j, rv_int rx, rv_int ry, Po.ok q rs (mk_bl _)⟩
  · cases e
theorem s_oLt : S2 X cm (compareOp .Lt) oLt := s_cmpI op_lt
theorem s_oLe : S2 X cm (compareOp .LtE) oLe := s_cmpI op_le
theorem s_oGt : S2 X cm (compareOp .Gt) oGt := s_cmpI op_gt
section
variable {K : PySem.W.Frag} {cm : CM} {W : WX} {p : List Addr} {s : S} {σ : L2.St} {H : Hp} {X : Cx} {pins : List (Addr × Obj)} {s0 : Shared}
theorem zlstAt_ok {n : Nat} {ds : List D} (h : lstAt s n = some ds) : s[n]? = some (.lst ds) := by
  unfold lstAt at h
  split at h
  · rename_i e; cases h; exact e
  · cases h
theorem allT_len {f : D → D → Option Bool} : ∀ {ds es : List D}, allT f ds es = true → ds.length = es.length
  | [], [], _ => rfl
  | _ :: ds, _ :: es, h => by
    simp only [allT, Bool.and_eq_true] at h
    simp [allT_len h.2]
  | [], _ :: _, h => by simp [allT] at h
  | _ :: _, [], h => by simp [allT] at h
theorem zall_true {n : Nat} : (List.range n).all (fun _ => true) = true := by simp
theorem zlst_items {n : Nat} {x : V} {v : Value} {ds : List D} (I : Inv X pins σ H s0) (rs : RS X.K cm p s H) (r : RV X.K p H (.ref n) x) (rx : RelV x v) (h : s[n]? = some (.lst ds)) :
    ∃ a vs us, v = .ref a ∧ RVs X.K p H ds vs ∧ Vals vs us ∧ s0.heap.IsList a us.toArray := by
  obtain ⟨a, vs, rfl, _, hH, rr⟩ := lst_at rs r h
  obtain ⟨us, r2, pl, _⟩ := I.list (SqL.of hH)
  cases (show v = Value.ref a from rx)
  exact ⟨a, vs, us, rfl, rr, r2, pl.isList⟩
theorem ztup_items {x : V} {v : Value} {ds : List D} (I : Inv X pins σ H s0) (r : RV X.K p H (.tup ds) x) (rx : RelV x v) :
    ∃ a vs us, v = .ref a ∧ RVs X.K p H ds vs ∧ Vals vs us ∧ s0.heap.IsTuple a us.toArray := by
  obtain ⟨a, vs, rfl, hH, rr⟩ := rv_tup r
  obtain ⟨us, r2, ⟨o, e, c, n, d⟩, _⟩ := I.tuple (SqT.of hH)
  cases (show v = Value.ref a from rx)
  exact ⟨a, vs, us, rfl, rr, r2, ⟨o, e, c, n, d⟩⟩
theorem zitems_at {A : Around} {f : D → D → Option Bool} (hf : ∀ (a b : D) {x y : V} {v u : Value}, RV X.K p H a x → RV X.K p H b y → RelV x v → RelV y u → f a b = some true → SeqAt.EqAt A s0 v u true) :
    ∀ (ds es : List D) {vs ws : List V} {us ts : List Value}, RVs X.K p H ds vs → RVs X.K p H es ws → Vals vs us → Vals ws ts → allT f ds es = true → ∀ j (h1 : j < us.length) (h2 : j < ts.length), SeqAt.EqAt A s0 us[j] ts[j] true
  | [], _, vs, ws, us, ts, w1, _, w2, _, _, j, h1, _ => by
    simp only [RVs] at w1
    subst w1
    cases w2
    simp at h1
  | _ :: _, [], vs, ws, us, ts, w1, z1, w2, z2, ht, j, _, _ => by simp [allT] at ht
  | d :: ds, e :: es, vs, ws, us, ts, w1, z1, w2, z2, ht, j, h1, h2 => by
    simp only [allT, Bool.and_eq_true, beq_iff_eq] at ht
    simp only [RVs] at w1 z1
    obtain ⟨v, r, rfl, w3, w4⟩ := w1
    obtain ⟨v', r', rfl, z3, z4⟩ := z1
    cases w2 with
    | cons w5 w6 =>
    cases z2 with
    | cons z5 z6 =>
    cases j with
    | zero => exact hf d e w3 z3 w5 z5 ht.1
    | succ j => exact zitems_at hf ds es w4 z4 w6 z6 ht.2 j (Nat.lt_of_succ_lt_succ h1) (Nat.lt_of_succ_lt_succ h2)
theorem eqZ_at (I : Inv X pins σ H s0) (rs : RS X.K cm p s H) : ∀ (n : Nat) (A : Around) (a b : D) {x y : V} {v u : Value} {k : Bool}, RV X.K p H a x → RV X.K p H b y → RelV x v → RelV y u → eqZ s n a b = some k → A.units + n + 64 < cLine → SeqAt.EqAt A s0 v u k
  | 0, A, a, b, x, y, v, u, k, r1, r2, q1, q2, e, hu => by simp [eqZ] at e
  | n + 1, A, a, b, x, y, v, u, k, r1, r2, q1, q2, e, hu => by
    unfold eqZ at e
    split at e
    · rename_i d d' e1 e2
      split at e
      · rename_i h
        simp only [Bool.and_eq_true] at h
        cases e
        obtain ⟨as, w1⟩ := Dp.reads I d x v (dat_ok rs 60 a r1 e1) q1
        obtain ⟨bs, w2⟩ := Dp.reads I d' y u (dat_ok rs 60 b r2 e2) q2
        exact SeqAt.eqAt_reads d d' A s0 v u as bs w1 w2 (SeqAt.canLay_of_shaped h.1) (SeqAt.canLay_of_shaped h.2) (SeqAt.room_of_shaped h.1 (by omega))
      · cases e
    · split at e
      · rename_i i j
        split at e
        · rename_i hij
          subst hij
          cases e
          simp only [RV] at r1 r2
          obtain ⟨t, h1, rfl⟩ := r1
          obtain ⟨t', h2, rfl⟩ := r2
          rw [h1] at h2
          cases h2
          cases (show v = Value.ref t from q1)
          cases (show u = Value.ref t from q2)
          exact SeqAt.EqAt.same _
        · rename_i hij
          split at e
          · rename_i ds es l1 l2
            obtain ⟨a1, vs, us, rfl, w1, w2, w3⟩ := zlst_items I rs r1 q1 (zlstAt_ok l1)
            obtain ⟨a2, vs', us', rfl, z1, z2, z3⟩ := zlst_items I rs r2 q2 (zlstAt_ok l2)
            have n1 : us.length = ds.length := by rw [← w2.length, w1.length]
            have n2 : us'.length = es.length := by rw [← z2.length, z1.length]
            split at e
            · rename_i hl
              split at e
              · rename_i ht
                cases e
                by_cases hne : a1 = a2
                · subst hne
                  exact SeqAt.EqAt.same _
                · have := SeqAt.RcAt.lists (e := fun _ => true) w3 z3 (by simp; omega) (by omega) fun j j1 j2 => zitems_at (fun a b x y v u r1 r2 q1 q2 e => eqZ_at I rs n A.in1 a b r1 r2 q1 q2 e (by show A.units + 1 + n + 64 < cLine; omega)) ds es w1 z1 w2 z2 ht j (by simpa using j1) (by simpa using j2)
                  rw [zall_true] at this
                  exact SeqAt.EqAt.of_refs hne this
              · cases e
            · rename_i hl
              cases e
              have hne : a1 ≠ a2 := fun z => by
                subst z
                obtain ⟨o, g1, _, m1, g2⟩ := w3
                obtain ⟨o', g1', _, m1', g2'⟩ := z3
                rw [g1] at g1'
                cases g1'
                rw [g2] at g2'
                have : us.toArray.size = us'.toArray.size := by injection g2' with z; rw [z]
                simp at this
                omega
              exact SeqAt.EqAt.of_refs hne (SeqAt.RcAt.lists_lengths w3 z3 (by simp; omega) (by omega))
          · cases e
      · rename_i ds es _
        split at e
        · rename_i ht
          cases e
          obtain ⟨a1, vs, us, rfl, w1, w2, w3⟩ := ztup_items I r1 q1
          obtain ⟨a2, vs', us', rfl, z1, z2, z3⟩ := ztup_items I r2 q2
          have n1 : us.length = ds.length := by rw [← w2.length, w1.length]
          have n2 : us'.length = es.length := by rw [← z2.length, z1.length]
          have hl := allT_len ht
          by_cases hne : a1 = a2
          · subst hne
            exact SeqAt.EqAt.same _
          · have := SeqAt.RcAt.tuples (e := fun _ => true) w3 z3 (by omega) fun j j1 j2 => zitems_at (fun a b x y v u r1 r2 q1 q2 e => eqZ_at I rs n A.in1 a b r1 r2 q1 q2 e (by show A.units + 1 + n + 64 < cLine; omega)) ds es w1 z1 w2 z2 ht j (by simpa using j1) (by simpa using j2)
            rw [zall_true, show (us.toArray.size == us'.toArray.size) = true by simp; omega] at this
            exact SeqAt.EqAt.of_refs hne this
        · cases e
      · cases e
theorem eqT_at {A : Around} {ne : Bool} (I : Inv X pins σ H s0) (rs : RS X.K cm p s H) {a b : D} {x y : V} {v u : Value} {k : Bool} (r1 : RV X.K p H a x) (r2 : RV X.K p H b y) (q1 : RelV x v) (q2 : RelV y u) (e : eqT s a b = some k) (hu : A.units + 80 < cLine) :
    SeqAt.RcAt A s0 v u k ∧ SeqAt.RcNeAt A s0 v u (!k) := by
  unfold eqT at e
  split at e
  · split at e
    · rename_i ds es l1 l2
      obtain ⟨a1, vs, us, rfl, w1, w2, w3⟩ := zlst_items I rs r1 q1 (zlstAt_ok l1)
      obtain ⟨a2, vs', us', rfl, z1, z2, z3⟩ := zlst_items I rs r2 q2 (zlstAt_ok l2)
      have n1 : us.length = ds.length := by rw [← w2.length, w1.length]
      have n2 : us'.length = es.length := by rw [← z2.length, z1.length]
      split at e
      · rename_i hl
        split at e
        · rename_i ht
          cases e
          have he : ∀ j (j1 : j < us.toArray.size) (j2 : j < us'.toArray.size), SeqAt.EqAt A.in1 s0 us.toArray[j] us'.toArray[j] ((fun _ => true) j) := fun j j1 j2 => zitems_at (fun a b x y v u r1 r2 q1 q2 e => eqZ_at I rs 8 A.in1 a b r1 r2 q1 q2 e (by show A.units + 1 + 8 + 64 < cLine; omega)) ds es w1 z1 w2 z2 ht j (by simpa using j1) (by simpa using j2)
          have h1 := SeqAt.RcAt.lists (e := fun _ => true) w3 z3 (by simp; omega) (by omega) he
          have h2 := SeqAt.RcNeAt.lists (e := fun _ => true) w3 z3 (by simp; omega) (by omega) he
          rw [zall_true] at h1 h2
          exact ⟨h1, h2⟩
        · cases e
      · rename_i hl
        cases e
        exact ⟨SeqAt.RcAt.lists_lengths w3 z3 (by simp; omega) (by omega), SeqAt.RcNeAt.lists_lengths w3 z3 (by simp; omega) (by omega)⟩
    · cases e
  · cases e
def rZ (K : PySem.W.Frag) (cm : CM) (g : Bool → Bool) : R2 := fun x y H Q => ∃ p s dx dy b, RS K cm p s H ∧ RV K p H dx x ∧ RV K p H dy y ∧ eqT s dx dy = some b ∧ Q (.bl (g b)) H
theorem op_eqZ {k : Nat} (hr : Room k X.A) : OpR X (compareOp .Eq) (rZ X.K cm id) := by
  intro pins s0 σ H x y v u Q I rx ry h
  obtain ⟨p, s, dx, dy, b, rs, r1, r2, e, q⟩ := h
  exact (eqT_at (ne := true) I rs r1 r2 rx ry e (by have := hr.un; omega)).1 X.prog X.w _ _ ⟨.bl b, H, I, rfl, q⟩
theorem op_neZ {k : Nat} (hr : Room k X.A) : OpR X (compareOp .NotEq) (rZ X.K cm not) := by
  intro pins s0 σ H x y v u Q I rx ry h
  obtain ⟨p, s, dx, dy, b, rs, r1, r2, e, q⟩ := h
  exact (eqT_at (ne := true) I rs r1 r2 rx ry e (by have := hr.un; omega)).2 X.prog X.w _ _ ⟨.bl (!b), H, I, rfl, q⟩
end
theorem eqD_ok {K : PySem.W.Frag} {p : List Addr} {s : S} {H : Hp} {dx dy : D} {x y : V} {b : Bool} (rs : RS K cm p s H) (rx : RV K p H dx x) (ry : RV K p H dy y) (e : eqD s dx dy = some b) :
    (∃ d d', Dp K H x d ∧ Dp K H y d' ∧ SeqAt.shaped d = true ∧ SeqAt.shaped d' = true ∧ PyData.eqv d d' = b) ∨ eqT s dx dy = some b := by
  unfold eqD at e
  split at e
  · rename_i d d' e1 e2
    split at e
    · rename_i h
      simp only [Bool.and_eq_true] at h
      cases e
      exact .inl ⟨d, d', dat_ok rs 60 dx rx e1, dat_ok rs 60 dy ry e2, h.1, h.2, rfl⟩
    · cases e
  · exact .inr e
theorem s_oEq {k : Nat} (hr : Room k X.A) : S2 X cm (compareOp .Eq) oEq := by
  refine ⟨fun x y H Q => rEqD X.K x y H Q ∨ rZ X.K cm id x y H Q, fun pins s σ H x y v u Q I rx ry h => h.elim (fun h => op_eqD hr.units pins s σ H x y v u Q I rx ry h) fun h => op_eqZ hr pins s σ H x y v u Q I rx ry h, fun W p s σ H x y dx dy Q rs rx ry q => ?_⟩
  obtain ⟨d, e, q⟩ := pur2_ok q
  obtain ⟨b, e1, rfl⟩ := Option.map_eq_some_iff.mp e
  have q' := Po.ok q rs (mk_bl _)
  rcases eqD_ok rs rx ry e1 with ⟨d, d', h1, h2, h3, h4, h5⟩ | h
  · exact .inl ⟨d, d', h1, h2, h3, h4, by rw [h5]; exact q'⟩
  · exact .inr ⟨p, s, dx, dy, b, rs, rx, ry, h, q'⟩
theorem s_oNe {k : Nat} (hr : Room k X.A) : S2 X cm (compareOp .NotEq) oNe := by
  refine ⟨fun x y H Q => rNeD X.K x y H Q ∨ rZ X.K cm not x y H Q, fun pins s σ H x y v u Q I rx ry h => h.elim (fun h => op_neD hr.units pins s σ H x y v u Q I rx ry h) fun h => op_neZ hr pins s σ H x y v u Q I rx ry h, fun W p s σ H x y dx dy Q rs rx ry q => ?_⟩
  obtain ⟨d, e, q⟩ := pur2_ok q
  obtain ⟨b, e1, rfl⟩ := Option.map_eq_some_iff.mp e
  have q' := Po.ok q rs (mk_bl _)
  rcases eqD_ok rs rx ry e1 with ⟨d, d', h1, h2, h3, h4, h5⟩ | h
  · exact .inl ⟨d, d', h1, h2, h3, h4, by rw [h5]; exact q'⟩
  · exact .inr ⟨p, s, dx, dy, b, rs, rx, ry, h, q'⟩
theorem flat_ok {K : PySem.W.Frag} {p : List Addr} {H : Hp} {d : D} {v : V} (h : flat d = true) (r : RV K p H d v) : v = vOf d ∧ flatV v = true := by
  cases d <;> simp only [flat] at h <;> first | (cases h; done) | skip
  · rw [rv_non r]; exact ⟨rfl, rfl⟩
  · rw [rv_bl r]; exact ⟨rfl, rfl⟩
  · rw [rv_int r]; exact ⟨rfl, rfl⟩
  · rw [rv_str r]; exact ⟨rfl, rfl⟩
theorem flats_ok {K : PySem.W.Frag} {p : List Addr} {H : Hp} : ∀ {ds : List D} {vs : List V}, ds.all flat = true → RVs K p H ds vs → vs = ds.map vOf ∧ vs.all flatV = true
  | [], vs, _, r => by simp only [RVs] at r; subst r; exact ⟨rfl, rfl⟩
  | d :: ds, vs, h, r => by
    simp only [RVs] at r
    obtain ⟨v, r', rfl, r1, r2⟩ := r
    simp only [List.all_cons, Bool.and_eq_true] at h
    obtain ⟨e1, f1⟩ := flat_ok h.1 r1
    obtain ⟨e2, f2⟩ := flats_ok h.2 r2
    exact ⟨by rw [e1, e2]; rfl, by simp [f1, f2]⟩
def rNotInDk : R2 := fun x y H Q => ∃ a o, y = .ref a ∧ DGet H a x o ∧ Q (.bl (!o.isSome)) H
theorem op_notInDk (hu : X.A.units + 1 < cLine) : OpR X (compareOp .NotIn) rNotInDk := by
  intro pins s σ H x y v u Q I rx ry h
  obtain ⟨a, o, rfl, g, q⟩ := h
  cases (show u = Value.ref a from ry)
  exact d_notIn hu I g rx fun s' I' => ⟨.bl _, H, I', rfl, q⟩
theorem units65 {k : Nat} {A : Around} (hr : Room k A) : A.units + 65 < cLine := by have := hr.un; omega
theorem isIn_ok {K : PySem.W.Frag} {p : List Addr} {s : S} {H : Hp} {dx dy : D} {x y : V} {b : Bool} (rs : RS K cm p s H) (rx : RV K p H dx x) (ry : RV K p H dy y) (e : isIn s dx dy = some b) :
    (∃ i j, x = .str i ∧ y = .str j ∧ b = !(Builtin.Str.occurrences j i 0 j.length 1).isEmpty) ∨
    (∃ a xs, y = .ref a ∧ (SqL K H a xs ∨ SqT K H a xs) ∧ flatV x = true ∧ xs.all flatV = true ∧ b = inV x xs) ∨
    (∃ d ds, Dp K H x d ∧ Dp K H y (.list ds) ∧ SeqAt.shaped d = true ∧ SeqAt.shaped (.list ds) = true ∧ b = ds.any fun z => PyData.eqv z d) ∨
    (∃ a o, y = .ref a ∧ DGet H a x o ∧ b = o.isSome) := by
  unfold isIn at e
  split at e
  · rename_i j
    split at e
    · rename_i i
      cases e
      exact .inl ⟨i, j, rv_str rx, rv_str ry, rfl⟩
    · cases e
  · rename_i ds
    split at e
    · rename_i h
      simp only [Bool.and_eq_true] at h
      cases e
      obtain ⟨a, vs, rfl, h1, r1⟩ := rv_tup ry
      obtain ⟨e1, f1⟩ := flat_ok h.1 rx
      obtain ⟨e2, f2⟩ := flats_ok h.2 r1
      refine .inr (.inl ⟨a, vs, rfl, .inr (SqT.of h1), f1, f2, ?_⟩)
      rw [e2, e1]
      unfold inV
      rw [List.any_map]
      rfl
    · cases e
  · rename_i n
    split at e
    · rename_i ds h
      split at e
      · rename_i d es e1 e2
        split at e
        · rename_i h'
          simp only [Bool.and_eq_true] at h'
          cases e
          obtain ⟨a, vs, rfl, _, g, r⟩ := lst_at rs ry h
          exact .inr (.inr (.inl ⟨d, es, dat_ok rs 60 dx rx e1, .lst (SqL.of g) (dats_ok rs 60 ds r e2), h'.1, h'.2, rfl⟩))
        · cases e
      · cases e
    · rename_i o h1 h2
      obtain ⟨r, e1, rfl⟩ := Option.map_eq_some_iff.mp e
      obtain ⟨a, rfl, h⟩ := dget_ok rs ry h2 rx e1
      rcases h with ⟨d, v, rfl, g, _⟩ | ⟨rfl, g⟩
      · exact .inr (.inr (.inr ⟨a, _, rfl, g, rfl⟩))
      · exact .inr (.inr (.inr ⟨a, _, rfl, g, rfl⟩))
    · cases e
  · cases e
theorem s_oNotIn {k : Nat} (hr : Room k X.A) : S2 X cm (compareOp .NotIn) oNotIn := by
  refine ⟨_, L2.op_notin_str.or (op_notIn_seq.or ((op_notInD (units65 hr)).or (op_notInDk (hu_of hr)))), fun W p s σ H x y dx dy Q rs rx ry q => ?_⟩
  obtain ⟨d, e, q⟩ := pur2_ok q
  obtain ⟨b, e1, rfl⟩ := Option.map_eq_some_iff.mp e
  have q' := Po.ok q rs (mk_bl _)
  rcases isIn_ok rs rx ry e1 with ⟨i, j, h1, h2, h3⟩ | ⟨a, xs, h1, h2, h3, h4, h5⟩ | ⟨d, ds, h1, h2, h3, h4, h5⟩ | ⟨a, o, h1, h2, h3⟩
  · exact .inl ⟨i, j, h1, h2, h3 ▸ q'⟩
  · refine .inr (.inl ⟨a, xs, h1, h2, h3, h4, ?_⟩)
    rw [h5] at q'
    exact q'
  · exact .inr (.inr (.inl ⟨d, ds, h1, h2, h3, h4, h5 ▸ q'⟩))
  · exact .inr (.inr (.inr ⟨a, o, h1, h2, h3 ▸ q'⟩))
end
end Fc
namespace Fc
open PySem PySem.Spec PyProof.Rows L2
section
variable {K : PySem.W.Frag} {cm : CM} {W : WX} {p : List Addr} {s : S} {σ : L2.St} {H : Hp}
theorem isEmpty_len {a b : Type} {x : List a} {y : List b} (h : x.length = y.length) : (!x.isEmpty) = !y.isEmpty := by
  cases x <;> cases y <;> simp_all
theorem truth_ok {d : D} {x : V} {k : Bool} (rs : RS K cm p s H) (r : RV K p H d x) (e : truth s d = some k) : TruV K x H k := by
  unfold truth at e
  split at e
  · cases e; rw [rv_non r]; exact rfl
  · cases e; rw [rv_bl r]; exact rfl
  · cases e; rw [rv_int r]; exact rfl
  · split at e
    · rename_i h
      cases e; rw [rv_str r]; exact ⟨sz_ok h, rfl⟩
    · cases e
  · cases e
    obtain ⟨a, vs, rfl, h1, r1⟩ := rv_tup r
    exact .inr (.inl ⟨vs, SqT.of h1, isEmpty_len r1.length⟩)
  · cases e
    simp only [RV] at r
    obtain ⟨a, vs, rfl, h1, r1⟩ := r
    exact .inl ⟨vs, h1.1, isEmpty_len r1.length⟩
  · rename_i n
    split at e
    · rename_i ds h
      cases e
      obtain ⟨a, vs, rfl, _, h1, r1⟩ := lst_at rs r h
      exact .inl ⟨vs, SqL.of h1, isEmpty_len r1.length⟩
    · rename_i kvs h
      cases e
      simp only [RV] at r
      obtain ⟨a, ha, rfl⟩ := r
      obtain ⟨b, hb, u, h1, ws, rfl, r1⟩ := rs.at h
      rw [ha] at hb; cases hb
      exact .inr (.inr ⟨ws, h1, isEmpty_len r1.length⟩)
    · cases e
end
section
variable {X : Cx} {cm : CM} {W : WX} {a b c : Expr} {fa fb fc : E} {ft fu : T} {pos : Pos} {rest : List Expr}
theorem r_one {op} (h : JE X cm W a fa) : JE X cm W (.BoolOp op [a] pos) fa := pe_one h
theorem r_or (ha : JE X cm W a fa) (hb : JE X cm W (.BoolOp .Or (b :: rest) pos) fb) : JE X cm W (.BoolOp .Or (a :: b :: rest) pos) (eOr fa fb) := by
  refine (pe_orT ha hb).imp fun σ H Q q => ?_
  obtain ⟨p, e, s, re, rs, q⟩ := q
  refine ⟨p, e, s, re, rs, (Po.bnd (rel1 := RV X.K) q).imp ?_⟩
  rintro x H1 ⟨d, p1, s1, f, rs1, r1, q⟩
  cases h : truth s1 d with
  | none => simp only [h] at q; exact q.elim
  | some c =>
    simp only [h] at q
    refine ⟨c, truth_ok rs1 r1 h, ?_⟩
    cases c with
    | true => exact iteT (Po.ok q rs1 r1)
    | false => exact iteF ⟨p1, e, s1, re.mono f, rs1, q⟩
theorem r_and (ha : JE X cm W a fa) (hb : JE X cm W (.BoolOp .And (b :: rest) pos) fb) : JE X cm W (.BoolOp .And (a :: b :: rest) pos) (eAnd fa fb) := by
  refine (pe_andT ha hb).imp fun σ H Q q => ?_
  obtain ⟨p, e, s, re, rs, q⟩ := q
  refine ⟨p, e, s, re, rs, (Po.bnd (rel1 := RV X.K) q).imp ?_⟩
  rintro x H1 ⟨d, p1, s1, f, rs1, r1, q⟩
  cases h : truth s1 d with
  | none => simp only [h] at q; exact q.elim
  | some c =>
    simp only [h] at q
    refine ⟨c, truth_ok rs1 r1 h, ?_⟩
    cases c with
    | true => exact iteT ⟨p1, e, s1, re.mono f, rs1, q⟩
    | false => exact iteF (Po.ok q rs1 r1)
theorem tE_bnd {f : E} {σ : L2.St} {H : Hp} {Q : Bool → Hp → Prop} (q : tT X.K cm W (tE f) σ H Q) : tD X.K cm W f σ H fun x H1 => ∃ k, TruV X.K x H1 k ∧ Q k H1 := by
  obtain ⟨p, e, s, re, rs, q⟩ := q
  refine ⟨p, e, s, re, rs, (Po.bnd (rel1 := RV X.K) q).imp ?_⟩
  rintro x H1 ⟨d, p1, s1, f, rs1, r1, q⟩
  cases h : truth s1 d with
  | none => simp only [h] at q; exact q.elim
  | some c =>
    simp only [h] at q
    exact ⟨c, truth_ok rs1 r1 h, Po.ok q rs1 rfl⟩
theorem r_notv (ha : JE X cm W a fa) : JE X cm W (.UnaryOp .Not a pos) (eNotT (tE fa)) := by
  refine (pe_notT ha).imp fun σ H Q q => ?_
  obtain ⟨p, e, s, re, rs, q⟩ := q
  refine tE_bnd (Q := fun k H1 => Q (.bl (!k)) H1) ⟨p, e, s, re, rs, (Po.bnd (rel1 := rB) q).imp ?_⟩
  rintro x H1 ⟨d, p1, s1, f, rs1, r1, q⟩
  obtain rfl : d = x := r1
  exact Po.ok q rs1 (mk_bl _)
theorem r_if (ht : JT X cm W c ft) (ha : JE X cm W a fa) (hb : JE X cm W b fb) : JE X cm W (.IfExp c a b pos) (eIf ft fa fb) := by
  refine (pe_ifExp ht ha hb).imp fun σ H Q q => ?_
  obtain ⟨p, e, s, re, rs, q⟩ := q
  refine ⟨p, e, s, re, rs, (Po.bnd (rel1 := rB) q).imp ?_⟩
  rintro x H1 ⟨d, p1, s1, f, rs1, r1, q⟩
  obtain rfl : d = x := r1
  cases d with
  | true => exact iteT ⟨p1, e, s1, re.mono f, rs1, q⟩
  | false => exact iteF ⟨p1, e, s1, re.mono f, rs1, q⟩
theorem r_truth (ha : JE X cm W a fa) (he : ∀ whole, isTrue a X.env whole = (do let v ← whole; standAt a.pos; holding [v] (truthy v)) := by intro _; rfl) : JT X cm W a (tE fa) := by
  exact (pt_truth ha he).imp fun σ H Q q => tE_bnd q
theorem r_tnot (ht : JT X cm W a ft) : JT X cm W (.UnaryOp .Not a pos) (tNot ft) := by
  refine (pt_not ht).imp fun σ H Q q => ?_
  obtain ⟨p, e, s, re, rs, q⟩ := q
  refine ⟨p, e, s, re, rs, (Po.bnd (rel1 := rB) q).imp ?_⟩
  rintro x H1 ⟨d, p1, s1, f, rs1, r1, q⟩
  obtain rfl : d = x := r1
  exact Po.ok q rs1 rfl
theorem r_tw (h : JW X cm W a ft) : JT X cm W a ft := PW.pt h
theorem r_wor1 (h : JT X cm W a ft) : JW X cm W (.BoolOp .Or [a] pos) ft := pw_or1 h
theorem r_wand1 (h : JT X cm W a ft) : JW X cm W (.BoolOp .And [a] pos) ft := pw_and1 h
theorem r_wor (ha : JT X cm W a ft) (hb : JW X cm W (.BoolOp .Or (b :: rest) pos) fu) : JW X cm W (.BoolOp .Or (a :: b :: rest) pos) (tOr ft fu) := by
  refine (pw_or ha hb).imp fun σ H Q q => ?_
  obtain ⟨p, e, s, re, rs, q⟩ := q
  refine ⟨p, e, s, re, rs, (Po.bnd (rel1 := rB) q).imp ?_⟩
  rintro x H1 ⟨d, p1, s1, f, rs1, r1, q⟩
  obtain rfl : d = x := r1
  cases d with
  | true => exact iteT (Po.ok q rs1 rfl)
  | false => exact iteF ⟨p1, e, s1, re.mono f, rs1, q⟩
theorem r_wand (ha : JT X cm W a ft) (hb : JW X cm W (.BoolOp .And (b :: rest) pos) fu) : JW X cm W (.BoolOp .And (a :: b :: rest) pos) (tAnd ft fu) := by
  refine (pw_and ha hb).imp fun σ H Q q => ?_
  obtain ⟨p, e, s, re, rs, q⟩ := q
  refine ⟨p, e, s, re, rs, (Po.bnd (rel1 := rB) q).imp ?_⟩
  rintro x H1 ⟨d, p1, s1, f, rs1, r1, q⟩
  obtain rfl : d = x := r1
  cases d with
  | true => exact iteT ⟨p1, e, s1, re.mono f, rs1, q⟩
  | false => exact iteF (Po.ok q rs1 rfl)
/-- from an expression's reading to the reading of it as a True or False -/
theorem tB_bnd {f : E} {σ : L2.St} {H : Hp} {Q : Bool → Hp → Prop} (q : tT X.K cm W (tB f) σ H Q) : tD X.K cm W f σ H fun x H1 => ∃ k, x = .bl k ∧ Q k H1 := by
  obtain ⟨p, e, s, re, rs, q⟩ := q
  refine ⟨p, e, s, re, rs, (Po.bnd (rel1 := RV X.K) q).imp ?_⟩
  rintro x H1 ⟨d, p1, s1, f, rs1, r1, q⟩
  split at q
  · exact ⟨_, rv_bl r1, Po.ok q rs1 rfl⟩
  · exact q.elim
theorem r_tcmp {op : CmpOp} {f : D → D → M D} (ho : S2 X cm (compareOp op) f) (ha : JE X cm W a fa) (hb : JE X cm W b fb) (hm : behindInMarks op b = false := by first | exact nomark _ | rfl) : JT X cm W (.Compare a [op] [b] pos) (tB (e2 f fa fb)) := by
  obtain ⟨r, h1, h2⟩ := ho
  refine (pt_cmpR h1 ha hb hm).imp fun σ H Q q => ?_
  refine (?_ : tOp r _ _ σ H _)
  obtain ⟨p, e, s, re, rs, q⟩ := tD.two (tB_bnd q)
  refine ⟨p, e, s, re, rs, q.imp ?_⟩
  rintro x H1 ⟨p, e, s, re, rs, q⟩
  refine ⟨p, e, s, re, rs, q.imp ?_⟩
  rintro y H2 ⟨p, e, s, d1, d2, re, rs, r1, r2, q⟩
  exact h2 W p s σ H2 x y d1 d2 _ rs r1 r2 q
theorem r_tisN {j : Nat} {pos' : Pos} {y : Expr} (ha : JE X cm W a fa) (hy : y = .Constant .none j pos' := by rfl) : JT X cm W (.Compare a [.Is] [y] pos) (tB (e1 oIsN fa)) := by
  subst hy
  refine (pt_cmp (pc_isN ha) rfl).imp fun σ H Q q => ?_
  obtain ⟨p, e, s, re, rs, q⟩ := tD.bnd (tB_bnd q)
  refine ⟨p, e, s, re, rs, q.imp ?_⟩
  rintro x H1 ⟨p, e, s, d, re, rs, r1, q⟩
  refine Po.ok q rs ?_
  cases d <;> simp only [RV] at r1 ⊢ <;> first | (subst r1; rfl) | (obtain ⟨_, _, rfl, _⟩ := r1; rfl) | (obtain ⟨_, _, rfl⟩ := r1; rfl)
theorem r_tnotN {j : Nat} {pos' : Pos} {y : Expr} (ha : JE X cm W a fa) (hy : y = .Constant .none j pos' := by rfl) : JT X cm W (.Compare a [.IsNot] [y] pos) (tB (e1 oNotN fa)) := by
  subst hy
  refine (pt_cmp (pc_notN ha) rfl).imp fun σ H Q q => ?_
  obtain ⟨p, e, s, re, rs, q⟩ := tD.bnd (tB_bnd q)
  refine ⟨p, e, s, re, rs, q.imp ?_⟩
  rintro x H1 ⟨p, e, s, d, re, rs, r1, q⟩
  refine Po.ok q rs ?_
  cases d <;> simp only [RV] at r1 ⊢ <;> first | (subst r1; rfl) | (obtain ⟨_, _, rfl, _⟩ := r1; rfl) | (obtain ⟨_, _, rfl⟩ := r1; rfl)
theorem chain_rd {r r' : R2} {f g : D → D → M D} (h2 : ∀ (W : WX) p s σ H x y dx dy Q, RS X.K cm p s H → RV X.K p H dx x → RV X.K p H dy y → Po X.K cm W (RV X.K) p σ H (f dx dy s) Q → r x y H Q)
    (h2' : ∀ (W : WX) p s σ H x y dx dy Q, RS X.K cm p s H → RV X.K p H dx x → RV X.K p H dy y → Po X.K cm W (RV X.K) p σ H (g dx dy s) Q → r' x y H Q)
    {σ : L2.St} {H : Hp} {Q : VK} (q : tD X.K cm W (eChain f g fa fb fc) σ H Q) : tD X.K cm W fa σ H fun x H1 => tD X.K cm W fb σ H1 fun y H2 => r x y H2 fun z H3 => ∃ k, z = .bl k ∧ if k = true then tD X.K cm W fc σ H3 fun w H4 => r' y w H4 Q else Q (.bl false) H3 := by
  obtain ⟨p, e, s, re, rs, q⟩ := q
  refine ⟨p, e, s, re, rs, (Po.bnd (rel1 := RV X.K) q).imp ?_⟩
  rintro x H1 ⟨d, p1, s1, f1, rs1, r1, q⟩
  refine ⟨p1, e, s1, re.mono f1, rs1, (Po.bnd (rel1 := RV X.K) q).imp ?_⟩
  rintro y H2 ⟨d', p2, s2, f2, rs2, r2, q⟩
  refine h2 W p2 s2 σ H2 x y d d' _ rs2 (r1.mono f2) r2 ((Po.bnd (rel1 := RV X.K) q).imp ?_)
  rintro z H3 ⟨d3, p3, s3, f3, rs3, r3, q⟩
  split at q
  · refine ⟨true, rv_bl r3, iteT ⟨p3, e, s3, ((re.mono f1).mono f2).mono f3, rs3, (Po.bnd (rel1 := RV X.K) q).imp ?_⟩⟩
    rintro w H4 ⟨d4, p4, s4, f4, rs4, r4, q⟩
    exact h2' W p4 s4 σ H4 y w d' d4 Q rs4 ((r2.mono f3).mono f4) r4 q
  · exact ⟨false, rv_bl r3, iteF (Po.ok q rs3 (mk_bl _))⟩
  · exact q.elim
theorem r_chain {op op' : CmpOp} {f g : D → D → M D} (ho : S2 X cm (compareOp op) f) (ho' : S2 X cm (compareOp op') g) (ha : JE X cm W a fa) (hb : JE X cm W b fb) (hc : JE X cm W c fc)
    (hm : lastMarks [op, op'] [b, c] = false := by rfl) : JE X cm W (.Compare a [op, op'] [b, c] pos) (eChain f g fa fb fc) := by
  obtain ⟨r, g1, g2⟩ := ho
  obtain ⟨r', g1', g2'⟩ := ho'
  exact (pe_chain g1 g1' ha hb hc hm).imp fun σ H Q q => chain_rd g2 g2' q
theorem r_tchain {op op' : CmpOp} {f g : D → D → M D} (ho : S2 X cm (compareOp op) f) (ho' : S2 X cm (compareOp op') g) (ha : JE X cm W a fa) (hb : JE X cm W b fb) (hc : JE X cm W c fc)
    (hm : lastMarks [op, op'] [b, c] = false := by rfl) : JT X cm W (.Compare a [op, op'] [b, c] pos) (tB (eChain f g fa fb fc)) := by
  obtain ⟨r, g1, g2⟩ := ho
  obtain ⟨r', g1', g2'⟩ := ho'
  exact (pt_chain g1 g1' ha hb hc hm).imp fun σ H Q q => chain_rd g2 g2' (tB_bnd q)
end
section
variable {X : Cx} {cm : CM} {W : WX} {a b : Expr} {es : List Expr} {fa fb : E} {fl : EL} {pos : Pos}
theorem r_nil : JA X cm W [] lNil := by
  refine pa_nil.imp fun σ H Q q => ?_
  obtain ⟨p, e, s, re, rs, q⟩ := q
  exact Po.ok q rs (by simp [RVs])
theorem r_cons (ha : JE X cm W a fa) (hr : JA X cm W es fl) (hs : starEach (a :: es) X.env = (false, eval a X.env) :: starEach es X.env := by rfl) : JA X cm W (a :: es) (lCons fa fl) := by
  refine (pa_cons ha hr hs).imp fun σ H Q q => ?_
  obtain ⟨p, e, s, re, rs, q⟩ := q
  refine ⟨p, e, s, re, rs, (Po.bnd (rel1 := RV X.K) q).imp ?_⟩
  rintro x H1 ⟨d, p1, s1, f1, rs1, r1, q⟩
  refine ⟨p1, e, s1, re.mono f1, rs1, (Po.bnd (rel1 := RVs X.K) q).imp ?_⟩
  rintro xs H2 ⟨ds, p2, s2, f2, rs2, r2, q⟩
  refine Po.ok q rs2 ?_
  simp only [RVs]
  exact ⟨x, xs, rfl, r1.mono f2, r2⟩
theorem r_tup {k : Nat} (h : JA X cm W es fl) : JE X cm W (.Tuple es k pos) (eN mTup fl) := by
  refine (pe_tup h).imp fun σ H Q q => ?_
  obtain ⟨p, e, s, re, rs, q⟩ := tD.args q
  refine ⟨p, e, s, re, rs, q.imp ?_⟩
  rintro xs H1 ⟨p, e, s, ds, re, rs, r1, q⟩
  unfold mTup at q
  split at q
  · rename_i h
    exact ⟨by rw [← r1.length]; exact sz_ok h, fun t ht => Po.newt q rs r1 ht⟩
  · exact q.elim
theorem r_lst (h : JA X cm W es fl) : JE X cm W (.List es pos) (eN mLst fl) := by
  refine (pe_lst h).imp fun σ H Q q => ?_
  obtain ⟨p, e, s, re, rs, q⟩ := tD.args q
  refine ⟨p, e, s, re, rs, q.imp ?_⟩
  rintro xs H1 ⟨p, e, s, ds, re, rs, r1, q⟩
  unfold mLst at q
  split at q
  · rename_i h
    exact ⟨by rw [← r1.length]; exact sz_ok h, fun t ht => Po.newl q rs r1 ht⟩
  · exact q.elim
theorem r_dK : JE X cm W (.Dict [] [] pos) (eN (fun _ => mDK) lNil) := by
  refine pe_dnewK.imp fun σ H Q q => ?_
  obtain ⟨p, e, s, re, rs, q⟩ := q
  intro a ha
  obtain ⟨f, rs', e⟩ := rs.new (o := .dK []) (u := .dK []) ha ⟨[], rfl, by simp [RKs]⟩
  exact q _ _ _ f rs' (mk_ref e)
theorem r_dT : JE X cm W (.Dict [] [] pos) (eN (fun _ => mDT) lNil) := by
  refine pe_dnewT.imp fun σ H Q q => ?_
  obtain ⟨p, e, s, re, rs, q⟩ := q
  intro a ha
  obtain ⟨f, rs', e⟩ := rs.new (o := .dT []) (u := .dT []) ha ⟨[], rfl, by simp [RKs]⟩
  exact q _ _ _ f rs' (mk_ref e)
theorem atI_rv {K : PySem.W.Frag} {p : List Addr} {H : Hp} {ds : List D} {vs : List V} {i : Int} {d : D} (r : RVs K p H ds vs) (e : atI ds i = some d) : ∃ v, atI vs i = some v ∧ RV K p H d v := by
  unfold atI at e ⊢
  rw [← r.length]
  cases h : ixN ds.length i with
  | none => rw [h] at e; cases e
  | some j =>
    rw [h] at e
    exact r.get e
theorem ix_dict (hu : X.A.units + 1 < cLine) : IxR X (fun x y H Q => ∃ a v, x = .ref a ∧ DGet H a y (some v) ∧ Q v H) := by
  intro value slice pins s σ H x y v u Q I rx ry h hs
  obtain ⟨a, w, rfl, g, q⟩ := h
  cases (show v = Value.ref a from rx)
  exact tail_any (dict_typeIs I g) PySem.F.slot_dict_getitem.lookup (d_getItem hu I g ry fun w' s' I' rw' => ⟨w, H, I', rw', q⟩) hs
theorem r_at {k : Nat} (hr : Room k X.A) (ha : JE X cm W a fa) (hb : JE X cm W b fb) (hs : PlainIx b := by intro _ _; rfl) : JE X cm W (.Subscript a b pos) (e2 oAt fa fb) := by
  refine (pe_ix (ix_seq.or (ix_dict (hu_of hr))) ha hb hs).imp fun σ H Q q => ?_
  obtain ⟨p, e, s, re, rs, q⟩ := tD.two q
  refine ⟨p, e, s, re, rs, q.imp ?_⟩
  rintro x H1 ⟨p, e, s, re, rs, q⟩
  refine ⟨p, e, s, re, rs, q.imp ?_⟩
  rintro y H2 ⟨p, e, s, d1, d2, re, rs, r1, r2, q0⟩
  obtain ⟨d, e1, qf⟩ := pur2_ok q0
  unfold atD at e1
  split at e1
  · rename_i ds
    split at e1
    · rename_i i
      obtain ⟨t, vs, rfl, h1, rr⟩ := rv_tup r1
      obtain ⟨v, e2, rv⟩ := atI_rv rr e1
      exact .inl (.inr (.inl ⟨t, vs, i, v, rfl, rv_int r2, SqT.of h1, e2, Po.ok qf rs rv⟩))
    · cases e1
  · rename_i ds
    split at e1
    · rename_i i
      simp only [RV] at r1
      obtain ⟨t, vs, rfl, h1, rr⟩ := r1
      obtain ⟨v, e2, rv⟩ := atI_rv rr e1
      exact .inl (.inl ⟨t, vs, i, v, rfl, rv_int r2, h1.1, e2, Po.ok qf rs rv⟩)
    · cases e1
  · rename_i z
    split at e1
    · rename_i i
      split at e1
      · rename_i hz
        obtain ⟨c, e2, rfl⟩ := Option.map_eq_some_iff.mp e1
        exact .inl (.inr (.inr ⟨z, i, c, rv_str r1, rv_int r2, sz_ok hz, e2, Po.ok qf rs (mk_str _)⟩))
      · cases e1
    · cases e1
  · rename_i n
    split at e1
    · rename_i ds h
      split at e1
      · rename_i i
        obtain ⟨t, vs, rfl, _, h1, rr⟩ := lst_at rs r1 h
        obtain ⟨v, e2, rv⟩ := atI_rv rr e1
        exact .inl (.inl ⟨t, vs, i, v, rfl, rv_int r2, SqL.of h1, e2, Po.ok qf rs rv⟩)
      · cases e1
    · rename_i o h1 h2
      obtain ⟨r, e2, e3⟩ := Option.bind_eq_some_iff.mp e1
      simp only [id] at e3
      subst e3
      obtain ⟨t, rfl, h⟩ := dget_ok rs r1 h2 r2 e2
      rcases h with ⟨d', v, e4, g, rv⟩ | ⟨e4, _⟩
      · cases e4
        exact .inr ⟨t, v, rfl, g, Po.ok qf rs rv⟩
      · cases e4
    · cases e1
  · cases e1
theorem r_pno : JO X cm W none pNo := by
  refine po_none.imp fun σ H Q q => ?_
  obtain ⟨p, e, s, re, rs, q⟩ := q
  exact Po.ok q rs rfl
theorem r_pyes (ha : JE X cm W a fa) : JO X cm W (some a) (pYes fa) := by
  refine (po_some ha).imp fun σ H Q q => ?_
  obtain ⟨p, e, s, re, rs, q⟩ := q
  refine ⟨p, e, s, re, rs, (Po.bnd (rel1 := RV X.K) q).imp ?_⟩
  rintro x H1 ⟨d, p1, s1, f, rs1, r1, q⟩
  split at q
  · exact ⟨_, rv_int r1, Po.ok q rs1 rfl⟩
  · exact q.elim
theorem cutV_rv {K : PySem.W.Frag} {p : List Addr} {H : Hp} {ds : List D} {vs : List V} {lo hi : Option Int} (r : RVs K p H ds vs) : RVs K p H (cutL ds lo hi) (cutV vs lo hi) := by
  unfold cutL cutV
  rw [← r.length]
  exact (r.drop _).take _
theorem r_cut {lo hi : Option Expr} {fl fh : EO} {p2 : Pos} (ha : JE X cm W a fa) (hl : JO X cm W lo fl) (hh : JO X cm W hi fh) : JE X cm W (.Subscript a (.Slice lo hi none p2) pos) (eCut fa fl fh) := by
  refine (pe_slice (sl_list.or (sl_tupA.or sl_str)) ha hl hh).imp fun σ H Q q => ?_
  obtain ⟨p, e, s, re, rs, q0⟩ := q
  refine ⟨p, e, s, re, rs, (Po.bnd (rel1 := RV X.K) q0).imp ?_⟩
  rintro x H1 ⟨d, p1, s1, f1, rs1, r1, q1⟩
  refine ⟨p1, e, s1, re.mono f1, rs1, (Po.bnd (rel1 := rI') q1).imp ?_⟩
  rintro l H2 ⟨l', p2, s2, f2, rs2, r2, q2⟩
  have r2' : l' = l := r2
  subst r2'
  refine ⟨p2, e, s2, (re.mono f1).mono f2, rs2, (Po.bnd (rel1 := rI') q2).imp ?_⟩
  rintro h H3 ⟨h', p3, s3, f3, rs3, r3, q3⟩
  have r3' : h' = h := r3
  subst r3'
  have rr1 := (r1.mono f2).mono f3
  clear r1
  unfold oCut at q3
  split at q3
  · rename_i ds
    obtain ⟨t, vs, rfl, h1, rr⟩ := rv_tup rr1
    refine .inr (.inl ⟨t, vs, rfl, SqT.of h1, fun z => ?_, fun _ b hb => Po.newt q3 rs3 (cutV_rv rr) hb⟩)
    refine Po.ok q3 rs3 (mk_tup h1 ?_)
    have e1 : cutL ds l' h' = ds := by
      unfold cutL
      have hl := rr.length
      rw [hl, z.1, z.2, ← hl]
      simp
    rw [e1]
    exact rr
  · rename_i z
    split at q3
    · rename_i hz
      exact .inr (.inr ⟨z, rv_str rr1, sz_ok hz, Po.ok q3 rs3 (mk_str _)⟩)
    · exact q3.elim
  · rename_i n
    split at q3
    · rename_i ds h
      obtain ⟨t, vs, rfl, _, h1, rr⟩ := lst_at rs3 rr1 h
      exact .inl ⟨t, vs, rfl, SqL.of h1, fun b hb => Po.newl q3 rs3 (cutV_rv rr) hb⟩
    · exact q3.elim
  · exact q3.elim
end
end Fc
namespace Fc
open PySem PySem.Spec PyProof.Rows L2
section
variable {X : Cx} {cm : CM} {W : WX} {a b c : Expr} {es : List Expr} {fa fb fc : E} {fl : EL} {pos : Pos}
def rAttr (K : PySem.W.Frag) (f : Str) : V → Hp → VK → Prop := fun x H Q => (∃ a C dx fs v, x = .ref a ∧ H a = some (.ins C dx fs) ∧ Cls K C ∧ NoAttr K C f ∧ fs.lookup f = some v ∧ Q v H) ∨
  (∃ a C dd fs v, x = .ref a ∧ H a = some (ErrO a C (some dd)) ∧ XfC K C ∧ PySem.W.findIn K (.ref C) f = some none ∧ H dd = some (.xd fs) ∧ fs.lookup f = some v ∧ Q v H)
theorem pe_attr {te : TE} {f : Str} (he : PE X a te) (hb : attributeBase a f X.env (eval a X.env) = eval a X.env) : PE X (.Attribute a f pos) (fun σ H Q => te σ H fun x H1 => rAttr X.K f x H1 Q) := by
  refine ⟨fun pins s σ H Q I h => ?_⟩
  refine attr_of hb (thn (he.run pins s σ H _ I h) fun u s1 ⟨x, H1, I1, rx, q⟩ => ?_)
  rcases q with ⟨a, C, dx, fs, v, rfl, ea, c, n, l, q⟩ | ⟨a, C, dd, fs, v, rfl, ea, T, hno, ed, l, q⟩
  · obtain rfl : u = Value.ref a := rx
    exact getattr_ok I1 ea c n l fun u' s2 I2 ru => ⟨v, H1, I2, ru, q⟩
  · obtain rfl : u = Value.ref a := rx
    obtain ⟨⟨oe, vs, ha, hc, hdd, hd⟩, _⟩ := I1.hok a _ ea
    obtain ⟨mA, hns, hr⟩ := (show ObjOk X.prog X.w H1 s1.heap dd (.xd fs) from I1.hok dd _ ed)
    obtain ⟨od, ho, hl⟩ := lookIn_ns hns
    obtain ⟨u, hu, ru⟩ := RelO.some_of (v := v) (o := mA f) (by rw [← l]; exact hr f)
    have J : PySem.W.InstAt s1.heap a oe C (some od) := ⟨ha, hc, by unfold PySem.W.notCls; rw [hd] <;> rfl, by rw [hdd]; exact ho⟩
    exact HandSPX.exc_get I1.kIn J T.ga T.gg T.exC (PySem.W.findObj_own T.hdC hno rfl (by rw [hl, hu])) (handed_of ru) ⟨v, H1, I1.tok _, ru, q⟩
/-- what the classes must have for a field to be read and written -/
structure FldOk (K : PySem.W.Frag) (cm : CM) (f : Str) : Prop where
  ins : ∀ c C, cm.ins c = some C → Cls K C ∧ NoAttr K C f
  err : ∀ c C, cm.err c = some C → XfC K C ∧ PySem.W.findIn K (.ref C) f = some none
theorem lookup_rv {K : PySem.W.Frag} {p : List Addr} {H : Hp} (f : Str) : ∀ {ds : List (Str × D)} {vs : List (Str × V)} {d : D}, RKs K p H ds vs → ds.lookup f = some d → ∃ v, vs.lookup f = some v ∧ RV K p H d v
  | [], vs, d, r, e => by cases e
  | d' :: ds, vs, d, r, e => by
    simp only [RKs] at r
    obtain ⟨v, r', rfl, r1, r2⟩ := r
    rw [List.lookup_cons] at e
    rw [List.lookup_cons]
    by_cases hk : f == d'.1
    · rw [hk] at e ⊢
      cases e
      exact ⟨v, rfl, r1⟩
    · rw [Bool.not_eq_true] at hk
      rw [hk] at e ⊢
      exact lookup_rv f r2 e
theorem r_fld {f : Str} (T : FldOk X.K cm f) (ha : JE X cm W a fa) (hb : attributeBase a f X.env (eval a X.env) = eval a X.env := by rfl) : JE X cm W (.Attribute a f pos) (e1 (oFld f) fa) := by
  refine (pe_attr ha hb).imp fun σ H Q q => ?_
  obtain ⟨p, e, s, re, rs, q0⟩ := tD.bnd q
  refine ⟨p, e, s, re, rs, q0.imp ?_⟩
  rintro x H1 ⟨p, e, s, d, re, rs, r1, q1⟩
  unfold oFld at q1
  split at q1
  · rename_i n
    split at q1
    · rename_i c fs h
      cases hl : fs.lookup f with
      | none => rw [hl] at q1; exact q1.elim
      | some d =>
        rw [hl] at q1
        simp only [RV] at r1
        obtain ⟨t, ht, rfl⟩ := r1
        obtain ⟨t', ht', u, hu, C, dx, gs, hC, rfl, rk⟩ := rs.at h
        rw [ht] at ht'; cases ht'
        obtain ⟨v, hv, rv⟩ := lookup_rv f rk hl
        obtain ⟨k1, k2⟩ := T.ins c C hC
        exact .inl ⟨t, C, dx, gs, v, rfl, hu, k1, k2, hv, Po.ok q1 rs rv⟩
    · rename_i c fs h
      cases hl : fs.lookup f with
      | none => rw [hl] at q1; exact q1.elim
      | some d =>
        rw [hl] at q1
        simp only [RV] at r1
        obtain ⟨t, ht, rfl⟩ := r1
        obtain ⟨t', ht', C, od, hC, hu, rk⟩ := rs.at h
        rw [ht] at ht'; cases ht'
        cases od with
        | none => rw [show fs = [] from rk] at hl; cases hl
        | some dd =>
        obtain ⟨gs, hx, rk⟩ := rk
        obtain ⟨v, hv, rv⟩ := lookup_rv f rk hl
        obtain ⟨k1, k2⟩ := T.err c C hC
        exact .inr ⟨t, C, dd, gs, v, rfl, hu, k1, k2, hx, hv, Po.ok q1 rs rv⟩
    · exact q1.elim
  · exact q1.elim
theorem r_biB {id : String} {x : Str} {f : List D → M D} {p' : Pos} (hc : SN X cm (.builtin id) f) (hm : X.mg x = none) (ha : JA X cm W (a :: es) fl) (hg : Gl X x := by rfl) (hv : bootBuiltins x = some (.builtin id) := by decide +kernel) (hn : x ≠ "__name__" := by decide) (hdb : (x == ("__debug__" : Str)) = false := by decide)
    (he : starEach (a :: es) X.env = (false, eval a X.env) :: starEach es X.env := by rfl) (hpl : (backTo pos (starEach es X.env)).any (·.1) = false := by rfl) : JE X cm W (.Call (.Name x p') (a :: es) [] pos) (eN f fl) := by
  obtain ⟨r, h1, h2⟩ := hc
  refine (pe_callB h1 hg hm hv ha hn hdb he hpl).imp fun σ H Q q => ?_
  obtain ⟨p, e, s, re, rs, q⟩ := tD.args q
  refine ⟨p, e, s, re, rs, q.imp ?_⟩
  rintro xs H1 ⟨p, e, s, ds, re, rs, r1, q⟩
  exact h2 W p s σ H1 xs ds Q rs r1 q
theorem r_biT {id : String} {x : Str} {f : List D → M D} {p' : Pos} (hc : SN X cm (.type id) f) (hm : X.mg x = none) (ha : JA X cm W (a :: es) fl) (hg : Gl X x := by rfl) (hv : bootBuiltins x = some (.type id) := by decide +kernel) (hn : x ≠ "__name__" := by decide) (hdb : (x == ("__debug__" : Str)) = false := by decide)
    (he : starEach (a :: es) X.env = (false, eval a X.env) :: starEach es X.env := by rfl) (hpl : (backTo pos (starEach es X.env)).any (·.1) = false := by rfl) : JE X cm W (.Call (.Name x p') (a :: es) [] pos) (eN f fl) := by
  obtain ⟨r, h1, h2⟩ := hc
  refine (pe_callTy h1 hg hm hv ha hn hdb he hpl).imp fun σ H Q q => ?_
  obtain ⟨p, e, s, re, rs, q⟩ := tD.args q
  refine ⟨p, e, s, re, rs, q.imp ?_⟩
  rintro xs H1 ⟨p, e, s, ds, re, rs, r1, q⟩
  exact h2 W p s σ H1 xs ds Q rs r1 q
theorem one_rv {K : PySem.W.Frag} {p : List Addr} {H : Hp} {d : D} {xs : List V} (r : RVs K p H [d] xs) : ∃ x, xs = [x] ∧ RV K p H d x := by
  simp only [RVs] at r
  obtain ⟨v, r', rfl, r1, rfl⟩ := r
  exact ⟨v, rfl, r1⟩
theorem two_rv {K : PySem.W.Frag} {p : List Addr} {H : Hp} {d d' : D} {xs : List V} (r : RVs K p H [d, d'] xs) : ∃ x y, xs = [x, y] ∧ RV K p H d x ∧ RV K p H d' y := by
  simp only [RVs] at r
  obtain ⟨v, r', rfl, r1, w, r'', rfl, r2, rfl⟩ := r
  exact ⟨v, w, rfl, r1, r2⟩
theorem call_lenDk : CallR X (.builtin "len") (fun xs H Q => ∃ a kvs, xs = [V.ref a] ∧ Rd H a (.dK kvs) ∧ Q (.int kvs.length) H) := by
  intro pins s σ H xs us Q I r h
  obtain ⟨a, kvs, rfl, ha, q⟩ := h
  obtain ⟨u, rfl, ru⟩ := vals1 r
  cases (show u = Value.ref a from ru)
  exact d_len I ha fun t s' I' => ⟨.int _, H, I', ⟨t, rfl⟩, q⟩
theorem s_len : SN X cm (.builtin "len") fLen := by
  refine ⟨_, call_len.or call_lenDk, fun W p s σ H xs ds Q rs r q => ?_⟩
  unfold fLen at q
  split at q
  · rename_i d
    obtain ⟨x, rfl, r1⟩ := one_rv r
    cases hl : lenD s d with
    | none => rw [hl] at q; exact q.elim
    | some n =>
      rw [hl] at q
      have q' := Po.ok q rs (mk_int _)
      unfold lenD at hl
      split at hl
      · split at hl
        · rename_i hz
          cases hl
          exact .inl ⟨x, _, rfl, by rw [rv_str r1]; exact ⟨sz_ok hz, rfl⟩, q'⟩
        · cases hl
      · cases hl
        obtain ⟨t, vs, rfl, h1, rr⟩ := rv_tup r1
        exact .inl ⟨_, _, rfl, .inr ⟨vs, SqT.of h1, rr.length⟩, q'⟩
      · cases hl
        simp only [RV] at r1
        obtain ⟨t, vs, rfl, h1, rr⟩ := r1
        exact .inl ⟨_, _, rfl, .inl ⟨vs, h1.1, rr.length⟩, q'⟩
      · rename_i n'
        split at hl
        · rename_i ds h
          cases hl
          obtain ⟨t, vs, rfl, _, h1, rr⟩ := lst_at rs r1 h
          exact .inl ⟨_, _, rfl, .inl ⟨vs, SqL.of h1, rr.length⟩, q'⟩
        · rename_i o h0 h
          split at hl
          · rename_i kvs hu
            cases hl
            simp only [RV] at r1
            obtain ⟨t, ht, rfl⟩ := r1
            obtain ⟨t', ht', hr⟩ := rs.at h
            rw [ht] at ht'; cases ht'
            have : ∃ ws, Rd H t (.dK ws) ∧ RKs X.K p H kvs ws := by
              cases o with
              | lck o' =>
                obtain ⟨od, u, e1, _, c⟩ := hr
                simp only [unl] at hu; subst hu
                obtain ⟨ws, rfl, c⟩ := c
                exact ⟨ws, .inr ⟨od, e1⟩, c⟩
              | dK _ =>
                simp only [unl] at hu; cases hu
                obtain ⟨u, e1, ws, rfl, c⟩ := hr
                exact ⟨ws, .inl e1, c⟩
              | _ => simp only [unl] at hu; cases hu
            obtain ⟨ws, h1, rr⟩ := this
            rw [rr.length] at q'
            exact .inr ⟨t, ws, rfl, h1, q'⟩
          · cases hl
        · cases hl
      · cases hl
  · exact q.elim
theorem s_int : SN X cm (.type "int") fInt := by
  refine ⟨_, call_int1, fun W p s σ H xs ds Q rs r q => ?_⟩
  unfold fInt at q
  split at q
  · obtain ⟨x, rfl, r1⟩ := one_rv r
    exact .inl ⟨_, by rw [rv_int r1], Po.ok q rs (mk_int _)⟩
  · obtain ⟨x, rfl, r1⟩ := one_rv r
    exact .inr ⟨_, by rw [rv_bl r1], Po.ok q rs (mk_int _)⟩
  · exact q.elim
theorem intsD_rv {K : PySem.W.Frag} {p : List Addr} {H : Hp} : ∀ {ds : List D} {ns : List Int} {vs : List V}, intsD ds = some ns → RVs K p H ds vs → vs = ns.map V.int
  | [], ns, vs, e, r => by
    simp only [intsD] at e; cases e
    simp only [RVs] at r; subst r; rfl
  | d :: ds, ns, vs, e, r => by
    cases d <;> simp only [intsD] at e <;> first | (cases e; done) | skip
    obtain ⟨ms, e1, rfl⟩ := Option.map_eq_some_iff.mp e
    simp only [RVs] at r
    obtain ⟨v, r', rfl, r1, r2⟩ := r
    rw [rv_int r1, intsD_rv e1 r2]; rfl
theorem maxI_spec : ∀ (r : List Int) (a : Int), (maxI a r = a ∨ maxI a r ∈ r) ∧ a ≤ maxI a r ∧ ∀ y ∈ r, y ≤ maxI a r
  | [], a => ⟨.inl rfl, Int.le_refl _, fun y h => nomatch h⟩
  | b :: r, a => by
    unfold maxI
    split
    · rename_i h
      obtain ⟨h1, h2, h3⟩ := maxI_spec r b
      refine ⟨.inr ?_, by omega, fun y hy => ?_⟩
      · rcases h1 with e | e
        · rw [e]; exact List.mem_cons_self
        · exact List.mem_cons_of_mem _ e
      · rcases List.mem_cons.mp hy with rfl | hy
        · exact h2
        · exact h3 y hy
    · rename_i h
      obtain ⟨h1, h2, h3⟩ := maxI_spec r a
      refine ⟨h1.imp id fun e => List.mem_cons_of_mem _ e, h2, fun y hy => ?_⟩
      rcases List.mem_cons.mp hy with rfl | hy
      · omega
      · exact h3 y hy
theorem s_max (hc : X.calm = true) : SN X cm (.builtin "max") fMax := by
  refine ⟨_, (cr_max hc).or (call_max2 hc), fun W p s σ H xs ds Q rs r q => ?_⟩
  unfold fMax mm at q
  split at q
  · rename_i n
    obtain ⟨x, rfl, r1⟩ := one_rv r
    split at q
    · rename_i ds h
      unfold lstAt at h
      split at h
      · rename_i ds' h'
        cases h
        split at q
        · rename_i a r' hi
          obtain ⟨t, vs, rfl, _, h1, rr⟩ := lst_at rs r1 h'
          have e := intsD_rv hi rr
          subst e
          obtain ⟨k1, k2, k3⟩ := maxI_spec r' a
          refine .inl ⟨t, _, rfl, SqL.of h1, by simp, fun m hm hle => ?_⟩
          have e : m = maxI a r' := by
            have := hle (maxI a r') (by
              rcases k1 with e | e
              · rw [e]; exact List.mem_cons_self
              · exact List.mem_cons_of_mem _ e)
            rcases List.mem_cons.mp hm with rfl | hm
            · omega
            · have := k3 m hm; omega
          rw [e]
          exact Po.ok q rs (mk_int _)
        · exact q.elim
      · cases h
    · exact q.elim
  · rename_i i j
    obtain ⟨x, y, rfl, r1, r2⟩ := two_rv r
    exact .inr ⟨i, j, by rw [rv_int r1, rv_int r2], Po.ok q rs (mk_int _)⟩
  · exact q.elim
theorem s_tuple : SN X cm (.type "tuple") fTuple := by
  refine ⟨_, call_tuple_of, fun W p s σ H xs ds Q rs r q => ?_⟩
  unfold fTuple at q
  split at q
  · obtain ⟨x, rfl, r1⟩ := one_rv r
    obtain ⟨t, vs, rfl, h1, rr⟩ := rv_tup r1
    exact ⟨t, vs, rfl, .inr ⟨SqT.of h1, Po.ok q rs (mk_tup h1 rr)⟩⟩
  · rename_i n
    obtain ⟨x, rfl, r1⟩ := one_rv r
    split at q
    · rename_i ds h
      obtain ⟨t, vs, rfl, _, h1, rr⟩ := lst_at rs r1 h
      exact ⟨t, vs, rfl, .inl ⟨SqL.of h1, fun l hl => Po.newt q rs rr hl⟩⟩
    · exact q.elim
  · exact q.elim
def tyName : Ty → String
  | .int => "int"
  | .bool => "bool"
  | .str => "str"
  | .tuple => "tuple"
  | .list => "list"
  | .dict => "dict"
theorem isTy_ok {K : PySem.W.Frag} {p : List Addr} {s : S} {H : Hp} {d : D} {x : V} {t : Ty} {k : Bool} (rs : RS K cm p s H) (r : RV K p H d x) (e : isTy s d t = some k) : ∃ T : String, TyX K H x (.type T) ∧ kitB T (tyName t) = some k := by
  unfold isTy at e
  split at e
  · cases e; rw [rv_non r]
    exact ⟨_, .base .non, by cases t <;> decide +kernel⟩
  · cases e; rw [rv_bl r]
    exact ⟨_, .base (.bl _), by cases t <;> decide +kernel⟩
  · cases e; rw [rv_int r]
    exact ⟨_, .base (.int _), by cases t <;> decide +kernel⟩
  · cases e; rw [rv_str r]
    exact ⟨_, .base (.str _), by cases t <;> decide +kernel⟩
  · cases e
    obtain ⟨a, vs, rfl, h1, rr⟩ := rv_tup r
    exact ⟨_, .base (.tup h1), by cases t <;> decide +kernel⟩
  · cases e
  · rename_i n
    obtain ⟨o, h, e⟩ := Option.bind_eq_some_iff.mp e
    simp only [RV] at r
    obtain ⟨a, ha, rfl⟩ := r
    obtain ⟨b, hb, q⟩ := rs.at h
    rw [ha] at hb; cases hb
    cases o with
    | lst ds =>
      cases e
      obtain ⟨u, h1, vs, rfl, _⟩ := q
      exact ⟨_, .base (.lst h1), by cases t <;> decide +kernel⟩
    | dK ds =>
      cases e
      obtain ⟨u, h1, vs, rfl, _⟩ := q
      exact ⟨_, .base (.dK h1), by cases t <;> decide +kernel⟩
    | dT ds =>
      cases e
      obtain ⟨u, h1, vs, rfl, _⟩ := q
      exact ⟨_, .base (.dT h1), by cases t <;> decide +kernel⟩
    | _ => cases e
theorem r_is {t : Ty} {x : Str} {p1 p2 : Pos} (he : JE X cm W a fa) (hm : X.mg "isinstance" = none) (hx : X.mg x = none) (hb : bootBuiltins x = some (.type (tyName t)) := by decide +kernel) (hg : Gl X "isinstance" := by rfl) (hgx : Gl X x := by rfl) (hn : x ≠ "__name__" := by decide) (hdb : (x == ("__debug__" : Str)) = false := by decide)
    (he1 : starEach [a, .Name x p2] X.env = (false, eval a X.env) :: starEach [.Name x p2] X.env := by rfl) (he2 : starEach [.Name x p2] X.env = (false, eval (.Name x p2) X.env) :: starEach [] X.env := by rfl) (hpl : (backTo pos (starEach [.Name x p2] X.env)).any (·.1) = false := by rfl) :
    JE X cm W (.Call (.Name "isinstance" p1) [a, .Name x p2] [] pos) (e1 (oIs t) fa) := by
  refine (pe_callB call_isi hg hm (by decide +kernel) (pa_cons he (pa_cons (pe_bltn (v := .ty (tyName t)) hgx hx hb rfl hn hdb) pa_nil he2) he1) (he := he1) (hpl := hpl)).imp fun σ H Q q => ?_
  obtain ⟨p, e, s, re, rs, q⟩ := tD.bnd q
  refine ⟨p, e, s, re, rs, q.imp ?_⟩
  rintro v H1 ⟨p, e, s, d, re, rs, r1, q⟩
  unfold oIs at q
  cases h : isTy s d t with
  | none => rw [h] at q; exact q.elim
  | some k =>
    rw [h] at q
    obtain ⟨T, h1, h2⟩ := isTy_ok rs r1 h
    exact ⟨v, .ty (tyName t), .type T, .type (tyName t), k, rfl, .ty _, h1, kit_ty h2, Po.ok q rs (mk_bl _)⟩
theorem isLst_ok {K : PySem.W.Frag} {p : List Addr} {s : S} {H : Hp} {d : D} {x : V} (rs : RS K cm p s H) (r : RV K p H d x) (e : isLst s d = true) : tyV K "list" x H := by
  unfold isLst at e
  split at e
  · rename_i n
    split at e
    · rename_i ds h
      obtain ⟨t, vs, rfl, _, h1, rr⟩ := lst_at rs r h
      exact .inl ⟨rfl, vs, SqL.of h1⟩
    · cases e
  · cases e
theorem mutO_ok {K : PySem.W.Frag} {W : WX} {p : List Addr} {s : S} {σ : L2.St} {H : Hp} {n : Nat} {f : O → Option (O × D)} {Q : VK} (q : Po K cm W (RV K) p σ H (mutO n f s) Q) : ∃ o o' d, s[n]? = some o ∧ f o = some (o', d) ∧ Po K cm W (RV K) p σ H (some (.ok d (s.set n o'))) Q := by
  unfold mutO at q
  cases h : s[n]? with
  | none => rw [h] at q; exact q.elim
  | some o =>
    rw [h] at q
    cases h2 : f o with
    | none => simp only [h2] at q; exact q.elim
    | some r => simp only [h2] at q; exact ⟨o, r.1, r.2, rfl, h2, q⟩
/-- a method of lists, with arguments -/
theorem r_m {id : String} {m : Str} {f : D → List D → M D} {apos cpos : Pos} {r : V → List V → Hp → VK → Prop} (slot : Slot "list" m id) (hty : typeOf (.builtin id) = pure (.type "method_descriptor")) (hm : MtR X id r)
    (hr : ∀ (W : WX) p s σ H x xs d ds Q, RS X.K cm p s H → RV X.K p H d x → RVs X.K p H ds xs → Po X.K cm W (RV X.K) p σ H (f d ds s) Q → r x xs H Q) (ho : JE X cm W a fa) (ha : JA X cm W (b :: es) fl)
    (hbase : attributeBase a m X.env (eval a X.env) = eval a X.env := by rfl)
    (hfew : ((backTo cpos (starEach (b :: es) X.env)).all (fun x => !x.1) && (backToKw cpos (keywordEach [] X.env)).all (fun x => x.1.isSome)
      && decide ((b :: es).length + ([] : List Keyword).length + (if ([] : List Keyword).isEmpty then 0 else 1) < 30)) = true := by rfl)
    (hline : (apos.endLine == cpos.line) = true := by rfl) (hs : starEach (b :: es) X.env = (false, eval b X.env) :: starEach es X.env := by rfl) (hplain : (backTo cpos (starEach es X.env)).any (·.1) = false := by rfl) :
    JE X cm W (.Call (.Attribute a m apos) (b :: es) [] cpos) (eM f fa fl) := by
  refine (pe_bm PySem.F.plainAttrs_list slot hty hm ho ha hbase hfew hline hs hplain).imp fun σ H Q q => ?_
  obtain ⟨p, e, s, re, rs, q⟩ := q
  refine ⟨p, e, s, re, rs, (Po.bnd (rel1 := RV X.K) q).imp ?_⟩
  rintro x H1 ⟨d, p1, s1, f1, rs1, r1, q⟩
  split at q
  · rename_i h
    refine ⟨isLst_ok rs1 r1 h, p1, e, s1, re.mono f1, rs1, (Po.bnd (rel1 := RVs X.K) q).imp ?_⟩
    rintro xs H2 ⟨ds, p2, s2, f2, rs2, r2, q⟩
    exact hr W p2 s2 σ H2 x xs d ds Q rs2 (r1.mono f2) r2 q
  · exact q.elim
theorem RVs.dropLast {K : PySem.W.Frag} {p : List Addr} {H : Hp} {ds : List D} {vs : List V} (h : RVs K p H ds vs) : RVs K p H ds.dropLast vs.dropLast := by
  rw [List.dropLast_eq_take, List.dropLast_eq_take, h.length]
  exact h.take _
theorem r_m_append1 {apos cpos : Pos} (ho : JE X cm W a fa) (ha : JA X cm W [b] fl)
    (hbase : attributeBase a "append" X.env (eval a X.env) = eval a X.env := by rfl)
    (hfew : ((backTo cpos (starEach [b] X.env)).all (fun x => !x.1) && (backToKw cpos (keywordEach [] X.env)).all (fun x => x.1.isSome)
      && decide (([b] : List Expr).length + ([] : List Keyword).length + (if ([] : List Keyword).isEmpty then 0 else 1) < 30)) = true := by rfl)
    (hline : (apos.endLine == cpos.line) = true := by rfl) (hs : starEach [b] X.env = (false, eval b X.env) :: starEach [] X.env := by rfl) (hplain : (backTo cpos (starEach [] X.env)).any (·.1) = false := by rfl) :
    JE X cm W (.Call (.Attribute a "append" apos) [b] [] cpos) (eM mAppend fa fl) := by
  refine r_m PySem.F.slot_list_append PySem.F.type_list_append mt_append (fun W p s σ H x xs d ds Q rs rx rxs q => ?_) ho ha hbase hfew hline hs hplain
  unfold mAppend at q
  split at q
  · rename_i n y
    obtain ⟨o, o', d', h1, h2, q⟩ := mutO_ok q
    split at h2
    · rename_i ds'
      split at h2
      · rename_i hlen
        cases h2
        obtain ⟨z, rfl, ry⟩ := one_rv rxs
        obtain ⟨t, vs, rfl, hp, hH, rr⟩ := lst_at rs rx h1
        have c : RC X.K cm p H t (.lst (ds' ++ [y])) (.lst (vs ++ [z])) := ⟨_, rfl, rr.append rxs⟩
        obtain ⟨f, rs'⟩ := rs.put hp hH trivial c
        exact ⟨t, vs, z, rfl, rfl, hH, by rw [← rr.length, sizeLine_eq]; exact hlen, q _ _ _ f rs' mk_non⟩
      · cases h2
    · cases h2
  · exact q.elim
theorem r_bitlen {apos : Pos} (ho : JE X cm W a fa) (hbase : attributeBase a "bit_length" X.env (eval a X.env) = eval a X.env := by rfl) (hline : (apos.endLine == pos.line) = true := by rfl) : JE X cm W (.Call (.Attribute a "bit_length" apos) [] [] pos) (e1 oBitLen fa) := by
  refine (pe_bits ho hbase hline).imp fun σ H Q q => ?_
  obtain ⟨p, e, s, re, rs, q⟩ := tD.bnd q
  refine ⟨p, e, s, re, rs, q.imp ?_⟩
  rintro x H1 ⟨p, e, s, d, re, rs, r1, q⟩
  unfold oBitLen at q
  split at q
  · exact ⟨_, rv_int r1, Po.ok q rs (mk_int _)⟩
  · exact q.elim
theorem isDict_ok {K : PySem.W.Frag} {p : List Addr} {s : S} {H : Hp} {d : D} {x : V} (rs : RS K cm p s H) (r : RV K p H d x) (e : isDict s d = true) : ∃ n a o, d = .ref n ∧ x = .ref a ∧ p[n]? = some a ∧ s[n]? = some o ∧ IsD H a := by
  unfold isDict at e
  split at e
  · rename_i n
    simp only [RV] at r
    obtain ⟨a, ha, rfl⟩ := r
    unfold rd at e
    cases h : s[n]? with
    | none => rw [h] at e; cases e
    | some o =>
      rw [h] at e
      obtain ⟨b, hb, q⟩ := rs.at h
      rw [ha] at hb; cases hb
      refine ⟨n, a, o, rfl, rfl, ha, h, ?_⟩
      cases o with
      | dK kvs => obtain ⟨u, h1, ws, rfl, _⟩ := q; exact .inl ⟨ws, .inl h1⟩
      | dT kvs => obtain ⟨u, h1, ws, rfl, _⟩ := q; exact .inr ⟨ws, .inl h1⟩
      | lck o' =>
        obtain ⟨od, u, h1, _, c⟩ := q
        cases o' with
        | dK kvs => obtain ⟨ws, rfl, _⟩ := c; exact .inl ⟨ws, .inr ⟨od, h1⟩⟩
        | dT kvs => obtain ⟨ws, rfl, _⟩ := c; exact .inr ⟨ws, .inr ⟨od, h1⟩⟩
        | _ => cases e
      | _ => cases e
  · cases e
theorem r_get2 {k : Nat} {apos cpos : Pos} (hr : Room k X.A) (ha : JE X cm W a fa) (hb : JE X cm W b fb) (hc : JE X cm W c fc) (m : M2 X a "get" apos b c cpos := by exact ⟨rfl, rfl, rfl, rfl⟩) : JE X cm W (.Call (.Attribute a "get" apos) [b, c] [] cpos) (eGet2 fa fb fc) := by
  refine (pe_dget2 (hu_of hr) ha hb hc m).imp fun σ H Q q => ?_
  obtain ⟨p, e, s, re, rs, q⟩ := q
  refine ⟨p, e, s, re, rs, (Po.bnd (rel1 := RV X.K) q).imp ?_⟩
  rintro x H1 ⟨d, p1, s1, f1, rs1, r1, q1⟩
  split at q1
  · rename_i h
    obtain ⟨n, t, o, hd, rfl, h1, h2, h3⟩ := isDict_ok rs1 r1 h
    subst hd
    refine ⟨t, rfl, h3, p1, e, s1, re.mono f1, rs1, (Po.bnd (rel1 := RV X.K) q1).imp ?_⟩
    rintro y H2 ⟨d2, p2, s2, f2, rs2, r2, q2⟩
    refine ⟨p2, e, s2, (re.mono f1).mono f2, rs2, (Po.bnd (rel1 := RV X.K) q2).imp ?_⟩
    rintro z H3 ⟨d3, p3, s3, f3, rs3, r3, q3⟩
    cases h4 : dgetAt s3 (.ref n) d2 with
    | none => rw [h4] at q3; exact q3.elim
    | some r =>
      rw [h4] at q3
      unfold dgetAt rd at h4
      obtain ⟨o3, h5, h6⟩ := Option.bind_eq_some_iff.mp h4
      obtain ⟨o4, h7, rfl⟩ := Option.map_eq_some_iff.mp h5
      obtain ⟨t', et, h⟩ := dget_ok rs3 ((r1.mono f2).mono f3) h7 (r2.mono f3) h6
      cases et
      rcases h with ⟨d', v, rfl, g, rv⟩ | ⟨rfl, g⟩
      · exact ⟨_, g, Po.ok q3 rs3 rv⟩
      · exact ⟨_, g, Po.ok q3 rs3 r3⟩
  · exact q1.elim
end
end Fc
namespace L2
open PySem
theorem PG.imp {X : Cx} {x : Expr} {t t' : TG} (h : PG X x t) (k : ∀ v σ H Q, t' v σ H Q → t v σ H Q) : PG X x t' := ⟨fun pins s σ H v u Q I r q => h.run pins s σ H v u Q I r (k v σ H Q q)⟩
theorem PG.or {X : Cx} {x : Expr} {t t' : TG} (h : PG X x t) (h' : PG X x t') : PG X x (fun v σ H Q => t v σ H Q ∨ t' v σ H Q) := ⟨fun pins s σ H v u Q I r q => q.elim (h.run pins s σ H v u Q I r) (h'.run pins s σ H v u Q I r)⟩
theorem PGs.imp {X : Cx} {x : List Expr} {t t' : TGs} (h : PGs X x t) (k : ∀ v σ H Q, t' v σ H Q → t v σ H Q) : PGs X x t' := ⟨fun pins s σ H v u Q I r q => h.run pins s σ H v u Q I r (k v σ H Q q)⟩
theorem PS.imp {X : Cx} {x : Stmt} {t t' : TS} (h : PS X x t) (k : ∀ D σ H, t' D σ H → t D σ H) : PS X x t' := ⟨fun pins s σ H D I q => h.run pins s σ H D I (k D σ H q)⟩
theorem PSs.imp {X : Cx} {x : List Stmt} {t t' : TS} (h : PSs X x t) (k : ∀ D σ H, t' D σ H → t D σ H) : PSs X x t' := ⟨fun pins s σ H D I q => h.run pins s σ H D I (k D σ H q)⟩
theorem PSet.or {X : Cx} {t t' : TSet} (h : PSet X t) (h' : PSet X t') : PSet X (fun o i v H Q => t o i v H Q ∨ t' o i v H Q) := fun pins s σ H o i v ov iv u Q I ro ri rv q => q.elim (h pins s σ H o i v ov iv u Q I ro ri rv) (h' pins s σ H o i v ov iv u Q I ro ri rv)
theorem PI.or {X : Cx} {tg e : Expr} {t t' : TI} (h : PI X tg e t) (h' : PI X tg e t') : PI X tg e (fun σ H R => t σ H R ∨ t' σ H R) := ⟨fun pins s σ H R I q => q.elim (h.run pins s σ H R I) (h'.run pins s σ H R I)⟩
end L2
namespace Fc
open PySem PySem.Spec PyProof.Rows L2
variable {K : PySem.W.Frag} {cm : CM} {W : WX}
section
variable (K : PySem.W.Frag) (cm : CM)
/-- a target that sets the slots vs alone -/
def tG (g : G) (vs : List Nat) : TG := fun v σ H Q => ∃ p e s d e', RE K p H e σ ∧ RS K cm p s H ∧ RV K p H d v ∧ g d e s = some e' ∧ ∀ σ', RE K p H e' σ' → (∀ i, i ∉ vs → σ'[i]? = σ[i]?) → Q σ' H
def tGs (g : GL) (vs : List Nat) : TGs := fun v σ H Q => ∃ p e s d e', RE K p H e σ ∧ RS K cm p s H ∧ RVs K p H d v ∧ g d e s = some e' ∧ ∀ σ', RE K p H e' σ' → (∀ i, i ∉ vs → σ'[i]? = σ[i]?) → Q σ' H
end
abbrev JG (X : Cx) (cm : CM) (x : Expr) (g : G) (vs : List Nat) : Prop := PG X x (tG X.K cm g vs)
abbrev JGs (X : Cx) (cm : CM) (x : List Expr) (g : GL) (vs : List Nat) : Prop := PGs X x (tGs X.K cm g vs)
theorem RE.set {p : List Addr} {H : Hp} {e : Env} {σ : L2.St} (re : RE K p H e σ) (i : Nat) {d : D} {v : V} (r : RV K p H d v) : RE K p H (e.set i (some d)) (σ.set i (some v)) := by
  refine ⟨by simp [re.1], fun j d' h => ?_⟩
  rw [List.getElem?_set] at h ⊢
  by_cases hij : i = j
  · rw [if_pos hij] at h ⊢
    split at h
    · rename_i hl
      rw [if_pos (by rw [← re.1]; exact hl)]
      cases h
      exact ⟨v, rfl, r⟩
    · cases h
  · rw [if_neg hij] at h ⊢
    exact re.2 j d' h
theorem RE.unset {p : List Addr} {H : Hp} {e : Env} {σ : L2.St} (re : RE K p H e σ) (i : Nat) : RE K p H (e.set i none) (σ.set i none) := by
  refine ⟨by simp [re.1], fun j d' h => ?_⟩
  rw [List.getElem?_set] at h ⊢
  by_cases hij : i = j
  · rw [if_pos hij] at h
    split at h <;> cases h
  · rw [if_neg hij] at h ⊢
    exact re.2 j d' h
section
variable {X : Cx} {es : List Expr} {a b : Expr} {pos : Pos}
theorem g_name (i : Nat) {x : Str} (hN : X.N.Nodup) (hi : X.N[i]? = some x := by rfl) (hx : Loc X.env.scope x := by first | exact Or.inl rfl | exact Or.inr rfl) (hf : X.fn x = true ∨ X.env.scope.names.lookup x = some .local := by first | exact .inl rfl | exact .inr rfl) : JG X cm (.Name x pos) (gName i) [i] := by
  refine (pg_name hN hi hx hf).imp ?_
  rintro v σ H Q ⟨p, e, s, d, e', re, rs, rv, h, q⟩
  cases h
  refine q _ (re.set i rv) fun j hj => ?_
  rw [List.getElem?_set_ne (fun e => hj (by simp [e]))]
theorem g_nil : JGs X cm [] gNil [] := by
  refine pgs_nil.imp ?_
  rintro v σ H Q ⟨p, e, s, d, e', re, rs, rv, h, q⟩
  unfold gNil at h
  split at h
  · cases h
    simp only [RVs] at rv
    exact ⟨rv, q σ re fun _ _ => rfl⟩
  · cases h
theorem g_cons {g : G} {r : GL} {vs ws : List Nat} (h1 : JG X cm a g vs) (h2 : JGs X cm es r ws) (hs : (assignEach (a :: es) X.env).map (·.2) = assign a X.env :: (assignEach es X.env).map (·.2) := by rfl) : JGs X cm (a :: es) (gCons g r) (vs ++ ws) := by
  refine (pgs_cons h1 h2 hs).imp ?_
  rintro v σ H Q ⟨p, e, s, d, e', re, rs, rv, h, q⟩
  unfold gCons at h
  split at h
  · rename_i d ds
    obtain ⟨e1, h3, h4⟩ := Option.bind_eq_some_iff.mp h
    simp only [RVs] at rv
    obtain ⟨v, r', rfl, r1, r2⟩ := rv
    refine ⟨v, r', rfl, p, e, s, d, e1, re, rs, r1, h3, fun σ1 re1 k1 => ⟨p, e1, s, ds, e', re1, rs, r2, h4, fun σ2 re2 k2 => q σ2 re2 fun i hi => ?_⟩⟩
    simp only [List.mem_append, not_or] at hi
    rw [k2 i hi.2, k1 i hi.1]
  · cases h
theorem g_tup {k : Nat} {r : GL} {vs : List Nat} {n : Nat} (hc : X.calm = true) (h : JGs X cm es r vs) (hn : (assignEach es X.env).length = n := by rfl) (hst : (assignEach es X.env).findIdx? (·.1) = none := by rfl) : JG X cm (.Tuple es k pos) (gTup n r) vs := by
  refine (PG.or (pg_tup hc h hn hst) (pg_lst hc h hn hst)).imp ?_
  rintro v σ H Q ⟨p, e, s, d, e', re, rs, rv, h, q⟩
  unfold gTup at h
  split at h
  · rename_i ds
    split at h
    · rename_i hl
      obtain ⟨a, xs, rfl, h1, rr⟩ := rv_tup rv
      exact .inl ⟨a, xs, rfl, SqT.of h1, by rw [← rr.length]; exact hl, p, e, s, ds, e', re, rs, rr, h, q⟩
    · cases h
  · rename_i n'
    split at h
    · rename_i ds hs
      split at h
      · rename_i hl
        obtain ⟨a, xs, rfl, _, h1, rr⟩ := lst_at rs rv hs
        exact .inr ⟨a, xs, rfl, SqL.of h1, by rw [← rr.length]; exact hl, p, e, s, ds, e', re, rs, rr, h, q⟩
      · cases h
    · cases h
  · cases h
end
variable (K cm W) in
/-- what a statement's result must give -/
def PoS (p : List Addr) (H : Hp) (r : Option R) (Dn : Ends) : Prop := match r with
  | none => False
  | some (.nx e s) => ∀ p' H' σ', Fut p H p' H' → RS K cm p' s H' → RE K p' H' e σ' → Dn.nx σ' H'
  | some (.rt d s) => ∀ p' H' v, Fut p H p' H' → RS K cm p' s H' → RV K p' H' d v → Dn.rt v H'
  | some (.bk e s) => ∀ p' H' σ', Fut p H p' H' → RS K cm p' s H' → RE K p' H' e σ' → Dn.bk σ' H'
  | some (.ct e s) => ∀ p' H' σ', Fut p H p' H' → RS K cm p' s H' → RE K p' H' e σ' → Dn.ct σ' H'
  | some (.xc c fs e s) => ∀ p' H' σ' cls dd, Fut p H p' H' → RS K cm p' s H' → RE K p' H' e σ' → RX K cm p' H' c fs cls dd → W cls dd σ' H'
variable (K cm W) in
def tS (f : C) : TS := fun Dn σ H => ∃ p e s, RE K p H e σ ∧ RS K cm p s H ∧ PoS K cm W p H (f e s) Dn
abbrev JS (X : Cx) (cm : CM) (W : WX) (x : Stmt) (f : C) : Prop := PS X x (tS X.K cm W f)
abbrev JSs (X : Cx) (cm : CM) (W : WX) (x : List Stmt) (f : C) : Prop := PSs X x (tS X.K cm W f)
theorem PoS.fut {p p' : List Addr} {H H' : Hp} {r : Option R} {Dn : Ends} (h : PoS K cm W p H r Dn) (f : Fut p H p' H') : PoS K cm W p' H' r Dn := by
  match r, h with
  | some (.nx _ _), h => exact fun p2 H2 v f2 => h p2 H2 v (f.trans f2)
  | some (.rt _ _), h => exact fun p2 H2 v f2 => h p2 H2 v (f.trans f2)
  | some (.bk _ _), h => exact fun p2 H2 v f2 => h p2 H2 v (f.trans f2)
  | some (.ct _ _), h => exact fun p2 H2 v f2 => h p2 H2 v (f.trans f2)
  | some (.xc _ _ _ _), h => exact fun p2 H2 σ' cls dd f2 => h p2 H2 σ' cls dd (f.trans f2)
/-- an expression ahead -/
theorem PoS.ex {α β : Type} {rel : List Addr → Hp → α → β → Prop} {p : List Addr} {H : Hp} {σ : L2.St} {e : Env} {r : Option (Res α)} {k : α → S → Option R} {Dn : Ends} (h : PoS K cm W p H (ex e r k) Dn) (re : RE K p H e σ) :
    Po K cm W rel p σ H r fun x H1 => ∃ y p1 s1, Fut p H p1 H1 ∧ RS K cm p1 s1 H1 ∧ rel p1 H1 y x ∧ PoS K cm W p1 H1 (k y s1) Dn := by
  unfold Fc.ex at h
  split at h
  · exact h
  · exact fun p1 H1 v f rs r1 => ⟨_, p1, _, f, rs, r1, PoS.fut h f⟩
  · exact fun p1 H1 cls dd f rs rx => h p1 H1 σ cls dd f rs (re.mono f) rx
section
variable {X : Cx} {st : Stmt} {rest sts : List Stmt} {a b c : Expr} {fa fb fc : E} {ft : T} {f g : C} {pos : Pos}
theorem r_snil : JSs X cm W [] cNil := by
  refine pss_nil.imp ?_
  rintro D σ H ⟨p, e, s, re, rs, q⟩
  exact q p H σ Fut.refl rs re
theorem r_sone (h : JS X cm W st f) : JSs X cm W [st] f := pss_one h
theorem PoS.seq {p : List Addr} {H : Hp} {e : Env} {s : S} {Dn : Ends} (h : PoS K cm W p H (cSeq f g e s) Dn) : PoS K cm W p H (f e s) { Dn with nx := tS K cm W g Dn } := by
  unfold cSeq at h
  split at h
  · rename_i e' s' hf
    rw [hf]
    exact fun p' H' σ' fu rs re => ⟨p', e', s', re, rs, PoS.fut h fu⟩
  · rename_i r hr
    cases hf : f e s with
    | none => rw [hf] at h; exact h
    | some r =>
      rw [hf] at h
      cases r with
      | nx e' s' => exact absurd hf (hr e' s')
      | _ => exact h
theorem r_scons (h1 : JS X cm W st f) (h2 : JSs X cm W rest g) : JSs X cm W (st :: rest) (cSeq f g) := by
  refine (pss_cons h1 h2).imp ?_
  rintro D σ H ⟨p, e, s, re, rs, q⟩
  exact ⟨p, e, s, re, rs, q.seq⟩
theorem r_expr (ha : JE X cm W a fa) (hs : swapsWith a none pos.line X.env = pure false := by rfl) : JS X cm W (.Expr a pos) (cExpr fa) := by
  refine (ps_expr ha hs).imp ?_
  rintro D σ H ⟨p, e, s, re, rs, q⟩
  refine ⟨p, e, s, re, rs, (PoS.ex (rel := RV X.K) q re).imp ?_⟩
  rintro x H1 ⟨y, p1, s1, f, rs1, r1, q⟩
  exact q p1 H1 σ Fut.refl rs1 (re.mono f)
theorem r_ret (ha : JE X cm W a fa) : JS X cm W (.Return (some a) pos) (cRet fa) := by
  refine (ps_ret ha).imp ?_
  rintro D σ H ⟨p, e, s, re, rs, q⟩
  refine ⟨p, e, s, re, rs, (PoS.ex (rel := RV X.K) q re).imp ?_⟩
  rintro x H1 ⟨y, p1, s1, f, rs1, r1, q⟩
  exact q p1 H1 x Fut.refl rs1 r1
theorem r_ifs (ht : JT X cm W c ft) (h1 : JSs X cm W sts f) (h2 : JSs X cm W rest g) : JS X cm W (.If c sts rest pos) (cIf ft f g) := by
  refine (ps_if ht h1 h2).imp ?_
  rintro D σ H ⟨p, e, s, re, rs, q⟩
  refine ⟨p, e, s, re, rs, (PoS.ex (rel := rB) q re).imp ?_⟩
  rintro x H1 ⟨y, p1, s1, f, rs1, r1, q⟩
  obtain rfl : y = x := r1
  cases y with
  | true => exact iteT ⟨p1, e, s1, re.mono f, rs1, q⟩
  | false => exact iteF ⟨p1, e, s1, re.mono f, rs1, q⟩
theorem PoS.set {p : List Addr} {H : Hp} {e : Env} {σ : L2.St} {g : G} {s : S} {Dn : Ends} {vs : List Nat} (h : PoS K cm W p H (cSet fa g e s) Dn) (re : RE K p H e σ) :
    Po K cm W (RV K) p σ H (fa e s) fun x H1 => tG K cm g vs x σ H1 Dn.nx := by
  refine (PoS.ex (rel := RV K) h re).imp ?_
  rintro x H1 ⟨y, p1, s1, f, rs1, r1, q⟩
  cases hg : g y e s1 with
  | none => rw [hg] at q; exact q.elim
  | some e' =>
    rw [hg] at q
    exact ⟨p1, e, s1, y, e', re.mono f, rs1, r1, hg, fun σ' re' _ => q p1 H1 σ' Fut.refl rs1 re'⟩
theorem r_asg {tg : Expr} {g : G} {vs : List Nat} (ha : JE X cm W a fa) (hg : JG X cm tg g vs) (hs : swapsWithSole [tg] a pos.line X.env = pure false := by rfl) (hw : swappedStores [tg] a X.env = pure none := by rfl)
    (h1 : (assignEach [tg] X.env).map (·.2) = [assign tg X.env] := by rfl) : JS X cm W (.Assign [tg] a pos) (cSet fa g) := by
  refine (ps_asg ha hg hs hw h1).imp ?_
  rintro D σ H ⟨p, e, s, re, rs, q⟩
  exact ⟨p, e, s, re, rs, q.set re⟩
theorem tG_name {p : List Addr} {H : Hp} {e : Env} {s : S} {σ : L2.St} {Q : L2.St → Hp → Prop} {i : Nat} {x : V} (h : tG K cm (gName i) [i] x σ H Q) : L2.gName i x σ H Q := by
  obtain ⟨p, e, s, d, e', re, rs, rv, h, q⟩ := h
  cases h
  refine q _ (re.set i rv) fun j hj => ?_
  rw [List.getElem?_set_ne (fun e => hj (by simp [e]))]
theorem r_set (i : Nat) {x : Str} {pos' : Pos} (hN : X.N.Nodup) (ha : JE X cm W a fa) (hi : X.N[i]? = some x := by rfl) (hx : Loc X.env.scope x := by first | exact Or.inl rfl | exact Or.inr rfl) (hs : swapsWith a (some (.Name x pos')) pos.line X.env = pure false := by rfl)
    (hf : X.fn x = true ∨ X.env.scope.names.lookup x = some .local := by first | exact .inl rfl | exact .inr rfl) : JS X cm W (.Assign [.Name x pos'] a pos) (cSet fa (gName i)) := by
  refine (ps_set hN hi hx ha hs hf).imp ?_
  rintro D σ H ⟨p, e, s, re, rs, q⟩
  exact ⟨p, e, s, re, rs, (PoS.set q re (vs := [i])).imp fun x H1 h => tG_name (p := p) (e := e) (s := s) h⟩
theorem r_par (i j : Nat) {x y : Str} {fl : EL} {px py pt : Pos} {kt k2 : Nat} {pt2 : Pos} (hc : X.calm = true) (hN : X.N.Nodup) (ha : JA X cm W [a, b] fl) (hi : X.N[i]? = some x := by rfl) (hj : X.N[j]? = some y := by rfl) (hij : i ≠ j := by decide)
    (hx : X.env.scope.names.lookup x = some .local := by rfl) (hy : X.env.scope.names.lookup y = some .local := by rfl)
    (hw : swappedStores [.Tuple [.Name x px, .Name y py] kt pt] (.Tuple [a, b] k2 pt2) X.env = pure (some [x, y]) := by rfl)
    (hs : swapsWithSole [.Tuple [.Name x px, .Name y py] kt pt] (.Tuple [a, b] k2 pt2) pos.line X.env = pure false := by rfl) :
    JS X cm W (.Assign [.Tuple [.Name x px, .Name y py] kt pt] (.Tuple [a, b] k2 pt2) pos) (cPar i j fl) := by
  refine (ps_par hc hN hi hj hij hx hy ha hw hs).imp ?_
  rintro D σ H ⟨p, e, s, re, rs, q⟩
  refine ⟨p, e, s, re, rs, (PoS.ex (rel := RVs X.K) q re).imp ?_⟩
  rintro xs H1 ⟨ds, p1, s1, f, rs1, r1, q⟩
  split at q
  · obtain ⟨u, v, rfl, ru, rv⟩ := two_rv r1
    exact ⟨u, v, rfl, q p1 H1 _ Fut.refl rs1 (((re.mono f).set i ru).set j rv)⟩
  · exact q.elim
theorem set_dict (hu : X.A.units + 1 < cLine) : PSet X (fun o i v H Q => ∃ a H4, o = .ref a ∧ DPut H a i v H4 ∧ Q H4) := by
  intro pins s σ H o i v ov iv u Q I ro ri rv h
  obtain ⟨a, H4, rfl, g, q⟩ := h
  cases (show ov = Value.ref a from ro)
  exact d_setItem hu I g ri rv fun s4 I4 => ⟨H4, I4, q⟩
theorem RKs.putK {κ : Type} [DecidableEq κ] {p : List Addr} {H : Hp} (k : κ) {d : D} {v : V} (rv : RV K p H d v) {ds : List (κ × D)} {vs : List (κ × V)} (r : RKs K p H ds vs) : RKs K p H (kput ds k d) (L2.putK vs k v) := by
  have hany : ∀ {ds : List (κ × D)} {vs : List (κ × V)}, RKs K p H ds vs → (ds.any fun kv => decide (kv.1 = k)) = vs.any fun kv => decide (kv.1 = k) := by
    intro ds
    induction ds with
    | nil => intro vs r; simp only [RKs] at r; rw [r]; rfl
    | cons x ds ih =>
      intro vs r
      simp only [RKs] at r
      obtain ⟨w, r', rfl, r1, r2⟩ := r
      simp only [List.any_cons, ih r2]
  have hmap : ∀ {ds : List (κ × D)} {vs : List (κ × V)}, RKs K p H ds vs → RKs K p H (ds.map fun kv => if kv.1 = k then (kv.1, d) else kv) (vs.map fun kv => if kv.1 = k then (kv.1, v) else kv) := by
    intro ds
    induction ds with
    | nil => intro vs r; simp only [RKs] at r; rw [r]; simp [RKs]
    | cons x ds ih =>
      intro vs r
      simp only [RKs] at r
      obtain ⟨w, r', rfl, r1, r2⟩ := r
      simp only [List.map_cons]
      by_cases hk : x.1 = k
      · rw [if_pos hk, if_pos hk]
        simp only [RKs]
        exact ⟨v, _, rfl, rv, ih r2⟩
      · rw [if_neg hk, if_neg hk]
        simp only [RKs]
        exact ⟨w, _, rfl, r1, ih r2⟩
  have happ : ∀ {ds : List (κ × D)} {vs : List (κ × V)}, RKs K p H ds vs → RKs K p H (ds ++ [(k, d)]) (vs ++ [(k, v)]) := by
    intro ds
    induction ds with
    | nil => intro vs r; simp only [RKs] at r; rw [r]; simp only [List.nil_append, RKs]; exact ⟨v, [], rfl, rv, rfl⟩
    | cons x ds ih =>
      intro vs r
      simp only [RKs] at r
      obtain ⟨w, r', rfl, r1, r2⟩ := r
      simp only [List.cons_append, RKs]
      exact ⟨w, _, rfl, r1, ih r2⟩
  unfold kput L2.putK
  rw [hany r]
  split
  · exact hmap r
  · exact happ r
theorem dput_ok {p : List Addr} {s : S} {H : Hp} {n : Nat} {a : Addr} {o o' : O} {k d : D} {y v : V} (rs : RS K cm p s H) (ha : p[n]? = some a) (h : s[n]? = some o) (rk : RV K p H k y) (rv : RV K p H d v) (e : dput o k d = some o') :
    ∃ u, DPut H a y v (upd H a u) ∧ Fut p H p (upd H a u) ∧ RS K cm p (s.set n o') (upd H a u) := by
  obtain ⟨b, hb, q⟩ := rs.at h
  rw [ha] at hb; cases hb
  unfold dput at e
  split at e
  · rename_i kvs
    split at e
    · rename_i hl
      obtain ⟨k', e1, rfl⟩ := Option.map_eq_some_iff.mp e
      obtain ⟨u, hu, ws, rfl, c⟩ := q
      have ek := key_ok e1 rk
      subst ek
      obtain ⟨f, rs'⟩ := rs.put (o := .dK (kput kvs k' d)) (u := .dK (L2.putK ws k' v)) ha hu trivial ⟨_, rfl, c.putK k' rv⟩
      exact ⟨_, DPut.k hu (by rw [← c.length, sizeLine_eq]; exact hl), f, rs'⟩
    · cases e
  · rename_i kvs
    split at e
    · rename_i hl
      split at e
      · rename_i ds
        obtain ⟨k', e1, rfl⟩ := Option.map_eq_some_iff.mp e
        obtain ⟨u, hu, ws, rfl, c⟩ := q
        obtain ⟨t, vs, rfl, ht, rr⟩ := rv_tup rk
        have ek := keys_ok e1 rr
        subst ek
        obtain ⟨f, rs'⟩ := rs.put (o := .dT (kput kvs k' d)) (u := .dT (L2.putK ws k' v)) ha hu trivial ⟨_, rfl, c.putK k' rv⟩
        exact ⟨_, DPut.t hu ht (by rw [← c.length, sizeLine_eq]; exact hl), f, rs'⟩
      · cases e
    · cases e
  · cases e
theorem r_sub {k : Nat} {pos' : Pos} (hr : Room k X.A) (hb : JE X cm W b fb) (hc : JE X cm W c fc) (ha : JE X cm W a fa)
    (hsub : ∀ v, assign (.Subscript b c pos') X.env v = (do
      let ov ← holding [v] (eval b X.env)
      let iv ← holding [v, ov] (eval c X.env)
      standAt pos'
      holding [v, ov, iv] (setItem ov iv v)
      release [v, ov, iv] []) := by intro _; rfl)
    (hs : swapsWithSole [.Subscript b c pos'] a pos.line X.env = pure false := by rfl) (hw : swappedStores [.Subscript b c pos'] a X.env = pure none := by rfl)
    (h1 : (assignEach [.Subscript b c pos'] X.env).map (·.2) = [assign (.Subscript b c pos') X.env] := by rfl) : JS X cm W (.Assign [.Subscript b c pos'] a pos) (cSub fb fc fa) := by
  refine (ps_asg ha (pg_sub hb hc (set_list.or (set_dict (hu_of hr))) hsub) hs hw h1).imp ?_
  rintro D σ H ⟨p, e, s, re, rs, q⟩
  refine ⟨p, e, s, re, rs, (PoS.ex (rel := RV X.K) q re).imp ?_⟩
  rintro v H1 ⟨d1, p1, s1, f1, rs1, r1, q1⟩
  refine ⟨p1, e, s1, re.mono f1, rs1, (PoS.ex (rel := RV X.K) q1 (re.mono f1)).imp ?_⟩
  rintro o H2 ⟨d2, p2, s2, f2, rs2, r2, q2⟩
  refine ⟨p2, e, s2, (re.mono f1).mono f2, rs2, (PoS.ex (rel := RV X.K) q2 ((re.mono f1).mono f2)).imp ?_⟩
  rintro i H3 ⟨d3, p3, s3, f3, rs3, r3, q3⟩
  have re3 := ((re.mono f1).mono f2).mono f3
  have r1' := (r1.mono f2).mono f3
  have r2' := r2.mono f3
  split at q3
  · rename_i n
    split at q3
    · rename_i ds h
      split at q3
      · rename_i kk
        obtain ⟨t, vs, rfl, hp, hH, rr⟩ := lst_at rs3 r2' h
        cases hj : ixN ds.length kk with
        | none => rw [hj] at q3; exact q3.elim
        | some j =>
          rw [hj] at q3
          obtain ⟨f, rs'⟩ := rs3.put (o := .lst (ds.set j d1)) (u := .lst (vs.set j v)) hp hH trivial ⟨_, rfl, rr.set j r1'⟩
          exact .inl ⟨t, vs, kk, j, rfl, rv_int r3, hH, by rw [← rr.length]; exact hj, q3 p3 _ σ f rs' (re3.mono f)⟩
      · exact q3.elim
    · rename_i o' h0 h
      cases hd : dput o' d3 d1 with
      | none => rw [hd] at q3; exact q3.elim
      | some o2 =>
        rw [hd] at q3
        simp only [RV] at r2'
        obtain ⟨t, ht, rfl⟩ := r2'
        obtain ⟨u, g, f, rs'⟩ := dput_ok rs3 ht h r3 r1' hd
        exact .inr ⟨t, _, rfl, g, q3 p3 _ σ f rs' (re3.mono f)⟩
    · exact q3.elim
  · exact q3.elim
end
end Fc
namespace Fc
open PySem PySem.Spec PyProof.Rows L2
variable {K : PySem.W.Frag} {cm : CM} {W : WX}
def NF (X : Cx) (d : Addr) : Prop := ∀ o' u', X.H_0 d ≠ some (.frz o' u')
def Ul (X : Cx) (P : Hp → Prop) (H' : Hp) : Prop := P H' ∨ ∃ d od u, H' d = some (.frz od u) ∧ NF X d ∧ P (upd H' d u)
section
variable {X : Cx} {e : Expr} {te : TE} {st : Stmt} {t : TS}
theorem pe_glock (h : PE X e te) : PE X e (fun σ H Q => te σ H fun x H1 => Q x H1 ∨ ∃ d u, H1 d = some u ∧ Mut (some u) ∧ ∀ od, NF X d → Q x (upd H1 d (.frz od u))) := by
  refine ⟨fun pins s σ H Q I q => thn (h.run pins s σ H _ I q) ?_⟩
  rintro v s1 ⟨x, H1, I1, r, q | ⟨d, u, h1, mu, q⟩⟩
  · exact ⟨x, H1, I1, r, q⟩
  · obtain ⟨od, I2⟩ := I1.lock h1 mu
    exact ⟨x, _, I2, r, q od (I1.nofrz h1 mu)⟩
theorem ul_out {pins : List (Addr × Obj)} {σ : L2.St} {H : Hp} {s : Shared} {P : Hp → Prop} (I : Inv X pins σ H s) (h : Ul X P H) : ∃ H', Inv X pins σ H' s ∧ P H' := by
  rcases h with h | ⟨d, od, u, h1, nf, h⟩
  · exact ⟨H, I, h⟩
  · exact ⟨_, I.unlock h1 nf, h⟩
theorem pe_gunlock (h : PE X e te) : PE X e (fun σ H Q => te σ H fun x H1 => Ul X (Q x) H1) := by
  refine ⟨fun pins s σ H Q I q => thn (h.run pins s σ H _ I q) ?_⟩
  rintro v s1 ⟨x, H1, I1, r, q⟩
  obtain ⟨H2, I2, q⟩ := ul_out I1 q
  exact ⟨x, H2, I2, r, q⟩
def ulE (X : Cx) (D : Ends) : Ends := ⟨fun σ => Ul X (D.nx σ), fun v => Ul X (D.rt v), fun σ => Ul X (D.bk σ), fun σ => Ul X (D.ct σ)⟩
theorem ps_gunlock (h : PS X st t) : PS X st (fun D σ H => t (ulE X D) σ H) := by
  refine ⟨fun pins s σ H D I q => thn (h.run pins s σ H _ I q) ?_⟩
  intro f s1 q
  cases f with
  | next =>
    obtain ⟨σ', H1, I1, q⟩ := q
    obtain ⟨H2, I2, q⟩ := ul_out I1 q
    exact ⟨σ', H2, I2, q⟩
  | brk =>
    obtain ⟨σ', H1, I1, q⟩ := q
    obtain ⟨H2, I2, q⟩ := ul_out I1 q
    exact ⟨σ', H2, I2, q⟩
  | cont =>
    obtain ⟨σ', H1, I1, q⟩ := q
    obtain ⟨H2, I2, q⟩ := ul_out I1 q
    exact ⟨σ', H2, I2, q⟩
  | ret u =>
    obtain ⟨v, σ', H1, I1, r, q⟩ := q
    obtain ⟨H2, I2, q⟩ := ul_out I1 q
    exact ⟨v, σ', H2, I2, r, q⟩
end
structure WalkD (K : PySem.W.Frag) (cm : CM) (J : It) (ds : List D) (G : List Addr → Hp → Prop) : Prop where
  go : ∀ p H i, G p H → i < ds.length → J.go i H
  st : ∀ p H, G p H → J.stop ds.length H
  yl : ∀ p H s i x H', G p H → RS K cm p s H → i < ds.length → J.yld i H x H' → ∃ d, ds[i]? = some d ∧ Fut p H p H' ∧ RS K cm p s H' ∧ RV K p H' d x
  fu : ∀ p H p' H', G p H → Fut p H p' H' → G p' H'
/-- what a walk of this source must give -/
def Drv (X : Cx) (cm : CM) (sk : SK) (p : List Addr) (H : Hp) (s : S) (R : It → Hp → Prop) : Prop := match sk with
  | .vals ds => ∀ J G, WalkD X.K cm J ds G → G p H → R J H
  | .list n k => (∃ ds, s[n]? = some (.lst ds) ∧ ds.length = k) → ∀ a, p[n]? = some a → R (Itl X.K a) H
  | .dict n ds => match s[n]? with
    | some (.lck o) => ∀ J G, WalkD X.K cm J ds G → G p H → R J H
    | some o => ∀ a u od J G, p[n]? = some a → H a = some u → Mut (some u) → RC X.K cm p H a o u → NF X a → (∀ ys, u ≠ .lst ys) → WalkD X.K cm J ds G → G p (upd H a (.frz od u)) → R J (upd H a (.frz od u))
    | none => False
def PoI (X : Cx) (cm : CM) (W : WX) (p : List Addr) (σ : L2.St) (H : Hp) (r : Option (Res SK)) (R : It → Hp → Prop) : Prop := match r with
  | none => False
  | some (.ok sk s1) => ∀ p1 H1, Fut p H p1 H1 → RS X.K cm p1 s1 H1 → Drv X cm sk p1 H1 s1 R
  | some (.exc c fs s') => ∀ p' H' cls dd, Fut p H p' H' → RS X.K cm p' s' H' → RX X.K cm p' H' c fs cls dd → W cls dd σ H'
def JI (X : Cx) (cm : CM) (W : WX) (tg iter : Expr) (src : SrcE) : Prop := ∃ wi : TI, PI X tg iter wi ∧ ∀ p e s σ H R, RE X.K p H e σ → RS X.K cm p s H → PoI X cm W p σ H (src e s) R → wi σ H R
section
variable {X : Cx} {tg a b : Expr} {fa fb : E} {pos : Pos}
theorem walk_tupD {a : Addr} {vs : List V} {ds : List D} : WalkD K cm (Itt K a) ds (fun p H => H a = some (.tup vs) ∧ RVs K p H ds vs) where
  go := fun p H i ⟨h, r⟩ hi => ⟨vs, vs[i]'(by rw [← r.length]; exact hi), SqT.of h, by simp [← r.length, hi]⟩
  st := fun p H ⟨h, r⟩ => ⟨vs, SqT.of h, by rw [← r.length]; exact Nat.le_refl _⟩
  yl := fun p H s i x H' ⟨h, r⟩ rs hi ⟨e, y⟩ => by
    subst e
    have e1 : ds[i]? = some ds[i] := by simp [hi]
    obtain ⟨v, h1, h2⟩ := r.get e1
    have := y vs (SqT.of h)
    rw [h1] at this; cases this
    exact ⟨ds[i], e1, Fut.refl, rs, h2⟩
  fu := fun p H p' H' ⟨h, r⟩ f => ⟨f.tup _ _ h, r.mono f⟩
theorem walk_strD {z : Str} : WalkD K cm (Its z) (signs z) (fun _ _ => True) where
  go := fun p H i _ hi => by
    have h := hi
    simp [signs] at h
    exact h
  st := fun p H _ => by simp [signs, Its]
  yl := fun p H s i x H' _ rs hi ⟨e, c, hc, y⟩ => by
    subst e
    refine ⟨.str ⟨#[c]⟩, ?_, Fut.refl, rs, by rw [y]; exact mk_str _⟩
    unfold signs
    rw [List.getElem?_map, Array.getElem?_toList, hc]
    rfl
  fu := fun _ _ _ _ _ _ => True.intro
theorem walk_rangeD {i j : Int} : WalkD K cm (Itr i (j - i).toNat) (rangeL i j) (fun _ _ => True) where
  go := fun p H k _ hk => by
    have h := hk
    simp only [rangeL, List.length_map, List.length_range] at h
    exact h
  st := fun p H _ => by
    show _ ≤ _
    simp only [rangeL, List.length_map, List.length_range]
    omega
  yl := fun p H s k x H' _ rs hk ⟨e, y⟩ => by
    subst e
    refine ⟨.int (i + (k : Int)), ?_, Fut.refl, rs, by rw [y]; exact mk_int _⟩
    have hk' : k < (j - i).toNat := by simpa [rangeL] using hk
    unfold rangeL
    rw [List.getElem?_map, List.getElem?_range hk']
    rfl
  fu := fun _ _ _ _ _ _ => True.intro
theorem rv_dOf {p : List Addr} {H : Hp} (k : Key) : RV K p H (dOf k) (kV k) := by
  cases k with
  | inl i => exact mk_int i
  | inr x => exact mk_str x
theorem RKs.at {κ : Type} {p : List Addr} {H : Hp} : ∀ {ds : List (κ × D)} {vs : List (κ × V)} {i : Nat} {k : κ} {v : V}, RKs K p H ds vs → vs[i]? = some (k, v) → ∃ d, ds[i]? = some (k, d) ∧ RV K p H d v
  | [], vs, i, k, v, r, e => by simp only [RKs] at r; rw [r] at e; simp at e
  | x :: ds, vs, i, k, v, r, e => by
    simp only [RKs] at r
    obtain ⟨w, r', rfl, r1, r2⟩ := r
    cases i with
    | zero =>
      simp at e
      obtain ⟨rfl, rfl⟩ := e
      exact ⟨x.2, rfl, r1⟩
    | succ i =>
      obtain ⟨d, h1, h2⟩ := RKs.at r2 (by simpa using e)
      exact ⟨d, by simpa using h1, h2⟩
theorem walk_keysD {d : Addr} {o : Obj} {ws : List (Key × V)} {kvs : List (Key × D)} : WalkD K cm (Itk d o ws) (kvs.map fun kv => dOf kv.1) (fun p H => H d = some (.frz o (.dK ws)) ∧ RKs K p H kvs ws) where
  go := fun p H i ⟨h, r⟩ hi => ⟨h, by rw [← r.length]; simpa using hi⟩
  st := fun p H ⟨h, r⟩ => ⟨h, by rw [← r.length]; simp⟩
  yl := fun p H s i x H' ⟨h, r⟩ rs hi ⟨e, k, v, h1, y⟩ => by
    subst e
    obtain ⟨d', h2, _⟩ := r.at h1
    exact ⟨dOf k, by rw [List.getElem?_map, h2]; rfl, Fut.refl, rs, by rw [y]; exact rv_dOf k⟩
  fu := fun p H p' H' ⟨h, r⟩ f => ⟨f.frz _ _ _ h, r.mono f⟩
theorem rvs_dOf {p : List Addr} {H : Hp} : ∀ ks : List Key, RVs K p H (ks.map dOf) (ks.map kV)
  | [] => by simp [RVs]
  | k :: ks => by
    simp only [List.map_cons, RVs]
    exact ⟨_, _, rfl, rv_dOf k, rvs_dOf ks⟩
theorem walk_keysTD {d : Addr} {o : Obj} {ws : List (List Key × V)} {kvs : List (List Key × D)} : WalkD K cm (Itkt d o ws) (kvs.map fun kv => .tup (kv.1.map dOf)) (fun p H => H d = some (.frz o (.dT ws)) ∧ RKs K p H kvs ws) where
  go := fun p H i ⟨h, r⟩ hi => ⟨h, by rw [← r.length]; simpa using hi⟩
  st := fun p H ⟨h, r⟩ => ⟨h, by rw [← r.length]; simp⟩
  yl := fun p H s i x H' ⟨h, r⟩ rs hi ⟨e, k, v, q, h1, y, h3⟩ => by
    subst e
    obtain ⟨d', h2, _⟩ := r.at h1
    refine ⟨.tup (k.map dOf), by rw [List.getElem?_map, h2]; rfl, Fut.refl, rs, ?_⟩
    rw [y]
    exact mk_tup h3 (rvs_dOf k)
  fu := fun p H p' H' ⟨h, r⟩ f => ⟨f.frz _ _ _ h, r.mono f⟩
theorem walk_valsD {d : Addr} {o : Obj} {ws : List (Key × V)} {kvs : List (Key × D)} : WalkD K cm (Itd d o ws) (kvs.map (·.2)) (fun p H => H d = some (.frz o (.dK ws)) ∧ RKs K p H kvs ws) where
  go := fun p H i ⟨h, r⟩ hi => ⟨h, by rw [← r.length]; simpa using hi⟩
  st := fun p H ⟨h, r⟩ => ⟨h, by rw [← r.length]; simp⟩
  yl := fun p H s i x H' ⟨h, r⟩ rs hi ⟨e, k, h1⟩ => by
    subst e
    obtain ⟨d', h2, rv⟩ := r.at h1
    exact ⟨d', by rw [List.getElem?_map, h2]; rfl, Fut.refl, rs, rv⟩
  fu := fun p H p' H' ⟨h, r⟩ f => ⟨f.frz _ _ _ h, r.mono f⟩
theorem walk_itemsD {d : Addr} {o : Obj} {ws : List (Key × V)} {kvs : List (Key × D)} : WalkD K cm (Iti d o ws) (kvs.map pairD) (fun p H => H d = some (.frz o (.dK ws)) ∧ RKs K p H kvs ws) where
  go := fun p H i ⟨h, r⟩ hi => ⟨h, by rw [← r.length]; simpa using hi⟩
  st := fun p H ⟨h, r⟩ => ⟨h, by rw [← r.length]; simp⟩
  yl := fun p H s i x H' ⟨h, r⟩ rs hi ⟨t, k, v, h1, y, h3, e⟩ => by
    subst e
    obtain ⟨d', h2, rv⟩ := r.at h1
    have sm := same_new (u := HO.tup [kV k, v]) h3
    refine ⟨pairD (k, d'), by rw [List.getElem?_map, h2]; rfl, Fut.same sm, rs.same sm, ?_⟩
    rw [y]
    refine mk_tup upd_same ?_
    simp only [RVs]
    exact ⟨_, _, rfl, rv_dOf k, _, _, rfl, rv.mono (Fut.same sm), rfl⟩
  fu := fun p H p' H' ⟨h, r⟩ f => ⟨f.frz _ _ _ h, r.mono f⟩
/-- locking: what is tracked stays, but for the lock -/
theorem Fut0.lock {p : List Addr} {H : Hp} {a : Addr} {u : HO} {od : Obj} (h : H a = some u) (mu : Mut (some u)) : Fut p H p (upd H a (.frz od u)) := Fut.put h mu
/-- a dict's walk, by how it is walked -/
theorem dwalk {k : Src} {o : O} {ds : List D} {u : HO} {p : List Addr} {H H' : Hp} {a : Addr} {od : Obj} (e : dSrc k o = some ds) (c : RC K cm p H a o u) (f : Fut0 p H p H') (h : H' a = some (.frz od u)) :
    ((k = .seq ∨ k = .keys) ∧ ((∃ ws, u = .dK ws ∧ ∃ G, WalkD K cm (Itk a od ws) ds G ∧ G p H') ∨ (k = .seq ∧ ∃ ws, u = .dT ws ∧ ∃ G, WalkD K cm (Itkt a od ws) ds G ∧ G p H'))) ∨
    (k = .items ∧ ∃ ws, u = .dK ws ∧ ∃ G, WalkD K cm (Iti a od ws) ds G ∧ G p H') ∨ (k = .vals ∧ ∃ ws, u = .dK ws ∧ ∃ G, WalkD K cm (Itd a od ws) ds G ∧ G p H') := by
  unfold dSrc at e
  split at e
  · cases e
    obtain ⟨ws, rfl, c⟩ := c
    exact .inl ⟨.inr rfl, .inl ⟨ws, rfl, _, walk_keysD, h, c.mono0 f⟩⟩
  · cases e
  · cases e
    obtain ⟨ws, rfl, c⟩ := c
    exact .inl ⟨.inl rfl, .inl ⟨ws, rfl, _, walk_keysD, h, c.mono0 f⟩⟩
  · cases e
    obtain ⟨ws, rfl, c⟩ := c
    exact .inl ⟨.inl rfl, .inr ⟨rfl, ws, rfl, _, walk_keysTD, h, c.mono0 f⟩⟩
  · cases e
    obtain ⟨ws, rfl, c⟩ := c
    exact .inr (.inl ⟨rfl, ws, rfl, _, walk_itemsD, h, c.mono0 f⟩)
  · cases e
    obtain ⟨ws, rfl, c⟩ := c
    exact .inr (.inr ⟨rfl, ws, rfl, _, walk_valsD, h, c.mono0 f⟩)
  · cases e
/-- what a dict's walk gives, by its kind -/
def DW (k : Src) (a : Addr) (od : Obj) (u : HO) (R : It → Hp → Prop) (H' : Hp) : Prop :=
  ((k = .seq ∨ k = .keys) ∧ ((∃ ws, u = .dK ws ∧ R (Itk a od ws) H') ∨ (k = .seq ∧ ∃ ws, u = .dT ws ∧ R (Itkt a od ws) H'))) ∨
    (k = .items ∧ ∃ ws, u = .dK ws ∧ R (Iti a od ws) H') ∨ (k = .vals ∧ ∃ ws, u = .dK ws ∧ R (Itd a od ws) H')
theorem dw_of {k : Src} {o : O} {ds : List D} {u : HO} {p : List Addr} {H H' : Hp} {a : Addr} {od : Obj} {R : It → Hp → Prop} (e : dSrc k o = some ds) (c : RC K cm p H a o u) (f : Fut0 p H p H') (h : H' a = some (.frz od u))
    (q : ∀ J G, WalkD K cm J ds G → G p H' → R J H') : DW k a od u R H' := by
  rcases dwalk e c f h with ⟨h1, ⟨ws, h2, G, h3, h4⟩ | ⟨h5, ws, h2, G, h3, h4⟩⟩ | ⟨h1, ws, h2, G, h3, h4⟩ | ⟨h1, ws, h2, G, h3, h4⟩
  · exact .inl ⟨h1, .inl ⟨ws, h2, q _ _ h3 h4⟩⟩
  · exact .inl ⟨h1, .inr ⟨h5, ws, h2, q _ _ h3 h4⟩⟩
  · exact .inr (.inl ⟨h1, ws, h2, q _ _ h3 h4⟩)
  · exact .inr (.inr ⟨h1, ws, h2, q _ _ h3 h4⟩)
theorem dsrc_mut {k : Src} {o : O} {ds : List D} {u : HO} {p : List Addr} {H : Hp} {a : Addr} (e : dSrc k o = some ds) (c : RC K cm p H a o u) : Mut (some u) := by
  unfold dSrc at e
  split at e <;> first
    | (cases e; done)
    | (obtain ⟨ws, rfl, _⟩ := c; exact True.intro)
theorem dsrc_nl {k : Src} {o : O} {ds : List D} {u : HO} {p : List Addr} {H : Hp} {a : Addr} (e : dSrc k o = some ds) (c : RC K cm p H a o u) : ∀ ys, u ≠ .lst ys := by
  unfold dSrc at e
  split at e <;> first
    | (cases e; done)
    | (obtain ⟨ws, rfl, _⟩ := c; exact fun ys z => by cases z)
theorem dict_i {k : Src} {n : Nat} {o : O} {ds : List D} {p : List Addr} {H : Hp} {s : S} {v : V} {R : It → Hp → Prop} (hs : s[n]? = some o) (e : dSrc k (unl o) = some ds) (rs : RS X.K cm p s H) (rv : RV X.K p H (.ref n) v) (q : Drv X cm (.dict n ds) p H s R) :
    ∃ a, v = .ref a ∧ ((∃ od u, H a = some (.frz od u) ∧ DW k a od u R H) ∨ ∃ u, H a = some u ∧ Mut (some u) ∧ ∀ od, NF X a → DW k a od u R (upd H a (.frz od u))) := by
  simp only [RV] at rv
  obtain ⟨a, ha, rfl⟩ := rv
  obtain ⟨b, hb, hr⟩ := rs.at hs
  rw [ha] at hb; cases hb
  refine ⟨a, rfl, ?_⟩
  simp only [Drv, hs] at q
  cases o with
  | lck o' =>
    obtain ⟨od, u, e1, _, c⟩ := hr
    exact .inl ⟨od, u, e1, dw_of e c Fut.refl.toFut0 e1 q⟩
  | err _ _ => simp [unl, dSrc] at e
  | lst _ =>
    obtain ⟨u, e1, c⟩ := hr
    have mu := dsrc_mut e c
    exact .inr ⟨u, e1, mu, fun od nf => dw_of e c (Fut0.lock e1 mu).toFut0 upd_same fun J G w g => q a u od J G ha e1 mu c nf (dsrc_nl e c) w g⟩
  | dK _ =>
    obtain ⟨u, e1, c⟩ := hr
    have mu := dsrc_mut e c
    exact .inr ⟨u, e1, mu, fun od nf => dw_of e c (Fut0.lock e1 mu).toFut0 upd_same fun J G w g => q a u od J G ha e1 mu c nf (dsrc_nl e c) w g⟩
  | dT _ =>
    obtain ⟨u, e1, c⟩ := hr
    have mu := dsrc_mut e c
    exact .inr ⟨u, e1, mu, fun od nf => dw_of e c (Fut0.lock e1 mu).toFut0 upd_same fun J G w g => q a u od J G ha e1 mu c nf (dsrc_nl e c) w g⟩
  | dN _ => simp [unl, dSrc] at e
  | ins _ _ =>
    obtain ⟨u, e1, c⟩ := hr
    have mu := dsrc_mut e c
    exact .inr ⟨u, e1, mu, fun od nf => dw_of e c (Fut0.lock e1 mu).toFut0 upd_same fun J G w g => q a u od J G ha e1 mu c nf (dsrc_nl e c) w g⟩
/-- a source's expression -/
theorem PoI.cases {k : Src} {p : List Addr} {σ : L2.St} {H : Hp} {e : Env} {s : S} {R : It → Hp → Prop} (q : PoI X cm W p σ H (iSrc k fa e s) R) :
    (∃ c fs s', fa e s = some (.exc c fs s') ∧ ∀ Q : VK, Po X.K cm W (RV X.K) p σ H (fa e s) Q) ∨ ∃ d s1 sk, fa e s = some (.ok d s1) ∧ srcOf k d s1 = some sk ∧ ∀ p1 H1, Fut p H p1 H1 → RS X.K cm p1 s1 H1 → Drv X cm sk p1 H1 s1 R := by
  unfold iSrc bnd at q
  cases h : fa e s with
  | none => rw [h] at q; exact q.elim
  | some r =>
    rw [h] at q
    cases r with
    | exc c fs s' => exact .inl ⟨c, fs, s', rfl, fun Q => q⟩
    | ok d s1 =>
      cases hs : srcOf k d s1 with
      | none => simp only [hs] at q; exact q.elim
      | some sk =>
        simp only [hs] at q
        exact .inr ⟨d, s1, sk, rfl, hs, q⟩
theorem i_seq (ha : JE X cm W a fa) : JI X cm W tg a (iSrc .seq fa) := by
  refine ⟨_, (pi_list ha).or ((pi_tup ha).or ((pi_str ha).or (pi_keys (pe_glock ha)))), ?_⟩
  intro p e s σ H R re rs q
  rcases PoI.cases q with ⟨c, fs, s', h, q⟩ | ⟨d, s1, sk, h, hs, q⟩
  · exact .inl ⟨p, e, s, re, rs, q _⟩
  · unfold srcOf at hs
    split at hs
    · rename_i ds
      cases hs
      refine .inr (.inl ⟨p, e, s, re, rs, ?_⟩)
      rw [h]
      intro p1 H1 v f rs1 rv
      obtain ⟨t, vs, rfl, h1, rr⟩ := rv_tup rv
      exact ⟨t, rfl, ⟨vs, SqT.of h1⟩, q p1 H1 f rs1 _ _ walk_tupD ⟨h1, rr⟩⟩
    · rename_i z
      cases hs
      refine .inr (.inr (.inl ⟨p, e, s, re, rs, ?_⟩))
      rw [h]
      intro p1 H1 v f rs1 rv
      exact ⟨z, rv_str rv, q p1 H1 f rs1 _ _ walk_strD True.intro⟩
    · rename_i n
      split at hs
      · rename_i ds hn
        cases hs
        refine .inl ⟨p, e, s, re, rs, ?_⟩
        rw [h]
        intro p1 H1 v f rs1 rv
        obtain ⟨t, vs, rfl, hp, h1, rr⟩ := lst_at rs1 rv hn
        exact ⟨t, rfl, ⟨vs, SqL.of h1⟩, q p1 H1 f rs1 ⟨ds, hn, rfl⟩ t hp⟩
      · rename_i o hn
        obtain ⟨ds, e1, rfl⟩ := Option.map_eq_some_iff.mp hs
        refine .inr (.inr (.inr ⟨p, e, s, re, rs, ?_⟩))
        rw [h]
        intro p1 H1 v f rs1 rv
        obtain ⟨t, rfl, ⟨od, u, h1, dw⟩ | ⟨u, h1, mu, dw⟩⟩ := dict_i ‹_› e1 rs1 rv (q p1 H1 f rs1)
        · refine .inl ⟨t, od, rfl, ?_⟩
          rcases dw with ⟨_, ⟨ws, rfl, z⟩ | ⟨_, ws, rfl, z⟩⟩ | ⟨z, _⟩ | ⟨z, _⟩
          · exact .inl ⟨ws, h1, z⟩
          · exact .inr ⟨ws, h1, z⟩
          · cases z
          · cases z
        · refine .inr ⟨t, u, h1, mu, fun od nf => ⟨t, od, rfl, ?_⟩⟩
          rcases dw od nf with ⟨_, ⟨ws, rfl, z⟩ | ⟨_, ws, rfl, z⟩⟩ | ⟨z, _⟩ | ⟨z, _⟩
          · exact .inl ⟨ws, upd_same, z⟩
          · exact .inr ⟨ws, upd_same, z⟩
          · cases z
          · cases z
      · cases hs
    · cases hs
/-- a dict's view -/
theorem PoI.view {k : Src} (hk : k ≠ .seq) {p : List Addr} {σ : L2.St} {H : Hp} {e : Env} {s : S} {R : It → Hp → Prop} (q : PoI X cm W p σ H (iSrc k fa e s) R) {Q : VK}
    (hQ : ∀ a od u H1, H1 a = some (.frz od u) → DW k a od u R H1 → Q (.ref a) H1) :
    Po X.K cm W (RV X.K) p σ H (fa e s) fun x H1 => Q x H1 ∨ ∃ d u, H1 d = some u ∧ Mut (some u) ∧ ∀ od, NF X d → Q x (upd H1 d (.frz od u)) := by
  rcases PoI.cases q with ⟨c, fs, s', h, q⟩ | ⟨d, s1, sk, h, hs, q⟩
  · exact q _
  · rw [h]
    unfold srcOf at hs
    split at hs
    · split at hs
      · exact absurd rfl hk
      · cases hs
    · split at hs
      · exact absurd rfl hk
      · cases hs
    · rename_i n
      split at hs
      · split at hs
        · exact absurd rfl hk
        · cases hs
      · rename_i o hn
        obtain ⟨ds, e1, rfl⟩ := Option.map_eq_some_iff.mp hs
        intro p1 H1 v f rs1 rv
        obtain ⟨t, rfl, ⟨od, u, h1, dw⟩ | ⟨u, h1, mu, dw⟩⟩ := dict_i ‹_› e1 rs1 rv (q p1 H1 f rs1)
        · exact .inl (hQ t od u H1 h1 dw)
        · exact .inr ⟨t, u, h1, mu, fun od nf => hQ t od u _ upd_same (dw od nf)⟩
      · cases hs
    · cases hs
theorem small_ok {i : Int} (h : small i = true) : -(2 ^ 62) ≤ i ∧ i < 2 ^ 62 := by
  unfold small at h
  simpa using h
theorem i_range1 {pf pos : Pos} (hm : X.mg "range" = none) (ha : JE X cm W a fa) (hg : Gl X "range" := by rfl) (hs : starEach [a] X.env = [(false, eval a X.env)] := by rfl) :
    JI X cm W tg (.Call (.Name "range" pf) [a] [] pos) (iRange (eC (.int 0)) fa) := by
  refine ⟨_, pi_range1 hg hm (r_cons ha r_nil (by rw [hs]; rfl)) hs, ?_⟩
  intro p e s σ H R re rs q
  refine ⟨p, e, s, re, rs, ?_⟩
  show Po X.K cm W (RVs X.K) p σ H (lCons fa lNil e s) _
  unfold iRange eC at q
  unfold lCons lNil
  unfold bnd at q ⊢
  simp only [bnd] at q ⊢
  cases h : fa e s with
  | none => rw [h] at q; exact q.elim
  | some r =>
    rw [h] at q
    cases r with
    | exc c fs s' => exact q
    | ok d s1 =>
      simp only [ret] at q ⊢
      split at q
      · rename_i i j hi
        cases hi
        split at q
        · rename_i hsm
          rw [Bool.and_eq_true] at hsm
          intro p1 H1 vs f rs1 rr
          obtain ⟨x, rfl, rx⟩ := one_rv rr
          have b2 := small_ok hsm.2
          refine ⟨j, by rw [rv_int rx], b2.1, b2.2, ?_⟩
          have z := q p1 H1 f rs1 _ _ walk_rangeD True.intro
          rw [show (j - 0).toNat = j.toNat by rw [Int.sub_zero]] at z
          exact z
        · exact q.elim
      · exact q.elim
end
section
variable {X : Cx}
/-- the loop's premise of the hand layer -/
def LoopW (J : It) (g : TG) (tb : TS) (Dn : Ends) (σ : L2.St) (H : Hp) : Prop := ∃ W : Nat → Nat → L2.St → Hp → Prop, (∃ m, W 0 m σ H) ∧ ∀ i m σ H, W i m σ H →
  (J.stop i H ∧ Dn.nx σ H) ∨ (J.go i H ∧ ∃ N : L2.St → Hp → Prop, (∀ σ' H', N σ' H' → ∃ m', m' < m ∧ W (i + 1) m' σ' H') ∧ ∀ x H', J.yld i H x H' → g x σ H' fun σ2 H2 => tb { Dn with nx := N, ct := N, bk := Dn.nx } σ2 H2)
theorem loop_vals {J : It} {ds : List D} {G : List Addr → Hp → Prop} (w : WalkD K cm J ds G) {g : Fc.G} {vs : List Nat} {b : C} {p : List Addr} {e : Env} {s : S} {σ : L2.St} {H : Hp} {Dn : Ends} (hG : G p H) (re : RE K p H e σ) (rs : RS K cm p s H) (q : PoS K cm W p H (forV g b ds e s) Dn) :
    LoopW J (tG K cm g vs) (tS K cm W b) Dn σ H := by
  refine ⟨fun i m σ H => i ≤ ds.length ∧ m = ds.length - i ∧ ∃ p e s, G p H ∧ RE K p H e σ ∧ RS K cm p s H ∧ PoS K cm W p H (forV g b (ds.drop i) e s) Dn, ⟨_, Nat.zero_le _, rfl, p, e, s, hG, re, rs, by simpa using q⟩, ?_⟩
  rintro i m σ H ⟨hi, rfl, p, e, s, hG, re, rs, q⟩
  by_cases hlt : i < ds.length
  · refine .inr ⟨w.go p H i hG hlt, fun σ' H' => ∃ p e s, G p H' ∧ RE K p H' e σ' ∧ RS K cm p s H' ∧ PoS K cm W p H' (forV g b (ds.drop (i + 1)) e s) Dn, fun σ' H' n => ⟨ds.length - (i + 1), by omega, hlt, rfl, n⟩, fun x H' y => ?_⟩
    obtain ⟨d, e1, f, rs', rv⟩ := w.yl p H s i x H' hG rs hlt y
    have hd : ds.drop i = d :: ds.drop (i + 1) := by
      have e2 : ds[i] = d := by
        have := List.getElem?_eq_getElem hlt
        rw [this] at e1; exact Option.some.inj e1
      rw [← e2]
      exact List.drop_eq_getElem_cons hlt
    rw [hd] at q
    unfold forV at q
    cases hg : g d e s with
    | none => rw [hg] at q; exact q.elim
    | some e' =>
      simp only [hg] at q
      refine ⟨p, e, s, d, e', re.mono f, rs', rv, hg, fun σ' re' _ => ⟨p, e', s, re', rs', ?_⟩⟩
      have q := q.fut f
      have hG' := w.fu p H p H' hG f
      cases hb : b e' s with
      | none => rw [hb] at q; exact q.elim
      | some r =>
        rw [hb] at q
        cases r with
        | nx e2 s2 => exact fun p2 H2 σ2 f2 rs2 re2 => ⟨p2, e2, s2, w.fu _ _ _ _ hG' f2, re2, rs2, q.fut f2⟩
        | ct e2 s2 => exact fun p2 H2 σ2 f2 rs2 re2 => ⟨p2, e2, s2, w.fu _ _ _ _ hG' f2, re2, rs2, q.fut f2⟩
        | bk e2 s2 => exact q
        | rt d2 s2 => exact q
        | xc c fs e2 s2 => exact q
  · have e1 : i = ds.length := by omega
    subst e1
    rw [List.drop_length] at q
    exact .inl ⟨w.st p H hG, q p H σ Fut.refl rs re⟩
theorem loop_list {a : Addr} {n k : Nat} {g : Fc.G} {vs : List Nat} {b : C} {p : List Addr} {e : Env} {s : S} {σ : L2.St} {H : Hp} {Dn : Ends} (ha : p[n]? = some a) (re : RE K p H e σ) (rs : RS K cm p s H) (q : PoS K cm W p H (forL n g b k 0 e s) Dn) :
    LoopW (Itl K a) (tG K cm g vs) (tS K cm W b) Dn σ H := by
  refine ⟨fun i m σ H => ∃ p e s, p[n]? = some a ∧ RE K p H e σ ∧ RS K cm p s H ∧ PoS K cm W p H (forL n g b m i e s) Dn, ⟨k, p, e, s, ha, re, rs, q⟩, ?_⟩
  rintro i m σ H ⟨p, e, s, ha, re, rs, q⟩
  have rn : RV K p H (.ref n) (.ref a) := mk_ref ha
  cases m with
  | zero =>
    unfold forL at q
    split at q
    · rename_i ds hd
      split at q
      · rename_i hl
        have hd' : s[n]? = some (.lst ds) := by
          unfold lstAt at hd
          split at hd
          · rename_i h; cases hd; exact h
          · cases hd
        obtain ⟨t, vs, h0, h1, h2, h3⟩ := lst_at rs rn hd'
        cases h0
        exact .inl ⟨⟨vs, SqL.of h2, by rw [← h3.length, hl]; exact Nat.le_refl _⟩, q p H σ Fut.refl rs re⟩
      · exact q.elim
    · exact q.elim
  | succ m =>
    unfold forL at q
    split at q
    · rename_i ds hd
      split at q
      · rename_i hl
        have hd' : s[n]? = some (.lst ds) := by
          unfold lstAt at hd
          split at hd
          · rename_i h; cases hd; exact h
          · cases hd
        obtain ⟨t, ws, h0, h1, h2, h3⟩ := lst_at rs rn hd'
        cases h0
        split at q
        · rename_i d hdi
          obtain ⟨v, hv, rv⟩ := h3.get hdi
          refine .inr ⟨⟨ws, v, SqL.of h2, hv⟩, fun σ' H' => ∃ p e s, p[n]? = some a ∧ RE K p H' e σ' ∧ RS K cm p s H' ∧ PoS K cm W p H' (forL n g b m (i + 1) e s) Dn, fun σ' H' z => ⟨m, by omega, z⟩, fun x H' y => ?_⟩
          obtain ⟨rfl, y⟩ := y
          have y := y ws (SqL.of h2)
          rw [hv] at y; cases y
          cases hg : g d e s with
          | none => simp only [hg] at q; exact q.elim
          | some e' =>
            simp only [hg] at q
            refine ⟨p, e, s, d, e', re, rs, rv, hg, fun σ' re' _ => ⟨p, e', s, re', rs, ?_⟩⟩
            cases hb : b e' s with
            | none => rw [hb] at q; exact q.elim
            | some r =>
              rw [hb] at q
              cases r with
              | nx e2 s2 => exact fun p2 H2 σ2 f2 rs2 re2 => ⟨p2, e2, s2, f2.pre _ _ ha, re2, rs2, q.fut f2⟩
              | ct e2 s2 => exact fun p2 H2 σ2 f2 rs2 re2 => ⟨p2, e2, s2, f2.pre _ _ ha, re2, rs2, q.fut f2⟩
              | bk e2 s2 => exact q
              | rt d2 s2 => exact q
              | xc c fs e2 s2 => exact q
        · exact q.elim
      · exact q.elim
    · exact q.elim
/-- what is tracked once the dict at a is open again -/
theorem unlock_ok {n : Nat} {a : Addr} {od : Obj} {u : HO} {o : O} {p p' : List Addr} {H H' : Hp} {s : S} (ha : p[n]? = some a) (h0 : H a = some u) (mu : Mut (some u)) (c : RC K cm p H a o u) (nl : ∀ ys, u ≠ .lst ys) (f : Fut p (upd H a (.frz od u)) p' H') (rs : RS K cm p' s H') :
    H' a = some (.frz od u) ∧ Fut p H p' (upd H' a u) ∧ RS K cm p' (s.set n o) (upd H' a u) ∧ Fut0 p' H' p' (upd H' a u) := by
  have hf : H' a = some (.frz od u) := f.frz a od u upd_same
  have f0 : Fut0 p' H' p' (upd H' a u) := by
    have ne : ∀ b w, H' b = some w → (∀ o ys, w = .frz o (.lst ys) → True) → (w ≠ .frz od u) → upd H' a u b = some w := fun b w e _ hw => by
      rw [upd_ne]
      · exact e
      · rintro rfl
        rw [hf] at e; cases e; exact hw rfl
    refine ⟨fun _ _ e => e, fun b ys e => ne b _ e (fun _ _ _ => True.intro) (by intro z; cases z), fun b o' ys e => ne b _ e (fun _ _ _ => True.intro) (fun z => by cases z; exact nl _ rfl), fun b fs e => ne b _ e (fun _ _ _ => True.intro) (by intro z; cases z)⟩
  have fl : Fut0 p H p' H' := (Fut0.lock (od := od) h0 mu).toFut0.trans f.toFut0
  have fa := fl.trans f0
  refine ⟨hf, ⟨fa, fun b o' w e => ?_⟩, rs.putO (f.pre _ _ ha) hf f0 ((c.mono0 fa).ro upd_same), f0⟩
  have hb : b ≠ a := by
    rintro rfl
    rw [h0] at e; cases e; exact mu
  rw [upd_ne hb]
  exact f.frz b o' w (by rw [upd_ne hb]; exact e)
theorem PoS.unlock {n : Nat} {a : Addr} {od : Obj} {u : HO} {o : O} {p : List Addr} {H : Hp} {r : Option R} {Dn : Ends} (nf : NF X a) (ha : p[n]? = some a) (h0 : H a = some u) (mu : Mut (some u)) (c : RC K cm p H a o u) (nl : ∀ ys, u ≠ .lst ys)
    (hx : ∀ c fs e s, r = some (.xc c fs e s) → ∀ p' H' σ' cls dd, Fut p (upd H a (.frz od u)) p' H' → RS K cm p' s H' → RE K p' H' e σ' → RX K cm p' H' c fs cls dd → W cls dd σ' H')
    (q : PoS K cm W p H (setBack n o r) Dn) : PoS K cm W p (upd H a (.frz od u)) r (ulE X Dn) := by
  have key : ∀ {p' H' s}, Fut p (upd H a (.frz od u)) p' H' → RS K cm p' s H' → H' a = some (.frz od u) ∧ Fut p H p' (upd H' a u) ∧ RS K cm p' (s.set n o) (upd H' a u) ∧ Fut0 p' H' p' (upd H' a u) := fun f rs => unlock_ok ha h0 mu c nl f rs
  match r, q with
  | some (.nx e s), q =>
    intro p' H' σ' f rs re
    obtain ⟨k1, k2, k3, k4⟩ := key f rs
    exact .inr ⟨a, od, u, k1, nf, q _ _ _ k2 k3 (re.mono0 k4)⟩
  | some (.rt d s), q =>
    intro p' H' v f rs rv
    obtain ⟨k1, k2, k3, k4⟩ := key f rs
    exact .inr ⟨a, od, u, k1, nf, q _ _ _ k2 k3 (RV.mono0 k4 _ rv)⟩
  | some (.bk e s), q =>
    intro p' H' σ' f rs re
    obtain ⟨k1, k2, k3, k4⟩ := key f rs
    exact .inr ⟨a, od, u, k1, nf, q _ _ _ k2 k3 (re.mono0 k4)⟩
  | some (.ct e s), q =>
    intro p' H' σ' f rs re
    obtain ⟨k1, k2, k3, k4⟩ := key f rs
    exact .inr ⟨a, od, u, k1, nf, q _ _ _ k2 k3 (re.mono0 k4)⟩
  | some (.xc c fs e s), q => exact hx c fs e s rfl
theorem setBack_xc {n : Nat} {o : O} {r : Option R} {c : Str} {fs : List (Str × D)} {e : Env} {s : S} (h : r = some (.xc c fs e s)) : setBack n o r = r := by subst h; rfl
theorem lockV_lck {n : Nat} {s : S} {o : O} {f : S → Option R} (h : s[n]? = some (.lck o)) : lockV n s f = f s := by
  unfold lockV
  rw [h]
theorem lockV_open {n : Nat} {s : S} {o : O} {f : S → Option R} (h : s[n]? = some o) (hn : ∀ o', o ≠ .lck o') : lockV n s f = setBack n o (f (s.set n (.lck o))) := by
  unfold lockV
  rw [h]
  cases o with
  | lck o' => exact absurd rfl (hn o')
  | _ => rfl
theorem r_for {tg iter : Expr} {src : SrcE} {g : Fc.G} {vs : List Nat} {body : List Stmt} {b : C} {pos : Pos} (hp : PassesOwn (model X.prog X.w) X.A X.env X.xe) (hc : X.calm = true) (hi : JI X cm W tg iter src) (hg : JG X cm tg g vs) (hb : JSs X cm W body b)
    (hs : ∀ x, foldedSetIterable iter X.env x = pure x := by intro _; rfl) : JS X cm W (.For tg iter body [] pos) (cFor src g b) := by
  obtain ⟨wi, hi, hw⟩ := hi
  refine ⟨fun pins s0 σ H Dn I q => ?_⟩
  obtain ⟨p, e, s, re, rs, q⟩ := q
  have plain : ∀ (R : Ends), (PoI X cm W p σ H (src e s) fun J H1 => LoopW J (tG X.K cm g vs) (tS X.K cm W b) R σ H1) → tFor wi (tG X.K cm g vs) (tS X.K cm W b) R σ H := fun R z => hw p e s σ H _ re rs z
  unfold cFor Fc.ex at q
  cases h : src e s with
  | none => rw [h] at q; exact q.elim
  | some r =>
    cases r with
    | exc c fs s' =>
      rw [h] at q
      refine (ps_for hp hc hi hg hb hs).run pins s0 σ H Dn I (plain Dn ?_)
      rw [h]
      exact fun p1 H1 cls dd f rs1 rx => q p1 H1 σ cls dd f rs1 (re.mono f) rx
    | ok sk s1 =>
      rw [h] at q
      cases sk with
      | vals ds =>
        refine (ps_for hp hc hi hg hb hs).run pins s0 σ H Dn I (plain Dn ?_)
        rw [h]
        exact fun p1 H1 f rs1 J G w hG => loop_vals w hG (re.mono f) rs1 (PoS.fut q f)
      | list n k =>
        refine (ps_for hp hc hi hg hb hs).run pins s0 σ H Dn I (plain Dn ?_)
        rw [h]
        exact fun p1 H1 f rs1 _ a ha => loop_list ha (re.mono f) rs1 (PoS.fut q f)
      | dict n ds =>
        simp only at q
        refine (ps_gunlock (ps_for hp hc hi hg hb hs)).run pins s0 σ H Dn I (plain (ulE X Dn) ?_)
        rw [h]
        intro p1 H1 f rs1
        have q := PoS.fut q f
        have re1 := re.mono f
        show Drv X cm (.dict n ds) p1 H1 s1 _
        cases hn : s1[n]? with
        | none => unfold lockV at q; rw [hn] at q; exact q.elim
        | some o =>
          by_cases hl : ∃ o', o = .lck o'
          · obtain ⟨o', rfl⟩ := hl
            rw [lockV_lck hn] at q
            simp only [Drv, hn]
            intro J G w hG
            have ul : ∀ {r : Option R}, PoS X.K cm W p1 H1 r Dn → PoS X.K cm W p1 H1 r (ulE X Dn) := fun {r} q => by
              match r, q with
              | some (.nx e s), q => exact fun p' H' σ' f rs re => .inl (q p' H' σ' f rs re)
              | some (.rt e s), q => exact fun p' H' σ' f rs re => .inl (q p' H' σ' f rs re)
              | some (.bk e s), q => exact fun p' H' σ' f rs re => .inl (q p' H' σ' f rs re)
              | some (.ct e s), q => exact fun p' H' σ' f rs re => .inl (q p' H' σ' f rs re)
              | some (.xc c fs e s), q => exact q
            exact loop_vals w hG re1 rs1 (ul q)
          · have hl' : ∀ o', o ≠ .lck o' := fun o' z => hl ⟨o', z⟩
            rw [lockV_open hn hl'] at q
            have goal : ∀ a u od J G, p1[n]? = some a → H1 a = some u → Mut (some u) → RC X.K cm p1 H1 a o u → NF X a → (∀ ys, u ≠ .lst ys) → WalkD X.K cm J ds G → G p1 (upd H1 a (.frz od u)) → LoopW J (tG X.K cm g vs) (tS X.K cm W b) (ulE X Dn) σ (upd H1 a (.frz od u)) := by
              intro a u od J G ha h0 mu c nf nl w hG
              have fl := Fut0.lock (od := od) (p := p1) h0 mu
              have rs2 := rs1.putO (o := .lck o) ha h0 fl.toFut0 ⟨od, u, upd_same, mu, c.mono0 fl.toFut0⟩
              refine loop_vals w hG (re1.mono fl) rs2 (PoS.unlock nf ha h0 mu c nl ?_ q)
              intro c fs e' s' er p' H' σ' cls dd f' rs' re' rx
              rw [setBack_xc er, er] at q
              exact q p' H' σ' cls dd (fl.trans f') rs' re' rx
            simp only [Drv, hn]
            cases o with
            | lck o' => exact absurd rfl (hl' o')
            | _ => exact fun a u od J G ha h0 mu c nf nl w hG => goal a u od J G ha h0 mu c nf nl w hG
end
end Fc
namespace L2
open PySem
theorem PTs.imp {X : Cx} {x : List Expr} {t t' : TT} (h : PTs X x t) (k : ∀ σ H Q, t' σ H Q → t σ H Q) : PTs X x t' := ⟨fun pins s σ H Q I q => h.run pins s σ H Q I (k σ H Q q)⟩
end L2
namespace Fc
open PySem PySem.Spec PyProof.Rows L2
variable {K : PySem.W.Frag} {cm : CM} {W : WX}
section
variable {X : Cx} {c : Expr} {t : T} {b : C} {body : List Stmt} {pos : Pos}
theorem r_while (hp : PassesOwn (model X.prog X.w) X.A X.env X.xe) (hc : JT X cm W c t) (hb : JSs X cm W body b) : JS X cm W (.While c body [] pos) (cWhile t b) := by
  refine (ps_while hp hc hb).imp ?_
  rintro Dn σ H ⟨p, e, s, re, rs, q⟩
  unfold cWhile at q
  split at q
  · rename_i h
    obtain ⟨n, hn⟩ := Classical.choose_spec h
    rw [← hn] at q
    clear hn
    refine ⟨fun m σ H => ∃ p e s, RE X.K p H e σ ∧ RS X.K cm p s H ∧ PoS X.K cm W p H (whileN t b m e s) Dn, ⟨n, p, e, s, re, rs, q⟩, ?_⟩
    rintro m σ H ⟨p, e, s, re, rs, q⟩
    cases m with
    | zero => exact q.elim
    | succ m =>
      unfold whileN at q
      refine ⟨p, e, s, re, rs, (PoS.ex (rel := rB) q re).imp ?_⟩
      rintro k H1 ⟨k', p1, s1, f1, rs1, rk, q⟩
      obtain rfl : k' = k := rk
      cases k' with
      | true =>
        rw [if_pos rfl] at q ⊢
        refine ⟨fun σ' H' => ∃ p e s, RE X.K p H' e σ' ∧ RS X.K cm p s H' ∧ PoS X.K cm W p H' (whileN t b m e s) Dn, fun σ' H' z => ⟨m, Nat.lt_succ_self _, z⟩, p1, e, s1, re.mono f1, rs1, ?_⟩
        cases hb : b e s1 with
        | none => rw [hb] at q; exact q.elim
        | some r =>
          rw [hb] at q
          cases r with
          | nx e2 s2 => exact fun p2 H2 σ2 f2 rs2 re2 => ⟨p2, e2, s2, re2, rs2, q.fut f2⟩
          | ct e2 s2 => exact fun p2 H2 σ2 f2 rs2 re2 => ⟨p2, e2, s2, re2, rs2, q.fut f2⟩
          | bk e2 s2 => exact q
          | rt d2 s2 => exact q
          | xc c fs e2 s2 => exact q
      | false =>
        rw [if_neg Bool.false_ne_true] at q ⊢
        exact q p1 H1 σ Fut.refl rs1 (re.mono f1)
  · exact q.elim
end
/-- no error leaves a block -/
def Wf : WX := fun _ _ _ _ => False
abbrev JTs (X : Cx) (cm : CM) (W : WX) (ifs : List Expr) (t : T) : Prop := PTs X ifs (tT X.K cm W t)
theorem r_tsnil {X : Cx} : JTs X cm W [] Fc.tYes := by
  refine pts_nil.imp ?_
  rintro σ H Q ⟨p, e, s, re, rs, q⟩
  exact Po.ok q rs rfl
theorem r_tsone {X : Cx} {c : Expr} {t : T} (h : JT X cm W c t) : JTs X cm W [c] t := pts_one h
theorem RE.wipe {p : List Addr} {H : Hp} {e : Env} {σ : L2.St} (re : RE K p H e σ) : ∀ vs, RE K p H (Fc.wipe e vs) (L2.wipe σ vs)
  | [] => re
  | v :: vs => (RE.wipe re vs).unset v
theorem wipe_len (e : Env) : ∀ vs, (Fc.wipe e vs).length = e.length
  | [] => rfl
  | v :: vs => by simp [Fc.wipe, wipe_len e vs]
theorem wipe_get (σ : L2.St) : ∀ (vs : List Nat) (i : Nat), (L2.wipe σ vs)[i]? = if i < σ.length then (if i ∈ vs then some none else σ[i]?) else none
  | [], i => by
    by_cases h : i < σ.length
    · simp [L2.wipe, h]
    · simp [L2.wipe, h]
  | v :: vs, i => by
    show ((L2.wipe σ vs).set v none)[i]? = _
    rw [List.getElem?_set, wipe_get σ vs i, L2.wipe_length]
    by_cases hv : v = i
    · subst hv
      by_cases h : v < σ.length
      · simp [h]
      · simp [h]
    · rw [if_neg hv]
      by_cases h : i < σ.length
      · simp only [h, if_true, List.mem_cons]
        by_cases hi : i ∈ vs
        · simp [hi]
        · simp [hi, Ne.symm hv]
      · simp [h]
theorem wipe_same {σ σ' : L2.St} {vs ws : List Nat} (hl : σ'.length = σ.length) (h : ∀ i, i ∉ ws → σ'[i]? = (L2.wipe σ vs)[i]?) (hs : ∀ i ∈ ws, i ∈ vs) : L2.wipe σ' vs = L2.wipe σ vs := by
  apply List.ext_getElem?
  intro i
  rw [wipe_get, wipe_get, hl]
  by_cases hi : i < σ.length
  · simp only [hi, if_true]
    by_cases hv : i ∈ vs
    · simp [hv]
    · simp only [hv, if_false]
      have := h i fun z => hv (hs i z)
      rw [this, wipe_get]
      simp [hi, hv]
  · simp [hi]
/-- what stays while the new list grows -/
theorem lcStep_ok {D0 : Nat} {Da : Addr} {d : D} {v : V} {s s' : S} {p : List Addr} {H : Hp} (rs : RS K cm p s H) (rv : RV K p H d v) (hp : p[D0]? = some Da) (h : lcStep D0 d s = some s') :
    ∃ acc, H Da = some (.lst acc) ∧ acc.length < sizeLine ∧ Fut p H p (upd H Da (.lst (acc ++ [v]))) ∧ RS K cm p s' (upd H Da (.lst (acc ++ [v]))) := by
  unfold lcStep at h
  split at h
  · rename_i acc hs
    split at h
    · rename_i hl
      cases h
      obtain ⟨a, vs, h0, h1, h2, h3⟩ := lst_at rs (mk_ref hp) hs
      cases h0
      have hu : RC K cm p H Da (.lst (acc ++ [d])) (.lst (vs ++ [v])) := by
        refine ⟨_, rfl, h3.append ?_⟩
        simp only [RVs]
        exact ⟨v, [], rfl, rv, rfl⟩
      obtain ⟨f, rs'⟩ := rs.put hp h2 True.intro hu
      exact ⟨vs, h2, by rw [← h3.length, sizeLine_eq]; exact hl, f, rs'⟩
    · cases h
  · cases h
/-- the loop's premise of the hand layer -/
def LcW (J : It) (g : TG) (tt : TT) (te : TE) (vs : List Nat) (Da : Addr) (σ : L2.St) (H1 : Hp) (Qd : Hp → Prop) : Prop := ∃ W : Nat → Nat → Hp → Prop, (∃ m, W 0 m (upd H1 Da (.lst []))) ∧ ∀ i m H, W i m H →
  (J.stop i H ∧ Qd H) ∨ (J.go i H ∧ ∃ Nx : Hp → Prop, (∀ H', Nx H' → ∃ m', m' < m ∧ W (i + 1) m' H') ∧ ∀ x H', J.yld i H x H' → g x (L2.wipe σ vs) H' fun σ2 H2 => L2.wipe σ2 vs = L2.wipe σ vs ∧ tt σ2 H2 fun b H3 =>
    if b = true then te σ2 H3 fun y H4 => ∃ acc, H4 Da = some (.lst acc) ∧ acc.length < sizeLine ∧ Nx (upd H4 Da (.lst (acc ++ [y]))) else Nx H3)
section
variable {g : Fc.G} {gs vs : List Nat} {t : T} {el : E} {e : Env} {σ : L2.St}
/-- one turn -/
theorem lc_turn (hsub : ∀ i ∈ gs, i ∈ vs) (hgl : ∀ d e s e', g d e s = some e' → e'.length = e.length) {p p0 : List Addr} {H H0 : Hp} {s : S} {d : D} {x : V} {D0 : Nat} {Da : Addr} {k : S → Option S} {sF : S} {Nx : Hp → Prop}
    (re : RE K p H e σ) (rs : RS K cm p s H) (rv : RV K p H d x) (hD : p[D0]? = some Da) (f0 : Fut p0 H0 p H)
    (h : (match g d (Fc.wipe e vs) s with
      | some σ1 => match t σ1 s with
        | some (.ok true s1) => match el σ1 s1 with
          | some (.ok y s2) => (lcStep D0 y s2).bind k
          | _ => none
        | some (.ok false s1) => k s1
        | _ => none
      | none => none) = some sF)
    (nx : ∀ p2 s2 H2, Fut p H p2 H2 → RS K cm p2 s2 H2 → k s2 = some sF → Nx H2) :
    tG K cm g gs x (L2.wipe σ vs) H fun σ2 H2 => L2.wipe σ2 vs = L2.wipe σ vs ∧ tT K cm Wf t σ2 H2 fun b H3 =>
      if b = true then tD K cm Wf el σ2 H3 fun y H4 => ∃ acc, H4 Da = some (.lst acc) ∧ acc.length < sizeLine ∧ Nx (upd H4 Da (.lst (acc ++ [y]))) else Nx H3 := by
  cases hg : g d (Fc.wipe e vs) s with
  | none => rw [hg] at h; cases h
  | some e1 =>
    simp only [hg] at h
    refine ⟨p, Fc.wipe e vs, s, d, e1, re.wipe vs, rs, rv, hg, fun σ2 re2 hs => ⟨wipe_same ?_ hs hsub, p, e1, s, re2, rs, ?_⟩⟩
    · rw [← re2.1, hgl _ _ _ _ hg, wipe_len, re.1]
    · cases ht : t e1 s with
      | none => rw [ht] at h; cases h
      | some r =>
        rw [ht] at h
        cases r with
        | exc c fs s' => cases h
        | ok k1 s1 =>
          intro p1 H1 k2 f1 rs1 rk
          obtain rfl : k1 = k2 := rk
          cases k1 with
          | false =>
            rw [if_neg Bool.false_ne_true]
            exact nx p1 s1 H1 f1 rs1 h
          | true =>
            rw [if_pos rfl]
            simp only at h
            refine ⟨p1, e1, s1, re2.mono f1, rs1, ?_⟩
            cases he : el e1 s1 with
            | none => rw [he] at h; cases h
            | some r =>
              rw [he] at h
              cases r with
              | exc c fs s' => cases h
              | ok y s2 =>
                intro p2 H2 v f2 rs2 rv2
                obtain ⟨s3, h1, h2⟩ := Option.bind_eq_some_iff.mp h
                obtain ⟨acc, a1, a2, a3, a4⟩ := lcStep_ok rs2 rv2 (f2.pre _ _ (f1.pre _ _ hD)) h1
                exact ⟨acc, a1, a2, nx p2 s3 _ ((f1.trans f2).trans a3) a4 h2⟩
theorem lc_vals (hsub : ∀ i ∈ gs, i ∈ vs) (hgl : ∀ d e s e', g d e s = some e' → e'.length = e.length) {J : It} {ds : List D} {G : List Addr → Hp → Prop} (w : WalkD K cm J ds G) {p : List Addr} {s : S} {H : Hp} {Q : VK} {Da : Addr} (hG : G p H) (re : RE K p H e σ) (rs : RS K cm p s H)
    (q : Po K cm W (RV K) p σ H (lcNew s fun D0 s2 => lcV D0 vs g t el ds e s2) Q) (hDa : H Da = none) : LcW J (tG K cm g gs) (tT K cm Wf t) (tD K cm Wf el) vs Da σ H (Q (.ref Da)) := by
  unfold lcNew at q
  dsimp only at q
  cases hf : lcV s.length vs g t el ds e (s ++ [.lst []]) with
  | none => rw [hf] at q; exact q.elim
  | some sF =>
    rw [hf] at q
    obtain ⟨f1, rs1, e1⟩ := rs.new (o := .lst []) (u := .lst []) hDa ⟨[], rfl, by simp [RVs]⟩
    refine ⟨fun i m H' => i ≤ ds.length ∧ m = ds.length - i ∧ ∃ p' s', G p' H' ∧ RS K cm p' s' H' ∧ p'[s.length]? = some Da ∧ Fut p H p' H' ∧ lcV s.length vs g t el (ds.drop i) e s' = some sF, ⟨_, Nat.zero_le _, rfl, p ++ [Da], s ++ [.lst []], w.fu _ _ _ _ hG f1, rs1, e1, f1, by simpa using hf⟩, ?_⟩
    rintro i m H' ⟨hi, rfl, p', s', hG', rs', hD', f', hF⟩
    by_cases hlt : i < ds.length
    · refine .inr ⟨w.go p' H' i hG' hlt, fun H' => ∃ p' s', G p' H' ∧ RS K cm p' s' H' ∧ p'[s.length]? = some Da ∧ Fut p H p' H' ∧ lcV s.length vs g t el (ds.drop (i + 1)) e s' = some sF, fun H' n => ⟨ds.length - (i + 1), by omega, hlt, rfl, n⟩, fun x H2 y => ?_⟩
      obtain ⟨d, e2, f2, rs2, rv⟩ := w.yl p' H' s' i x H2 hG' rs' hlt y
      have hd : ds.drop i = d :: ds.drop (i + 1) := by
        have e3 : ds[i] = d := by
          have := List.getElem?_eq_getElem hlt
          rw [this] at e2; exact Option.some.inj e2
        rw [← e3]
        exact List.drop_eq_getElem_cons hlt
      rw [hd] at hF
      unfold lcV at hF
      have f02 := f'.trans f2
      refine lc_turn hsub hgl (re.mono f02) rs2 rv hD' f02 hF fun p3 s3 H3 f3 rs3 h3 => ?_
      exact ⟨p3, s3, w.fu _ _ _ _ (w.fu _ _ _ _ hG' f2) f3, rs3, f3.pre _ _ hD', f02.trans f3, h3⟩
    · have e2 : i = ds.length := by omega
      subst e2
      rw [List.drop_length] at hF
      cases hF
      exact .inl ⟨w.st p' H' hG', q p' H' _ f' rs' (mk_ref hD')⟩
theorem lstAt_some {s : S} {n : Nat} {ds : List D} (h : lstAt s n = some ds) : s[n]? = some (.lst ds) := by
  unfold lstAt at h
  split at h
  · rename_i z; cases h; exact z
  · cases h
theorem lc_list (hsub : ∀ i ∈ gs, i ∈ vs) (hgl : ∀ d e s e', g d e s = some e' → e'.length = e.length) {a : Addr} {n k : Nat} {p : List Addr} {s : S} {H : Hp} {Q : VK} {Da : Addr} (ha : p[n]? = some a) (re : RE K p H e σ) (rs : RS K cm p s H)
    (q : Po K cm W (RV K) p σ H (lcNew s fun D0 s2 => lcL D0 n vs g t el k 0 e s2) Q) (hDa : H Da = none) : LcW (Itl K a) (tG K cm g gs) (tT K cm Wf t) (tD K cm Wf el) vs Da σ H (Q (.ref Da)) := by
  unfold lcNew at q
  dsimp only at q
  cases hf : lcL s.length n vs g t el k 0 e (s ++ [.lst []]) with
  | none => rw [hf] at q; exact q.elim
  | some sF =>
    rw [hf] at q
    obtain ⟨f1, rs1, e1⟩ := rs.new (o := .lst []) (u := .lst []) hDa ⟨[], rfl, by simp [RVs]⟩
    refine ⟨fun i m H' => ∃ p' s', RS K cm p' s' H' ∧ p'[s.length]? = some Da ∧ Fut p H p' H' ∧ lcL s.length n vs g t el m i e s' = some sF, ⟨k, p ++ [Da], s ++ [.lst []], rs1, e1, f1, hf⟩, ?_⟩
    rintro i m H' ⟨p', s', rs', hD', f', hF⟩
    have rn : RV K p' H' (.ref n) (.ref a) := mk_ref (f'.pre _ _ ha)
    cases m with
    | zero =>
      unfold lcL at hF
      split at hF
      · rename_i ds hd
        split at hF
        · rename_i hl
          cases hF
          obtain ⟨t', ws, h0, h1, h2, h3⟩ := lst_at rs' rn (lstAt_some hd)
          cases h0
          exact .inl ⟨⟨ws, SqL.of h2, by rw [← h3.length, hl]; exact Nat.le_refl _⟩, q p' H' _ f' rs' (mk_ref hD')⟩
        · cases hF
      · cases hF
    | succ m =>
      unfold lcL at hF
      split at hF
      · rename_i ds hd
        split at hF
        · rename_i hl
          obtain ⟨t', ws, h0, h1, h2, h3⟩ := lst_at rs' rn (lstAt_some hd)
          cases h0
          split at hF
          · rename_i d hdi
            obtain ⟨v, hv, rv⟩ := h3.get hdi
            refine .inr ⟨⟨ws, v, SqL.of h2, hv⟩, fun H' => ∃ p' s', RS K cm p' s' H' ∧ p'[s.length]? = some Da ∧ Fut p H p' H' ∧ lcL s.length n vs g t el m (i + 1) e s' = some sF, fun H' z => ⟨m, by omega, z⟩, fun x H2 y => ?_⟩
            obtain ⟨rfl, y⟩ := y
            have y := y ws (SqL.of h2)
            rw [hv] at y; cases y
            refine lc_turn hsub hgl (re.mono f') rs' rv hD' f' hF fun p3 s3 H3 f3 rs3 h3 => ?_
            exact ⟨p3, s3, rs3, f3.pre _ _ hD', f'.trans f3, h3⟩
          · cases hF
        · cases hF
      · cases hF
theorem lcDict_lck {n : Nat} {s : S} {o : O} {f : S → Option (Res D)} (h : s[n]? = some (.lck o)) : lcDict n s f = f s := by
  unfold lcDict
  rw [h]
theorem lcDict_open {n : Nat} {s : S} {o : O} {f : S → Option (Res D)} (h : s[n]? = some o) (hn : ∀ o', o ≠ .lck o') : lcDict n s f = match f (s.set n (.lck o)) with
    | some (.ok d s') => some (.ok d (s'.set n o))
    | r => r := by
  unfold lcDict
  rw [h]
  cases o with
  | lck o' => exact absurd rfl (hn o')
  | _ => rfl
theorem Po.unlock {X : Cx} {n : Nat} {a : Addr} {od : Obj} {u : HO} {o : O} {p : List Addr} {H : Hp} {r : Option (Res D)} {Q : VK} (nf : NF X a) (ha : p[n]? = some a) (h0 : H a = some u) (mu : Mut (some u)) (c : RC K cm p H a o u) (nl : ∀ ys, u ≠ .lst ys)
    (q : Po K cm W (RV K) p σ H (match r with
      | some (.ok d s') => some (.ok d (s'.set n o))
      | r => r) Q) : Po K cm W (RV K) p σ (upd H a (.frz od u)) r fun x H1 => Ul X (Q x) H1 := by
  have fl := Fut0.lock (od := od) (p := p) h0 mu
  match r, q with
  | some (.ok d s), q =>
    intro p' H' v f rs rv
    obtain ⟨k1, k2, k3, k4⟩ := unlock_ok (od := od) ha h0 mu c nl f rs
    exact .inr ⟨a, od, u, k1, nf, q _ _ _ k2 k3 (RV.mono0 k4 _ rv)⟩
  | some (.exc c fs s), q => exact fun p' H' cls dd f rs rx => q p' H' cls dd (fl.trans f) rs rx
theorem lc_all {X : Cx} {tg iter : Expr} {src : SrcE} {wi : TI} (hw : ∀ p e s σ H R, RE X.K p H e σ → RS X.K cm p s H → PoI X cm W p σ H (src e s) R → wi σ H R) (hsub : ∀ i ∈ gs, i ∈ vs) (hgl : ∀ d e s e', g d e s = some e' → e'.length = e.length)
    {p : List Addr} {s : S} {H : Hp} {Q : VK} (re : RE X.K p H e σ) (rs : RS X.K cm p s H) (q : Po X.K cm W (RV X.K) p σ H (eLc vs src g t el e s) Q) :
    tLc wi (tG X.K cm g gs) (tT X.K cm Wf t) (tD X.K cm Wf el) vs σ H fun x H1 => Ul X (Q x) H1 := by
  refine hw p e s σ H _ re rs ?_
  unfold eLc bnd at q
  cases h : src e s with
  | none => rw [h] at q; exact q.elim
  | some r =>
    rw [h] at q
    cases r with
    | exc c fs s' => exact q
    | ok sk s1 =>
      intro p1 H1 f rs1
      have q := Po.fut q f
      have re1 := re.mono f
      cases sk with
      | vals ds => exact fun J G w hG Da hDa => lc_vals (Q := fun x H1 => Ul X (Q x) H1) hsub hgl w hG re1 rs1 (q.imp fun v H z => Or.inl z) hDa
      | list n k => exact fun _ a ha Da hDa => lc_list (Q := fun x H1 => Ul X (Q x) H1) hsub hgl ha re1 rs1 (q.imp fun v H z => Or.inl z) hDa
      | dict n ds =>
        simp only at q
        show Drv X cm (.dict n ds) p1 H1 s1 _
        cases hn : s1[n]? with
        | none => unfold lcDict at q; rw [hn] at q; exact q.elim
        | some o =>
          by_cases hl : ∃ o', o = .lck o'
          · obtain ⟨o', rfl⟩ := hl
            rw [lcDict_lck hn] at q
            simp only [Drv, hn]
            exact fun J G w hG Da hDa => lc_vals (Q := fun x H1 => Ul X (Q x) H1) hsub hgl w hG re1 rs1 (q.imp fun v H z => Or.inl z) hDa
          · have hl' : ∀ o', o ≠ .lck o' := fun o' z => hl ⟨o', z⟩
            rw [lcDict_open hn hl'] at q
            have goal : ∀ a u od J G, p1[n]? = some a → H1 a = some u → Mut (some u) → RC X.K cm p1 H1 a o u → NF X a → (∀ ys, u ≠ .lst ys) → WalkD X.K cm J ds G → G p1 (upd H1 a (.frz od u)) → ∀ Da, upd H1 a (.frz od u) Da = none → LcW J (tG X.K cm g gs) (tT X.K cm Wf t) (tD X.K cm Wf el) vs Da σ (upd H1 a (.frz od u)) fun H => Ul X (Q (.ref Da)) H := by
              intro a u od J G ha h0 mu c nf nl w hG Da hDa
              have fl := Fut0.lock (od := od) (p := p1) h0 mu
              have rs2 := rs1.putO (o := .lck o) ha h0 fl.toFut0 ⟨od, u, upd_same, mu, c.mono0 fl.toFut0⟩
              exact lc_vals (Q := fun x H1 => Ul X (Q x) H1) hsub hgl w hG (re1.mono fl) rs2 (Po.unlock nf ha h0 mu c nl q) hDa
            simp only [Drv, hn]
            cases o with
            | lck o' => exact absurd rfl (hl' o')
            | _ => exact fun a u od J G ha h0 mu c nf nl w hG Da hDa => goal a u od J G ha h0 mu c nf nl w hG Da hDa
end
section
variable {X : Cx} {elt tg iter : Expr} {ifs : List Expr} {scope : Scope} {own : List (Str × Nat)} {pos spos : Pos} {src : SrcE} {g : Fc.G} {gs : List Nat} {t : T} {el : E}
theorem r_lc (hc : X.calm = true) (hN : X.N.Nodup) (own : List (Str × Nat)) (hi : JI X cm W tg iter src)
    (hg : ∀ (s : Shared) (H : Hp) (C : Addr) (cl : List (Str × Addr)) (fp : List Addr), JG (X.blk s H scope (compEnvC scope cl C X.env) fp) cm tg g gs)
    (ht : ∀ (s : Shared) (H : Hp) (C : Addr) (cl : List (Str × Addr)) (fp : List Addr), JTs (X.blk s H scope (compEnvC scope cl C X.env) fp) cm Wf ifs t)
    (he : ∀ (s : Shared) (H : Hp) (C : Addr) (cl : List (Str × Addr)) (fp : List Addr), JE (X.blk s H scope (compEnvC scope cl C X.env) fp) cm Wf elt el)
    (hgl : ∀ d e s e', g d e s = some e' → e'.length = e.length) (ok : BlkOk X.N X.env.scope scope own := by exact blkOk_by (by rfl)) (hsub : ∀ i ∈ gs, i ∈ own.map (·.2) := by decide) (hs : ∀ x, foldedSetIterable iter X.env x = pure x := by intro _; rfl) :
    JE X cm W (.ListComp elt [⟨tg, iter, ifs, 0⟩] scope pos) (eLc (own.map (·.2)) src g t el) := by
  obtain ⟨wi, hi, hw⟩ := hi
  refine (pe_gunlock (pe_lc (g := tG X.K cm g gs) (tt := tT X.K cm Wf t) (te := tD X.K cm Wf el) hc hN hi ok hg ht he hs)).imp ?_
  rintro σ H Q ⟨p, e, s, re, rs, q⟩
  exact lc_all (tg := tg) (iter := iter) hw hsub hgl re rs q
theorem r_setLc (hc : X.calm = true) (hN : X.N.Nodup) (i : Nat) {y : Str} {py : Pos} (own : List (Str × Nat)) (hi : JI X cm W tg iter src)
    (hg : ∀ (s : Shared) (H : Hp) (C : Addr) (cl : List (Str × Addr)) (fp : List Addr), JG (X.blk s H scope (compEnvC scope cl C X.env) fp) cm tg g gs)
    (ht : ∀ (s : Shared) (H : Hp) (C : Addr) (cl : List (Str × Addr)) (fp : List Addr), JTs (X.blk s H scope (compEnvC scope cl C X.env) fp) cm Wf ifs t)
    (he : ∀ (s : Shared) (H : Hp) (C : Addr) (cl : List (Str × Addr)) (fp : List Addr), JE (X.blk s H scope (compEnvC scope cl C X.env) fp) cm Wf elt el)
    (hgl : ∀ d e s e', g d e s = some e' → e'.length = e.length) (hy : X.N[i]? = some y := by rfl) (hyl : X.env.scope.names.lookup y = some .local := by rfl)
    (hsw : swapsWith (.ListComp elt [⟨tg, iter, ifs, 0⟩] scope pos) (some (.Name y py)) spos.line X.env = pure true := by exact sw_true rfl rfl rfl (by decide +kernel)) (ok : BlkOk X.N X.env.scope scope own := by exact blkOk_by (by rfl)) (hsub : ∀ i ∈ gs, i ∈ own.map (·.2) := by decide) (hs : ∀ x, foldedSetIterable iter X.env x = pure x := by intro _; rfl) :
    JS X cm W (.Assign [.Name y py] (.ListComp elt [⟨tg, iter, ifs, 0⟩] scope pos) spos) (cSet (eLc (own.map (·.2)) src g t el) (gName i)) := by
  obtain ⟨wi, hi, hw⟩ := hi
  refine (ps_gunlock (ps_setLc (g := tG X.K cm g gs) (tt := tT X.K cm Wf t) (te := tD X.K cm Wf el) hc hN hy hyl hsw hi ok hg ht he hs)).imp ?_
  rintro Dn σ H ⟨p, e, s, re, rs, q⟩
  refine lc_all (tg := tg) (iter := iter) (Q := fun x H1 => Dn.nx (σ.set i (some x)) H1) hw hsub hgl re rs ?_
  exact (PoS.set q re (vs := [i])).imp fun x H1 h => tG_name (p := p) (e := e) (s := s) h
end
theorem gl_name {i : Nat} : ∀ d e s e', gName i d e s = some e' → e'.length = e.length := by
  intro d e s e' h
  cases h
  simp
theorem gls_nil : ∀ ds e s e', gNil ds e s = some e' → e'.length = e.length := by
  intro d e s e' h
  unfold gNil at h
  split at h
  · cases h; rfl
  · cases h
theorem gls_cons {g : Fc.G} {r : GL} (h1 : ∀ d e s e', g d e s = some e' → e'.length = e.length) (h2 : ∀ d e s e', r d e s = some e' → e'.length = e.length) : ∀ ds e s e', gCons g r ds e s = some e' → e'.length = e.length := by
  intro d e s e' h
  unfold gCons at h
  split at h
  · obtain ⟨e1, a, b⟩ := Option.bind_eq_some_iff.mp h
    rw [h2 _ _ _ _ b, h1 _ _ _ _ a]
  · cases h
theorem gl_tup {k : Nat} {r : GL} (h1 : ∀ d e s e', r d e s = some e' → e'.length = e.length) : ∀ d e s e', gTup k r d e s = some e' → e'.length = e.length := by
  intro d e s e' h
  unfold gTup at h
  split at h
  · split at h
    · exact h1 _ _ _ _ h
    · cases h
  · split at h
    · split at h
      · exact h1 _ _ _ _ h
      · cases h
    · cases h
  · cases h
end Fc
namespace Fc
open PySem PySem.Spec PyProof.Rows L2
variable {K : PySem.W.Frag} {cm : CM} {W : WX}
structure Rg (k : Nat) (A : Around) : Prop where
  room : Room k A
  gd : A.guards = some []
theorem Rg.mono {j k : Nat} {A : Around} (r : Rg k A) (h : j ≤ k) : Rg j A := ⟨r.room.mono h, r.gd⟩
theorem Rg.deeper {k : Nat} {A : Around} (r : Rg (k + 1) A) (env : PySem.Env) : Rg k (A.deeper env) := ⟨r.room.deeper env, r.gd⟩
theorem Rg.make {k : Nat} {A : Around} (r : Rg (k + 1) A) (C : Addr) (us : List Value) (kw : List (Str × Value)) : Rg k (A.under (.builtin "type.__call__" ⟨.ref C :: us, kw⟩)) := by
  refine ⟨r.room.make C us kw, ?_⟩
  simp only [Around.under]
  have e : (Code.builtin "type.__call__" ⟨.ref C :: us, kw⟩).guards = [] := by
    first | rfl | simp [Code.guards, Code.isGuard, guardIds]
  rw [e]
  exact r.gd
structure FnG (P : Program) (w : World) (K : PySem.W.Frag) (mg : Str → Option Value) (base : Heap) (k : Nat) (f : Addr) (fd : FuncData) (ps : List Str) (sp : Sp) : Prop where
  len : ∀ vs H Q E, sp vs H Q E → vs.length = ps.length
  run : ∀ (A : Around) (outer : List PySem.Env) (s : Shared) (H : Hp) (args : Args) (us : List Value) (vs : List V) (Q : VK) (E : XK), Rg k A → Env0 P w K mg base A outer s H → BindsTo s fd args (ps.zip us) → Vals vs us → sp vs H Q E →
    codeAny (model P w) A (.call (.ref f) args) (CR (L2.CX P w) outer P w H s Q E) s
theorem FnG.mono {P : Program} {w : World} {mg : Str → Option Value} {base : Heap} {j k : Nat} {f : Addr} {fd : FuncData} {ps : List Str} {sp : Sp} (F : FnG P w K mg base j f fd ps sp) (h : j ≤ k) : FnG P w K mg base k f fd ps sp :=
  ⟨F.len, fun A outer s H args us vs Q E hr => F.run A outer s H args us vs Q E (hr.mono h)⟩
/-- an exception's wish without slots -/
abbrev Wx (E : XK) : WX := fun c d _ H => E c d H
/-- the promise of a def read as F -/
def spD (K : PySem.W.Frag) (cm : CM) (n : Nat) (F : Fc.F) : Sp := fun vs H Q E => ∃ p s ds, RS K cm p s H ∧ RVs K p H ds vs ∧ ds.length = n ∧ Po K cm (Wx E) (RV K) p [] H (F ds s) Q
theorem re_start {p : List Addr} {H : Hp} {ds : List D} {vs : List V} {N : List Str} (r : RVs K p H ds vs) : RE K p H (ds.map some ++ List.replicate (N.length - ds.length) none) (L2.start N vs) := by
  have hl := r.length
  refine ⟨by simp [L2.start, hl], fun i d h => ?_⟩
  by_cases hi : i < ds.length
  · rw [List.getElem?_append_left (by simpa using hi)] at h
    rw [List.getElem?_map] at h
    obtain ⟨d', h1, h2⟩ := Option.map_eq_some_iff.mp h
    cases h2
    obtain ⟨v, h3, h4⟩ := r.get h1
    refine ⟨v, ?_, h4⟩
    unfold L2.start
    rw [List.getElem?_append_left (by simpa [← hl] using hi), List.getElem?_map, h3]
    rfl
  · rw [List.getElem?_append_right (by simpa using hi), List.getElem?_replicate] at h
    split at h <;> cases h
/-- the context of a body -/
abbrev bodyX (P : Program) (w : World) (K : PySem.W.Frag) (mg : Str → Option Value) (base : Heap) (N : List Str) (qual : Str) (scope : Scope) (f : Addr) (cdv : Value) (A : Around) (outer : List PySem.Env) (s : Shared) (H : Hp) (E : XK) : Cx := cxOf (L2.CX P w) P w K mg base N qual scope f cdv A outer s H E
section
variable {P : Program} {w : World} {mg : Str → Option Value} {base : Heap} {k : Nat} {f : Addr} {fd : FuncData} {x qual : Str} {params : Arguments} {body : List Stmt} {scope : Scope} {dvs : List V} {kws : List (Str × V)} {N ps : List Str} {b : C}
theorem FnG.of (F : FunD K x qual params body scope dvs kws f fd) (S : FnScope N ps scope)
    (hbody : ∀ (cdv : Value) (A : Around) (outer : List PySem.Env) (s : Shared) (H : Hp) (E : XK), Rg k (bodyX P w K mg base N qual scope f cdv A outer s H E).A → Takes (bodyX P w K mg base N qual scope f cdv A outer s H E) (Wx E) →
      PassesOwn (model P w) (bodyX P w K mg base N qual scope f cdv A outer s H E).A (bodyX P w K mg base N qual scope f cdv A outer s H E).env (bodyX P w K mg base N qual scope f cdv A outer s H E).xe →
      JSs (bodyX P w K mg base N qual scope f cdv A outer s H E) cm (Wx E) body b) :
    FnG P w K mg base (k + 1) f fd ps (spD K cm ps.length (defF ps.length N.length b)) := by
  have len : ∀ vs H Q E, spD K cm ps.length (defF ps.length N.length b) vs H Q E → vs.length = ps.length := fun vs H Q E ⟨p, s, ds, _, r, l, _⟩ => by rw [← r.length, l]
  obtain ⟨oc, od, dV, kV, doc, pm, an, cdv, ct, osl, rfl, lk, hcd, _, _⟩ := F.ex
  refine ⟨len, fun A outer s H args us vs Q E hr e0 hb r hsp => ?_⟩
  have hl := len _ _ _ _ hsp
  have KX : K.In s.heap := e0.mod.kin.keeps fun b o e => (e0.bs b o e).1
  have lim : s.heap.NoLimit := e0.mod.nolimit.keeps fun b o e => (e0.bs b o e).1
  have hkind : ∀ y ∈ ps.zip us, scope.names.lookup y.1 = some .local ∨ (scope.names.lookup y.1 = some .cell ∧ ((cellsFrom (s.heap.objs.size + 1) scope.names []).lookup y.1).isSome = true) := fun ⟨n, v⟩ hy =>
    (S.par n (List.of_mem_zip hy).1).elim .inl fun q => .inr ⟨q, PySem.W.cellsFrom_some _ _ _ (.inl q)⟩
  refine codeAny_call_function hr.room.depth (KX _ _ lk) rfl S.co S.gen rfl (PySem.W.codeRec_of KX hcd) (hb _ _ _ _ ?_)
  refine wpAny_newFunctionEnv_cells S.kind hkind fun env he s1 y => ?_
  subst he
  refine ⟨lim.keeps y.toInCall.keep, codeAny_func ?_⟩
  have ht := hbody cdv A outer s H E (hr.deeper _) (takes_of (X := bodyX P w K mg base N qual scope f cdv A outer s H E) rfl rfl rfl rfl) (passes_of (X := bodyX P w K mg base N qual scope f cdv A outer s H E) rfl)
  have I : Inv (bodyX P w K mg base N qual scope f cdv A outer s H E) [] (L2.start N vs) H s1 := inv_start S hr.room.hd e0 hl r y
  obtain ⟨p, st, ds, rs, rv, hn, q⟩ := hsp
  have hq : tS K cm (Wx E) b { nx := fun _ H' => Q .non H', rt := Q } (L2.start N vs) H := by
    refine ⟨p, _, st, re_start rv, rs, ?_⟩
    unfold defF at q
    rw [if_pos hn, ← hn] at q
    cases e : b (ds.map some ++ List.replicate (N.length - ds.length) none) st with
    | none => rw [e] at q; exact q.elim
    | some rr =>
      rw [e] at q
      cases rr with
      | nx e' s' => exact fun p' H' σ' f rs' _ => q p' H' .non f rs' mk_non
      | rt d s' => exact q
      | bk _ _ => exact q.elim
      | ct _ _ => exact q.elim
      | xc c fs e' s' => exact fun p' H' σ' cls dd f rs' _ rx => q p' H' cls dd f rs' rx
  refine wpAny_mono (ht.run [] s1 (L2.start N vs) H _ I hq) (fun fl s' hs => ?_) fun e s' hs => hs
  have fin : ∀ {σ' : L2.St} {H' : Hp} {v : V} {u : Value}, Inv (bodyX P w K mg base N qual scope f cdv A outer s H E) [] σ' H' s' → RelV v u → Q v H' → CE outer P w H s Q u s' :=
    fun {σ' H' v u} J rv q => ⟨v, H', J.os, J.bare, J.base, J.hok, rv, q⟩
  cases fl with
  | ret u =>
    obtain ⟨v, σ', H', J, rv, q⟩ := hs
    exact fin J rv q
  | next =>
    obtain ⟨σ', H', J, q⟩ := hs
    exact fin (v := V.non) (u := Value.none) J rfl q
  | brk =>
    obtain ⟨_, _, _, q⟩ := hs
    exact False.elim q
  | cont =>
    obtain ⟨_, _, _, q⟩ := hs
    exact False.elim q
end
/-- the defaults that fill up behind the written arguments -/
def BindD (K : PySem.W.Frag) (fd : FuncData) (ps : List Str) (dl : List D) : Prop := ∃ ds dvs, Vals dvs ds ∧ Binds K fd ps ds ∧ ∀ p H, RVs K p H dl dvs
/-- a def that may be called: F its reading, dfls the tails of defaults -/
structure FnV (P : Program) (w : World) (K : PySem.W.Frag) (mg : Str → Option Value) (base : Heap) (cm : CM) (k : Nat) (f : Addr) (F : Fc.F) (dfls : List (List D)) : Prop where
  ex : ∃ n fd ps, FnG P w K mg base k f fd ps (spD K cm n F) ∧ (∀ ds s, ds.length ≠ n → F ds s = none) ∧ ∀ dl ∈ dfls, BindD K fd ps dl
theorem defF_len {np nn : Nat} {b : C} : ∀ ds s, ds.length ≠ np → defF np nn b ds s = none := fun ds s h => by
  unfold defF
  rw [if_neg h]
theorem Po.wish {p : List Addr} {σ : L2.St} {H : Hp} {r : Option (Res D)} {Q : VK} (q : Po K cm W (RV K) p σ H r Q) : Po K cm (Wx fun c d H => W c d σ H) (RV K) p [] H r Q := by
  match r, q with
  | some (.ok d s'), q => exact q
  | some (.exc c fs s'), q => exact q
section
variable {X : Cx} {k j : Nat} {f C : Addr} {F : Fc.F} {dfl : List D} {dfls : List (List D)} {x m : Str} {p pos apos : Pos} {e o : Expr} {es : List Expr} {fl : EL} {fo : E}
/-- the callee runs -/
theorem run_d (V : FnV X.prog X.w X.K X.mg X.base cm k f F dfls) (hr : Rg j X.A) (hk : k ≤ j) (tk : Takes X W) (hd : dfl ∈ dfls) {pins : List (Addr × Obj)} {σ : L2.St} {H : Hp} {s : Shared} {Q : VK} {us : List Value} {vs : List L2.V} {pa : List Addr} {st : S} {ds : List D}
    (I : Inv X pins σ H s) (r : Vals vs us) (rs : RS X.K cm pa st H) (rv : RVs X.K pa H ds vs) (q : Po X.K cm W (RV X.K) pa σ H (F (ds ++ dfl) st) Q) : wpAny (model X.prog X.w) X.A (call (.ref f) us) (EP X pins σ Q) X.xe s := by
  obtain ⟨n, fd, ps, G, ar, bd⟩ := V.ex
  obtain ⟨dd, dvs, r1, hb, r2⟩ := bd dfl hd
  have hn : (ds ++ dfl).length = n := Classical.byContradiction fun z => by
    rw [ar _ _ z] at q; exact q
  have sp : spD X.K cm n F (vs ++ dvs) H Q (fun c d H => W c d σ H) := ⟨pa, st, ds ++ dfl, rs, rv.append (r2 pa H), hn, q.wish⟩
  have r3 : Vals (vs ++ dvs) (us ++ dd) := r.append r1
  have hl : (us ++ dd).length = ps.length := by rw [← r3.length]; exact G.len _ _ _ _ sp
  refine wpAny_call (codeAny_mono (G.run X.A X.stack s H ⟨us, []⟩ (us ++ dd) (vs ++ dvs) Q _ (hr.mono hk) I.env0 (hb s us I.kIn hl) r3 sp) fun r s' hq => ?_)
  cases r with
  | error e => exact tk _ _ (XE.of_call I (fun _ _ _ h => h) hq)
  | ok fl =>
    cases fl with
    | ret u => exact I.after hq
    | next => exact False.elim hq
    | brk => exact False.elim hq
    | cont => exact False.elim hq
/-- a def by its name -/
structure FnAt (P : Program) (w : World) (K : PySem.W.Frag) (mg : Str → Option Value) (base : Heap) (cm : CM) (k : Nat) (x : Str) (F : Fc.F) (dfls : List (List D)) : Prop where
  ex : ∃ f, FnV P w K mg base cm k f F dfls ∧ mg x = some (.ref f) ∧ PySem.W.keepIn K (.ref f) = true
theorem r_call (V : FnAt X.prog X.w X.K X.mg X.base cm k x F dfls) (hr : Rg j X.A) (tk : Takes X W) (hk : k ≤ j) (hd : dfl ∈ dfls) (ha : JA X cm W (e :: es) fl) (hg : Gl X x := by rfl) (hdb : (x == ("__debug__" : Str)) = false := by decide)
    (he : starEach (e :: es) X.env = (false, eval e X.env) :: starEach es X.env := by rfl) (hpl : (backTo pos (starEach es X.env)).any (·.1) = false := by rfl) : JE X cm W (.Call (.Name x p) (e :: es) [] pos) (eCall F dfl fl) := by
  obtain ⟨f, V, hm, kp⟩ := V.ex
  refine ⟨fun pins s σ H Q I h => ?_⟩
  obtain ⟨pa, en, st, re, rs, q⟩ := h
  refine wpAny_Call_Name_kw (ld_glob I hg hm ?_ hdb)
  refine PySem.W.callWith_K (h₀ := X.base) I.ok.mod.kin kp (thn (ha.run pos pins s σ H _ I ⟨pa, en, st, re, rs, Po.bnd (rel1 := RVs X.K) q⟩) fun us s1 ⟨vs, H1, I1, r, q⟩ => ⟨I1.kIn, ?_⟩) he hpl
  obtain ⟨ds, p1, s1', f1, rs1, rv1, q⟩ := q
  exact run_d V hr hk tk hd I1 r rs1 rv1 q
/-- a method -/
structure MtAt (P : Program) (w : World) (K : PySem.W.Frag) (mg : Str → Option Value) (base : Heap) (cm : CM) (k : Nat) (c m : Str) (F : Fc.F) (dfls : List (List D)) : Prop where
  ex : ∃ C f, cm.ins c = some C ∧ L2.Cls K C ∧ Meth K C m f ∧ FnV P w K mg base cm k f F dfls
theorem tD.meth {c : Str} {σ : L2.St} {H : Hp} {Q : VK} (h : tD K cm W (eMeth c m F dfl fo fl) σ H Q) : tD K cm W fo σ H fun x H1 => ∃ a C dx gs, cm.ins c = some C ∧ x = .ref a ∧ H1 a = some (.ins C dx gs) ∧ gs.lookup m = none ∧ tL K cm W fl σ H1 fun vs H2 => ∃ pa st d ds, RS K cm pa st H2 ∧ RV K pa H2 d x ∧ RVs K pa H2 ds vs ∧ Po K cm W (RV K) pa σ H2 (F (d :: (ds ++ dfl)) st) Q := by
  obtain ⟨p, e, s, re, rs, q⟩ := h
  refine ⟨p, e, s, re, rs, (Po.bnd (rel1 := RV K) q).imp ?_⟩
  rintro v H1 ⟨d, p1, s1, f1, rs1, rv, q1⟩
  split at q1
  · rename_i n
    split at q1
    · rename_i c' fs hn
      split at q1
      · rename_i hc
        obtain ⟨rfl, hm⟩ := hc
        have rv' := rv
        simp only [RV] at rv'
        obtain ⟨a, ha, rfl⟩ := rv'
        obtain ⟨b, hb, u, e1, C, dx, gs, hC, rfl, rk⟩ := rs1.at hn
        rw [ha] at hb; cases hb
        refine ⟨a, C, dx, gs, hC, rfl, e1, ?_, p1, e, s1, re.mono f1, rs1, (Po.bnd (rel1 := RVs K) q1).imp ?_⟩
        · have : ∀ {fs : List (Str × D)} {gs : List (Str × V)}, RKs K p1 H1 fs gs → fs.lookup m = none → gs.lookup m = none := by
            intro fs
            induction fs with
            | nil => intro gs r _; simp only [RKs] at r; subst r; rfl
            | cons z fs ih =>
              intro gs r hm
              simp only [RKs] at r
              obtain ⟨v, r', rfl, r1, r2⟩ := r
              obtain ⟨z1, z2⟩ := z
              by_cases hz : m = z1
              · subst hz; simp [List.lookup] at hm
              · have hz' : (m == z1) = false := by simpa using hz
                simp only [List.lookup, hz'] at hm ⊢
                exact ih r2 hm
          exact this rk hm
        · rintro vs H2 ⟨ds, p2, s2, f2, rs2, rv2, q2⟩
          exact ⟨p2, s2, _, ds, rs2, RV.mono f2 _ rv, rv2, q2⟩
      · exact q1.elim
    · exact q1.elim
  · exact q1.elim
/-- a class that is called, its __init__ read as F -/
structure MkAt (P : Program) (w : World) (K : PySem.W.Frag) (mg : Str → Option Value) (base : Heap) (cm : CM) (k : Nat) (c : Str) (F : Fc.F) (dfls : List (List D)) : Prop where
  ex : ∃ C f, cm.ins c = some C ∧ L2.Mk K C f ∧ mg c = some (.ref C) ∧ FnV P w K mg base cm k f F dfls
end
/-- no error leaves a block -/
theorem takes_blk {X : Cx} : Takes X Wf := fun u s' ⟨_, _, _, _, _, _, _, _, _, _, _, _, _, _, _, _, w⟩ => w.elim
end Fc
namespace Fc
open PySem
def enc (s : S) (d : D) : PyData := (dat s 60 d).getD .none
def sortKind (xs : List PyData) : Bool := (xs.all fun x => match x with
  | .tuple (_ :: _) => true
  | _ => false) || xs.all fun x => match x with
  | .none => false
  | .tuple _ => false
  | _ => true
def sortOk (s : S) (ds : List D) : Bool := (dats s 60 ds).isSome && sz ds.length && ((ds.map (enc s)).all fun x => (ds.map (enc s)).all fun y => PySem.W.alike x y) && sortKind (ds.map (enc s))
def sortD (s : S) (ds : List D) : List D := ds.mergeSort (PySem.W.dataLe false (enc s))
def fSorted : List D → M D := fun xs s => match xs with
  | [.ref n] => match s[n]? with
    | some (.lst ds) => if sortOk s ds then new (.lst (sortD s ds)) s else none
    | _ => none
  | _ => none
def lexI : List Int → List Int → Bool
  | [], _ :: _ => true
  | a :: r, b :: t => decide (a < b) || (decide (a = b) && lexI r t)
  | _, _ => false
def putI (x : List Int) : List (List Int) → List (List Int)
  | [] => [x]
  | y :: r => if lexI x y then x :: y :: r else if x = y then y :: r else y :: putI x r
def sortI : List (List Int) → List (List Int)
  | [] => []
  | x :: r => putI x (sortI r)
def tupI : List D → Option (List (List Int))
  | [] => some []
  | .tup es :: r => match intsD es, tupI r with
    | some x, some xs => some (x :: xs)
    | _, _ => none
  | _ :: _ => none
def setOk (xs : List (List Int)) : Bool := decide (xs.length < 64) && match xs with
  | [] => true
  | x :: _ => decide (1 ≤ x.length) && xs.all fun y => decide (y.length = x.length) && y.all fun i => decide (0 ≤ i)
def fSortSet : List D → M D := fun xs s => match xs with
  | [.ref n] => match s[n]? with
    | some (.lst ds) => match tupI ds with
      | some ns => if setOk ns then new (.lst ((sortI ns).map fun x => .tup (x.map .int))) s else none
      | none => none
    | _ => none
  | _ => none
/-- a, b, c = e1, e2, e3 with three plain names -/
def cPar3 (i j l : Nat) (es : EL) : C := fun σ s => ex σ (es σ s) fun ds s' => match ds with
  | [x, y, z] => some (.nx (((σ.set i (some x)).set j (some y)).set l (some z)) s')
  | _ => none
/-- what no run reaches -/
def cNever : C := fun _ _ => none
/-- xs[::-1] of a list -/
def oRevL : D → M D := fun x s => match x with
  | .ref n => match s[n]? with
    | some (.lst ds) => new (.lst ds.reverse) s
    | _ => none
  | _ => none
end Fc
namespace Fc
open PySem PySem.Spec PyProof.Rows L2
variable {cm : CM} {W : WX}
section
variable {K : PySem.W.Frag}
mutual
theorem dat_depth (s : S) : ∀ (n : Nat) (d : D) {x : PyData}, dat s n d = some x → x.depth ≤ n
  | n, .non, x, h => by cases n <;> (simp only [dat] at h; cases h; simp [PyData.depth])
  | n, .bl b, x, h => by cases n <;> (simp only [dat] at h; cases h; simp [PyData.depth])
  | n, .int b, x, h => by cases n <;> (simp only [dat] at h; cases h; simp [PyData.depth])
  | n, .str b, x, h => by cases n <;> (simp only [dat] at h; cases h; simp [PyData.depth])
  | n, .rol b, x, h => by cases n <;> (simp only [dat] at h; cases h)
  | 0, .tup b, x, h => by simp only [dat] at h; cases h
  | 0, .ref b, x, h => by simp only [dat] at h; cases h
  | n + 1, .tup ds, x, h => by
    simp only [dat, Option.map_eq_some_iff] at h
    obtain ⟨xs, h, rfl⟩ := h
    have := dats_depth s n ds h
    simp only [PyData.depth]
    omega
  | n + 1, .ref a, x, h => by
    simp only [dat] at h
    split at h
    · rename_i ds hl
      obtain ⟨xs, h', rfl⟩ := Option.map_eq_some_iff.mp h
      have := dats_depth s n ds h'
      simp only [PyData.depth]
      omega
    · cases h
theorem dats_depth (s : S) : ∀ (n : Nat) (ds : List D) {xs : List PyData}, dats s n ds = some xs → PyData.depthAll xs ≤ n
  | n, [], xs, h => by cases n <;> (simp only [dats] at h; cases h; simp [PyData.depthAll])
  | n, d :: ds, xs, h => by
    simp only [dats] at h
    split at h
    · rename_i x xs' e1 e2
      cases h
      have h1 := dat_depth s n d e1
      have h2 := dats_depth s n ds e2
      simp only [PyData.depthAll]
      omega
    · cases h
end
theorem dats_enc {s : S} : ∀ {ds : List D} {xs : List PyData}, dats s 60 ds = some xs → (∀ d ∈ ds, dat s 60 d = some (enc s d))
  | [], _, _, d, h => by cases h
  | e :: ds, xs, h, d, hd => by
    simp only [dats] at h
    split at h
    · rename_i x xs' e1 e2
      rcases List.mem_cons.mp hd with rfl | hd
      · unfold enc; rw [e1]; rfl
      · exact dats_enc e2 d hd
    · cases h
/-- values and what they read as, side by side -/
theorem each_of {p : List Addr} {H : Hp} {R : Value → D → Prop} : ∀ {ds : List D} {vs : List L2.V} {us : List Value}, RVs K p H ds vs → Vals vs us → (∀ d ∈ ds, ∀ v u, RV K p H d v → RelV v u → R u d) → PySem.W.EachIs R us ds
  | [], _, _, r, v, h => by
    simp only [RVs] at r; subst r
    cases v; exact .nil
  | d :: ds, _, _, r, v, h => by
    simp only [RVs] at r
    obtain ⟨x, r', rfl, r1, r2⟩ := r
    cases v with
    | cons a b => exact .cons (h d (List.mem_cons_self ..) x _ r1 a) (each_of r2 b fun d' hd => h d' (List.mem_cons_of_mem _ hd))
theorem of_each {p : List Addr} {H : Hp} : ∀ {ds : List D} {us : List Value}, PySem.W.EachIs (fun u d => ∃ v, RV K p H d v ∧ RelV v u) us ds → ∃ vs, RVs K p H ds vs ∧ Vals vs us
  | [], _, h => by cases h; exact ⟨[], by simp [RVs], .nil⟩
  | d :: ds, _, h => by
    cases h with
    | cons a b =>
      obtain ⟨v, h1, h2⟩ := a
      obtain ⟨vs, h3, h4⟩ := of_each b
      refine ⟨v :: vs, ?_, .cons h2 h4⟩
      simp only [RVs]
      exact ⟨v, vs, rfl, h1, h3⟩
end
section
variable {X : Cx}
theorem s_sorted {k : Nat} (hr : Room k X.A) : SN X cm (.builtin "sorted") fSorted := by
  refine ⟨fun vs H Q => ∃ W p s σ ds, RS X.K cm p s H ∧ RVs X.K p H ds vs ∧ Po X.K cm W (RV X.K) p σ H (fSorted ds s) Q, ?_, fun W p s σ H vs ds Q rs r q => ⟨W, p, s, σ, ds, rs, r, q⟩⟩
  rintro pins s σ H vs us Q I ru ⟨W, p, st, σ', ds, rs, rv, q⟩
  unfold fSorted at q
  split at q
  · rename_i n
    split at q
    · rename_i ds hn
      split at q
      · rename_i hok
        obtain ⟨x, rfl, rx⟩ := one_rv rv
        obtain ⟨a, ws, rfl, hp, ha, rw'⟩ := lst_at rs rx hn
        obtain ⟨its, r2, hl, hz⟩ := I.list (SqL.of (K := X.K) ha)
        rw [Vals.ref1 ru]
        unfold sortOk at hok
        simp only [Bool.and_eq_true, List.all_eq_true] at hok
        obtain ⟨⟨⟨h1, h2⟩, h3⟩, h4⟩ := hok
        obtain ⟨xs, h1⟩ := Option.isSome_iff_exists.mp h1
        have he := dats_enc h1
        have hal : PySem.W.AllAlike (ds.map (enc st)) := fun d hd d' hd' => h3 d hd d' hd'
        have hk : PySem.W.Sortable (ds.map (enc st)) := by
          unfold sortKind at h4
          rw [Bool.or_eq_true, List.all_eq_true, List.all_eq_true] at h4
          rcases h4 with h4 | h4
          · refine .inl fun d hd => ?_
            have := h4 d hd
            split at this
            · exact ⟨_, _, rfl⟩
            · cases this
          · refine .inr fun d hd => ?_
            have := h4 d hd
            split at this
            · cases this
            · cases this
            · rename_i g1 g2
              exact ⟨fun z => g1 z, fun xs z => g2 xs z⟩
        refine PySem.W.sorted_data (R := fun u d => ∃ v, RV X.K p H d v ∧ RelV v u) (bs := ds) (enc := enc st) hl.isList (each_of rw' r2 fun d hd v u h1 h2 => ⟨v, h1, h2⟩)
          (each_of rw' r2 fun d hd v u h1 h2 => Dp.reads I _ v u (dat_ok rs 60 d h1 (he d hd)) h2) hal hk (sz_ok h2) (fun b hb => ?_) fun out ho eo => ?_
        · have := dat_depth st 60 b (he b hb)
          have := hr.units
          omega
        · obtain ⟨ys, y1, y2⟩ := of_each eo
          obtain ⟨c, hc⟩ := sortedAll_at s.heap its out.toArray
          have hd : H (s.heap.objs.size + 1) = none := I.hok.fresh (Nat.le_succ _)
          refine ⟨.ref (s.heap.objs.size + 1), upd H (s.heap.objs.size + 1) (.lst ys), I.laid (t' := s.toks) (fun b o e => sortedAll_old e) (Nat.le_succ _) ⟨?_, out, c, y2, hc⟩, rfl, ?_⟩
          · rw [y2.length, ho]
            exact sz_ok h2
          · exact Po.newl q rs y1 hd
      · exact q.elim
    · exact q.elim
  · exact q.elim
end
theorem lexI_irr : ∀ a, lexI a a = false
  | [] => rfl
  | a :: r => by simp [lexI, lexI_irr r]
theorem lexI_trans : ∀ {a b c : List Int}, lexI a b = true → lexI b c = true → lexI a c = true
  | [], _ :: _, [], _, h => by simp [lexI] at h
  | [], _ :: _, _ :: _, _, _ => rfl
  | [], [], _, h, _ => by simp [lexI] at h
  | _ :: _, [], _, h, _ => by simp [lexI] at h
  | _ :: _, _ :: _, [], _, h => by simp [lexI] at h
  | a :: r, b :: t, c :: u, h1, h2 => by
    simp only [lexI, Bool.or_eq_true, Bool.and_eq_true, decide_eq_true_eq] at h1 h2 ⊢
    rcases h1 with h1 | ⟨e1, h1⟩
    · rcases h2 with h2 | ⟨e2, h2⟩
      · exact .inl (by omega)
      · exact .inl (by omega)
    · rcases h2 with h2 | ⟨e2, h2⟩
      · exact .inl (by omega)
      · exact .inr ⟨by omega, lexI_trans h1 h2⟩
theorem lexI_tot : ∀ {a b : List Int}, a.length = b.length → a ≠ b → lexI a b = false → lexI b a = true
  | [], [], _, h, _ => absurd rfl h
  | [], _ :: _, l, _, _ => by simp at l
  | _ :: _, [], l, _, _ => by simp at l
  | a :: r, b :: t, l, h, k => by
    simp only [lexI, Bool.or_eq_false_iff, decide_eq_false_iff_not] at k
    simp only [lexI, Bool.or_eq_true, Bool.and_eq_true, decide_eq_true_eq]
    by_cases e : a = b
    · subst e
      refine .inr ⟨rfl, lexI_tot (by simpa using l) (fun z => h (by rw [z])) ?_⟩
      have := k.2
      simpa using this
    · exact .inl (by omega)
theorem code_lex {B : Int} : ∀ {a b : List Int}, a.length = b.length → TS.Bd B a → TS.Bd B b → TS.code B a ≤ TS.code B b → a = b ∨ lexI a b = true
  | [], [], _, _, _, _ => .inl rfl
  | [], _ :: _, l, _, _, _ => by simp at l
  | _ :: _, [], l, _, _, _ => by simp at l
  | a :: r, b :: t, l, ha, hb, h => by
    have l' : r.length = t.length := by simpa using l
    have bd : ∀ {x : List Int}, TS.Bd B x → 0 ≤ TS.code B x ∧ TS.code B x < B ^ x.length := by
      intro x
      induction x with
      | nil => intro _; simp [TS.code]
      | cons y x ih =>
        intro hx
        obtain ⟨i1, i2⟩ := ih hx.tail
        obtain ⟨j1, j2⟩ := hx.head
        have := TS.num1 (P := B ^ x.length) (d := y) (B := B) (c := TS.code B x) i1 i2 j1 j2
        simp only [TS.code, List.length_cons, Int.pow_succ]
        exact this
    obtain ⟨r1, r2⟩ := bd ha.tail
    obtain ⟨t1, t2⟩ := bd hb.tail
    simp only [TS.code] at h
    rw [← l'] at h t2
    have hP : 0 < B ^ r.length := by omega
    simp only [lexI, Bool.or_eq_true, Bool.and_eq_true, decide_eq_true_eq]
    rcases Int.lt_trichotomy a b with z | z | z
    · exact .inr (.inl z)
    · subst z
      rcases code_lex l' ha.tail hb.tail (by omega) with z | z
      · exact .inl (by rw [z])
      · exact .inr (.inr ⟨rfl, z⟩)
    · exfalso
      have h1 : (b + 1) * B ^ r.length ≤ a * B ^ r.length := Int.mul_le_mul_of_nonneg_right (by omega) (by omega)
      rw [Int.add_mul, Int.one_mul] at h1
      omega
theorem putI_mem {x z : List Int} : ∀ {l : List (List Int)}, z ∈ putI x l ↔ z = x ∨ z ∈ l
  | [] => by simp [putI]
  | y :: r => by
    unfold putI
    split
    · simp
    · split
      · rename_i h; subst h; simp
      · simp [putI_mem (l := r)]
        constructor
        · rintro (h | h | h) <;> simp [h]
        · rintro (h | h | h) <;> simp [h]
theorem sortI_mem {z : List Int} : ∀ {l : List (List Int)}, z ∈ sortI l ↔ z ∈ l
  | [] => by simp [sortI]
  | x :: r => by simp [sortI, putI_mem, sortI_mem (l := r)]
theorem putI_srt {d : Nat} {x : List Int} (hx : x.length = d) : ∀ {l : List (List Int)}, (∀ y ∈ l, y.length = d) → l.Pairwise (fun a b => lexI a b = true) → (putI x l).Pairwise (fun a b => lexI a b = true)
  | [], _, _ => by simp [putI]
  | y :: r, hl, h => by
    obtain ⟨h1, h2⟩ := List.pairwise_cons.mp h
    unfold putI
    split
    · rename_i e
      refine List.pairwise_cons.mpr ⟨fun z hz => ?_, h⟩
      rcases List.mem_cons.mp hz with rfl | hz
      · exact e
      · exact lexI_trans e (h1 z hz)
    · split
      · exact h
      · rename_i e ne
        refine List.pairwise_cons.mpr ⟨fun z hz => ?_, putI_srt hx (fun y hy => hl y (List.mem_cons_of_mem _ hy)) h2⟩
        rcases putI_mem.mp hz with rfl | hz
        · exact lexI_tot (by rw [hx, hl y (List.mem_cons_self ..)]) ne (by simpa using e)
        · exact h1 z hz
theorem sortI_srt {d : Nat} : ∀ {l : List (List Int)}, (∀ y ∈ l, y.length = d) → (sortI l).Pairwise (fun a b => lexI a b = true)
  | [], _ => by simp [sortI]
  | x :: r, h => putI_srt (h x (List.mem_cons_self ..)) (fun y hy => h y (List.mem_cons_of_mem _ (sortI_mem.mp hy))) (sortI_srt fun y hy => h y (List.mem_cons_of_mem _ hy))
theorem srt_uniq : ∀ {l m : List (List Int)}, l.Pairwise (fun a b => lexI a b = true) → m.Pairwise (fun a b => lexI a b = true) → (∀ z, z ∈ l ↔ z ∈ m) → l = m
  | [], [], _, _, _ => rfl
  | [], y :: m, _, _, h => by have := (h y).mpr (List.mem_cons_self ..); simp at this
  | x :: l, [], _, _, h => by have := (h x).mp (List.mem_cons_self ..); simp at this
  | x :: l, y :: m, h1, h2, h => by
    obtain ⟨a1, a2⟩ := List.pairwise_cons.mp h1
    obtain ⟨b1, b2⟩ := List.pairwise_cons.mp h2
    have exy : x = y := by
      rcases List.mem_cons.mp ((h x).mp (List.mem_cons_self ..)) with e | e
      · exact e
      · rcases List.mem_cons.mp ((h y).mpr (List.mem_cons_self ..)) with e' | e'
        · exact e'.symm
        · have := lexI_trans (b1 x e) (a1 y e')
          rw [lexI_irr] at this; cases this
    subst exy
    congr 1
    refine srt_uniq a2 b2 fun z => ?_
    constructor
    · intro hz
      rcases List.mem_cons.mp ((h z).mp (List.mem_cons_of_mem _ hz)) with e | e
      · subst e; have := a1 z hz; rw [lexI_irr] at this; cases this
      · exact e
    · intro hz
      rcases List.mem_cons.mp ((h z).mpr (List.mem_cons_of_mem _ hz)) with e | e
      · subst e; have := b1 z hz; rw [lexI_irr] at this; cases this
      · exact e
section
variable {X : Cx}
theorem tupI_rv {K : PySem.W.Frag} {p : List Addr} {H : Hp} : ∀ {ds : List D} {ns : List (List Int)} {vs : List L2.V}, tupI ds = some ns → RVs K p H ds vs → ∃ ks : List (Addr × List Int), vs = ks.map (fun q => L2.V.ref q.1) ∧ ks.map (·.2) = ns ∧ ∀ q ∈ ks, H q.1 = some (.tup (q.2.map L2.V.int))
  | [], ns, vs, h, r => by
    simp only [tupI] at h; cases h
    simp only [RVs] at r; subst r
    exact ⟨[], rfl, rfl, fun q hq => by cases hq⟩
  | d :: ds, ns, vs, h, r => by
    simp only [RVs] at r
    obtain ⟨v, r', rfl, r1, r2⟩ := r
    cases d with
    | tup es =>
      simp only [tupI] at h
      split at h
      · rename_i x xs e1 e2
        cases h
        obtain ⟨a, ws, rfl, ha, rw'⟩ := rv_tup r1
        have ew := intsD_rv e1 rw'
        subst ew
        obtain ⟨ks, k1, k2, k3⟩ := tupI_rv e2 r2
        refine ⟨(a, x) :: ks, by rw [k1]; rfl, by rw [← k2]; rfl, fun q hq => ?_⟩
        rcases List.mem_cons.mp hq with rfl | hq
        · exact ha
        · exact k3 q hq
      · cases h
    | _ => simp only [tupI] at h; cases h
theorem rvs_ints {K : PySem.W.Frag} {p : List Addr} {H : Hp} : ∀ xs : List Int, RVs K p H (xs.map D.int) (xs.map L2.V.int)
  | [] => by simp [RVs]
  | x :: xs => by
    simp only [List.map_cons, RVs]
    exact ⟨_, _, rfl, mk_int x, rvs_ints xs⟩
theorem rvs_tups {K : PySem.W.Frag} {p : List Addr} {H : Hp} : ∀ {ks : List (Addr × List Int)}, (∀ q ∈ ks, H q.1 = some (.tup (q.2.map L2.V.int))) → RVs K p H ((ks.map (·.2)).map fun x => D.tup (x.map .int)) (ks.map fun q => L2.V.ref q.1)
  | [], _ => by simp [RVs]
  | q :: ks, h => by
    simp only [List.map_cons, RVs]
    exact ⟨_, _, rfl, mk_tup (h q (List.mem_cons_self ..)) (rvs_ints _), rvs_tups fun z hz => h z (List.mem_cons_of_mem _ hz)⟩
theorem le_max : ∀ (xs : List Int) (x : Int), x ∈ xs → x ≤ xs.foldr max 0
  | a :: r, x, h => by
    simp only [List.foldr_cons]
    rcases List.mem_cons.mp h with rfl | h
    · omega
    · have := le_max r x h
      omega
theorem r_sortset {a : Expr} {fa : E} {k : Nat} {p1 p2 pos pos2 : Pos} (hc : X.calm = true) (hr : Room k X.A) (hm1 : X.mg "sorted" = none) (hm2 : X.mg "set" = none) (ha : JE X cm W a fa) (hg1 : Gl X "sorted" := by rfl) (hg2 : Gl X "set" := by rfl)
    (he : starEach [a] X.env = (false, eval a X.env) :: starEach [] X.env := by rfl) (he2 : starEach [.Call (.Name "set" p2) [a] [] pos2] X.env = (false, eval (.Call (.Name "set" p2) [a] [] pos2) X.env) :: starEach [] X.env := by rfl) (hpl : (backTo pos (starEach [] X.env)).any (·.1) = false := by rfl) (hpl2 : (backTo pos2 (starEach [] X.env)).any (·.1) = false := by rfl) :
    JE X cm W (.Call (.Name "sorted" p1) [.Call (.Name "set" p2) [a] [] pos2] [] pos) (eN fSortSet (lCons fa lNil)) := by
  refine (pe_callB (cr_sortedT hc) hg1 hm1 (by decide +kernel) (pa_cons (pe_callTy (cr_setOfT hc hr.units) hg2 hm2 (by decide +kernel) (r_cons ha r_nil he) (by decide) (by decide) he hpl2) pa_nil he2) (by decide) (by decide) he2 hpl).imp fun σ H Q q => ?_
  obtain ⟨p, e, s, re, rs, q⟩ := tD.args q
  refine ⟨p, e, s, re, rs, q.imp ?_⟩
  rintro xs H1 ⟨p, e, s, ds, re, rs, rv, q⟩
  unfold fSortSet at q
  split at q
  · rename_i n
    split at q
    · rename_i ds hn
      split at q
      · rename_i ns hns
        split at q
        · rename_i hok
          obtain ⟨x, rfl, rx⟩ := one_rv rv
          obtain ⟨l, vs, rfl, hp, hl, rl⟩ := lst_at rs rx hn
          obtain ⟨ks, rfl, kn, kt⟩ := tupI_rv hns rl
          unfold setOk at hok
          rw [Bool.and_eq_true] at hok
          obtain ⟨h64, hok⟩ := hok
          have hlen : ks.length < 64 := by
            have := of_decide_eq_true h64
            rw [← kn, List.length_map] at this
            exact this
          -- one length, entries at least 0
          have hd : ∃ d : Nat, 1 ≤ d ∧ ∀ y ∈ ns, y.length = d ∧ ∀ i ∈ y, 0 ≤ i := by
            cases hns' : ns with
            | nil => exact ⟨1, Nat.le_refl _, fun y hy => by cases hy⟩
            | cons x r =>
              rw [hns'] at hok
              simp only [Bool.and_eq_true, decide_eq_true_eq, List.all_eq_true] at hok
              exact ⟨x.length, hok.1, fun y hy => hok.2 y hy⟩
          obtain ⟨d, hd1, hdy⟩ := hd
          refine ⟨l, ks, rfl, SqL.of hl, fun q hq => SqT.of (kt q hq), hlen, fun a L hna hL hk => ?_⟩
          have sm := same_new (u := SetTO X.prog X.w a L) hna
          have hLt : ∀ q ∈ L, upd H1 a (SetTO X.prog X.w a L) q.1 = some (.tup (q.2.map L2.V.int)) := fun q hq => sm _ _ (kt q (hL q hq))
          have hLn : ∀ q ∈ L, q.2 ∈ ns := fun q hq => by rw [← kn]; exact List.mem_map.mpr ⟨q, hL q hq, rfl⟩
          refine ⟨a, L, d, ns.flatten.foldr max 0 + 1, rfl, upd_same, fun q hq => SqT.of (hLt q hq), hd1, fun q hq => ⟨(hdy _ (hLn q hq)).1, fun m hm => ⟨(hdy _ (hLn q hq)).2 m hm, ?_⟩⟩, fun L' b pm nd _ pw hb => ?_⟩
          · have := le_max ns.flatten m (List.mem_flatten.mpr ⟨_, hLn q hq, hm⟩)
            omega
          · have hL' : ∀ q ∈ L', q ∈ L := fun q hq => pm.mem_iff.mp hq
            have e1 : L'.map (·.2) = sortI ns := by
              refine srt_uniq ?_ (sortI_srt fun y hy => (hdy y hy).1) fun z => ?_
              · have nd' := List.pairwise_map.mp nd
                refine List.pairwise_map.mpr ((pw.and nd').imp_of_mem ?_)
                rintro q r hq hr ⟨h1, h2⟩
                have b1 := hdy _ (hLn q (hL' q hq))
                have b2 := hdy _ (hLn r (hL' r hr))
                have bd : ∀ q ∈ L', TS.Bd (ns.flatten.foldr max 0 + 1) q.2 := fun q hq m hm => ⟨(hdy _ (hLn q (hL' q hq))).2 m hm, by
                  have := le_max ns.flatten m (List.mem_flatten.mpr ⟨_, hLn q (hL' q hq), hm⟩)
                  omega⟩
                exact (code_lex (by rw [b1.1, b2.1]) (bd q hq) (bd r hr) h1).resolve_left h2
              · rw [sortI_mem]
                constructor
                · intro hz
                  obtain ⟨q, hq, rfl⟩ := List.mem_map.mp hz
                  exact hLn q (hL' q hq)
                · intro hz
                  rw [← kn] at hz
                  obtain ⟨q, hq, rfl⟩ := List.mem_map.mp hz
                  obtain ⟨r, hr, e⟩ := List.mem_map.mp (hk q hq)
                  exact List.mem_map.mpr ⟨r, pm.mem_iff.mpr hr, e⟩
            refine Po.newl (Po.fut q (Fut.same sm)) (rs.same sm) ?_ hb
            rw [← e1]
            exact rvs_tups fun q hq => hLt q (hL' q hq)
        · exact q.elim
      · exact q.elim
    · exact q.elim
  · exact q.elim
end
end Fc
namespace Fc
open PySem PySem.Spec PyProof.Rows L2
variable {K : PySem.W.Frag} {cm : CM}
/-- the law's def, called with the script: any heap that tracks the script alone -/
theorem law_run {P : Program} {w : World} {mg mb : Str → Option Value} {k : Nat} {fa a : Addr} {fd : FuncData} {x : Str} {Fn : Fc.F} {s1 : Shared} {vs : List Value} {ns : List Int} {H : Hp}
    (KX : K.In s1.heap) (hns : s1.heap.Ns mainGlobals mg) (hb : s1.heap.Ns builtinsNs mb) (hbb : ∀ x : Str, x ≠ "__name__" → mb x = bootBuiltins x) (hlim : s1.heap.NoLimit) (hg : s1.gens = #[])
    (ha : s1.heap.get? a = some { cls := .type "list", data := .seq vs.toArray }) (hr : Rg k callerA)
    (F : ∀ base : Heap, K.In base → base.Ns mainGlobals mg → FnG P w K mg base k fa fd [x] (spD K cm 1 Fn)) (hbind : ∀ (s : Shared) (u : Value), BindsTo s fd ⟨[u], []⟩ [(x, u)])
    (hF : ∃ s', Fn [.rol (ns.map D.int)] [] = some (.ok (.bl true) s')) (hO : Only H) (hS : SqL K H a (ns.map V.int)) (hok : HOk P w H s1.heap) (hA : ∀ b, H b ≠ none → b = a) (hK : H a ≠ none → K.lookup a = none) :
    codeAny (model P w) callerA (.call (.ref fa) ⟨[.ref a], []⟩) (fun r s' => r = .ok (.ret (.bool true)) ∧ OldK s1.heap s'.heap ∧ s'.os = s1.os ∧ AllBare s'.gens) s1 := by
  have out : ∀ {b : Addr}, H b = none ∨ b = a := fun {b} => by
    cases q : H b with
    | none => exact .inl rfl
    | some u => exact .inr (hA b (by rw [q]; simp))
  have stays : ∀ {b : Addr} {o : Obj}, s1.heap.get? b = some o → H b = none → (hidT s1.heap H).get? b = some o := fun e n => hidT_get e n
  have nsK : ∀ {b : Addr} {m : Str → Option Value}, s1.heap.Ns b m → (hidT s1.heap H).Ns b m := fun {b m} ⟨o, es, ep, e, d, r⟩ => by
    refine ⟨o, es, ep, stays e ?_, d, r⟩
    rcases out (b := b) with z | rfl
    · exact z
    · rw [ha] at e; cases e
      have d' : Data.seq vs.toArray _ = Data.dict es ep := d
      cases d'
  have hKb : K.In (hidT s1.heap H) := fun b o e => stays (KX b o e) (by
    rcases out (b := b) with z | rfl
    · exact z
    · cases q : H b with
      | none => rfl
      | some u => rw [hK (by rw [q]; simp)] at e; cases e)
  have hM : Mod K mg (hidT s1.heap H) := ⟨hKb, nsK hns, ⟨mb, nsK hb, hbb⟩, let ⟨mc, h1, h2⟩ := hlim; ⟨mc, nsK h1, h2⟩⟩
  have noFr : ∀ b : Addr, b ∉ frs [] := fun b z => absurd (show b ∈ ([] : List Addr) from z) (by simp)
  have e0 : Env0 P w K mg (hidT s1.heap H) callerA [] s1 H := ⟨rfl, hM, fun b o e => of_hidT e, Nat.le_of_eq (hidT_size _ _), trivial, fun b z => absurd z (noFr b), hok, .of_eq hg⟩
  obtain ⟨sF, hF⟩ := hF
  have sp : spD K cm 1 Fn [V.ref a] H (fun v _ => v = .bl true) (fun _ _ _ => False) := by
    refine ⟨[], [], [.rol (ns.map D.int)], ⟨rfl, List.nodup_nil, fun n o b h => by simp at h⟩, ?_, rfl, ?_⟩
    · simp only [RVs, RV]
      exact ⟨_, _, rfl, ⟨a, _, rfl, RolAt.of hO hS, rvs_ints ns⟩, rfl⟩
    · rw [hF]
      exact fun p' H' v _ _ rv => rv_bl rv
  refine codeAny_mono ((F _ hKb (nsK hns)).run callerA [] s1 H ⟨[.ref a], []⟩ [.ref a] [V.ref a] _ _ hr e0 (hbind s1 (.ref a)) (.cons rfl .nil) sp) fun r s' h => ?_
  cases r with
  | error e =>
    obtain ⟨_, _, _, _, _, _, _, _, _, _, _, _, z⟩ := h
    exact z.elim
  | ok fl =>
    cases fl with
    | next => exact h.elim
    | brk => exact h.elim
    | cont => exact h.elim
    | ret u =>
      obtain ⟨v, H', os, bare, un, hok', r', q⟩ := h
      have q' : v = .bl true := q
      subst q'
      obtain rfl : u = Value.bool true := r'
      refine ⟨rfl, OldK.of_keep fun b o e => ?_, os, bare⟩
      cases q : H b with
      | none => exact un.keep b o e q (noFr b) (by simp)
      | some u =>
        rcases hO b with z | ⟨ob, xs, z⟩
        · rw [q] at z; cases z
        · have z2 := un.frzs b ob _ z
          obtain ⟨e1, _⟩ := hok b _ z
          obtain ⟨e2, _⟩ := hok' b _ z2
          rw [e] at e1; cases e1
          exact e2
/-- a law, from its def's reading -/
theorem walk_law {l : PySem.W.OpenLaw} {n k : Nat} {q : Program} {loose : List Str} {XP : (Str → Option Value) → Heap → Prop} {YP : World → Heap → Prop} {d : DefRec} {x : Str} {Fn : Fc.F}
    (hn : l.most = some n) (hn2 : n ≤ sizeLine) (hdf : d.params.defaults = []) (hr : Rg k callerA) (hF : ∀ ns : List Int, ns.length ≤ n → ∃ s', Fn [.rol (ns.map D.int)] [] = some (.ok (.bl true) s'))
    (F : ∀ (w : World) (mg : Str → Option Value) (fa : Addr) (h : Heap), YP w h → h.Ns mainGlobals mg → mg d.name = some (.ref fa) →
      ∃ (K : PySem.W.Frag) (cm : CM) (fd : FuncData), K.In h ∧ (∀ (s : Shared) (u : Value), BindsTo s fd ⟨[u], []⟩ [(x, u)]) ∧ ∀ base : Heap, K.In base → base.Ns mainGlobals mg → FnG l.prog w K mg base k fa fd [x] (spD K cm 1 Fn)) :
    PySem.W.WalkO q loose XP YP l.row.toRowW d [] (fun f vs => PySem.call f vs) := by
  refine Att.attach_call hn hdf fun w s0 s1 mg mb fa o pm cd doc a vs ns G Y ho hd hcd hmg hobj hints hlen hg => ?_
  obtain ⟨K, cm, fd, KX, hb, F⟩ := F w mg fa _ Y G.T.g hmg
  have rv := vals_ints hints
  have lenV := hints.length
  have hl : ns.length ≤ sizeLine := Nat.le_trans hlen hn2
  have run := fun {H : Hp} => law_run (H := H) (cm := cm) KX G.T.g G.T.b G.T.builtins G.T.nolimit hg hobj hr F hb (hF ns hlen)
  cases hk : K.lookup a with
  | some o =>
    have e := KX a o hk
    rw [hobj] at e
    cases e
    exact run (H := fun _ => none) (fun _ => .inl rfl) (.inr ⟨_, vs.toArray, _, hk, rfl, rfl, rfl, by rw [List.size_toArray, lenV]; exact hl, by simpa using rv⟩) (fun b u z => by cases z) (fun b z => absurd rfl z) fun z => absurd rfl z
  | none =>
    refine run (H := fun b => if b = a then some (.frz { cls := .type "list", data := .seq vs.toArray } (.lst (ns.map V.int))) else none) (fun b => ?_) (.inl (.inr ⟨_, if_pos rfl⟩)) (fun b u z => ?_) (fun b z => ?_) fun _ => hk
    · by_cases hb : b = a
      · exact .inr ⟨_, _, if_pos hb⟩
      · exact .inl (if_neg hb)
    · dsimp only at z
      by_cases hb : b = a
      · rw [if_pos hb] at z
        cases z
        subst hb
        exact ⟨hobj, by rw [List.length_map]; exact hl, vs, _, rv, hobj⟩
      · rw [if_neg hb] at z
        cases z
    · by_cases hb : b = a
      · exact hb
      · rw [if_neg hb] at z
        exact absurd rfl z
theorem caller_room {k : Nat} (h : 3 * k + 200 < recursionLimit := by decide) (h2 : 16 * k + 300 < cLine := by decide) (hd : callerA.depth + 3 * k + 5 < recursionLimit := by decide) (hu : callerA.units + 16 * k + 200 < cLine := by decide) : Rg k callerA := ⟨⟨rfl, hd, hu⟩, rfl⟩
/-- a def with every parameter written -/
theorem bind_all {x qual : Str} {params : Arguments} {body : List Stmt} {scope : Scope} {kws : List (Str × V)} {f : Addr} {fd : FuncData} {ps : List Str} (F : FunD K x qual params body scope [] kws f fd)
    (h : ∀ (kV doc pm : Value) (an : Option Addr) (cdv ct : Value) (us : List Value), us.length = ps.length → bindArgs (PySem.W.fnOf x qual params body scope .none kV doc pm an cdv ct) ⟨us, []⟩ = pure (ps.zip us)) : BindD K fd ps [] :=
  ⟨[], [], .nil, F.bindsN h, fun p H => by simp [RVs]⟩
theorem glob_int {mg : Str → Option Value} {x : Str} {i : Int} (h : ∃ t, mg x = some (.int i t)) : GlobC K mg x (.int i) := ⟨let ⟨t, e⟩ := h; ⟨V.int i, _, e, ⟨t, rfl⟩, fun _ _ => mk_int i⟩⟩
theorem glob_str {mg : Str → Option Value} {x z : Str} (h : ∃ t, mg x = some (.str z t)) : GlobC K mg x (.str z) := ⟨let ⟨t, e⟩ := h; ⟨V.str z, _, e, ⟨t, rfl⟩, fun _ _ => mk_str z⟩⟩
theorem fnAt_of {P : Program} {w : World} {mg : Str → Option Value} {base : Heap} {k : Nat} {f : Addr} {fd : FuncData} {x : Str} {ps : List Str} {np nn : Nat} {b : C} {dfls : List (List D)} (G : FnG P w K mg base k f fd ps (spD K cm np (defF np nn b))) (hm : mg x = some (.ref f)) (kp : PySem.W.keepIn K (.ref f) = true)
    (hb : ∀ dl ∈ dfls, BindD K fd ps dl) : FnAt P w K mg base cm k x (defF np nn b) dfls := ⟨⟨f, ⟨np, fd, ps, G, defF_len, hb⟩, hm, kp⟩⟩
theorem all_one {κ : Type} {p : κ → Prop} {a : κ} (h : p a) : ∀ x ∈ [a], p x := fun x hx => by
  rcases List.mem_cons.mp hx with rfl | hx
  · exact h
  · cases hx
theorem all_cons {κ : Type} {p : κ → Prop} {a : κ} {l : List κ} (h : p a) (hl : ∀ x ∈ l, p x) : ∀ x ∈ a :: l, p x := fun x hx => by
  rcases List.mem_cons.mp hx with rfl | hx
  · exact h
  · exact hl x hx
theorem all_nil {κ : Type} {p : κ → Prop} : ∀ x ∈ ([] : List κ), p x := fun x hx => by cases hx
/-- a def with defaults, the last of them left out -/
theorem bind_dfl {x qual : Str} {params : Arguments} {body : List Stmt} {scope : Scope} {dvs : List V} {kws : List (Str × V)} {f : Addr} {fd : FuncData} {ps : List Str} {dl : List D} (F : FunD K x qual params body scope dvs kws f fd) (n j : Nat) (hd : dvs ≠ []) (hn : n + (dvs.length - j) = ps.length)
    (h : ∀ (T : Addr) (kV doc pm : Value) (an : Option Addr) (cdv ct : Value) (us its : List Value), us.length = n → its.length = dvs.length →
      ∃ k, bindArgs (PySem.W.fnOf x qual params body scope (.ref T) kV doc pm an cdv ct) ⟨us, []⟩ = seqItems? (.ref T) >>= k ∧ k (some its.toArray) = pure (ps.zip (us ++ its.drop j))) (hl : ∀ p H, RVs K p H dl (dvs.drop j)) : BindD K fd ps dl :=
  let ⟨ds, r, b⟩ := F.binds1 n j hd hn h
  ⟨ds, _, r, b, hl⟩
/-- xs[::-1], xs a list -/
theorem r_revL {X : Cx} {W : WX} {a : Expr} {fa : E} {k : Nat} {p1 p2 p3 pos : Pos} (ha : JE X cm W a fa) : JE X cm W (.Subscript a (.Slice none none (some (.UnaryOp .USub (.Constant (.int 1) k p1) p2)) p3) pos) (e1 oRevL fa) := by
  refine (pe_revL ha).imp fun σ H Q q => ?_
  obtain ⟨p, e, s, re, rs, q⟩ := tD.bnd q
  refine ⟨p, e, s, re, rs, q.imp ?_⟩
  rintro x H1 ⟨p, e, s, d, re, rs, r1, q⟩
  unfold oRevL at q
  split at q
  · rename_i n
    split at q
    · rename_i ds hn
      obtain ⟨t, vs, rfl, _, h1, rr⟩ := lst_at rs r1 hn
      refine ⟨t, vs, rfl, SqL.of h1, fun b hb => Po.newl q rs ?_ hb⟩
      refine RVs.of_get (by simp [rr.length]) fun i d v e1 e2 => ?_
      have hl := rr.length
      have hi : i < ds.length := by
        have := (List.getElem?_eq_some_iff.mp e1).1
        simpa using this
      rw [List.getElem?_reverse hi] at e1
      rw [List.getElem?_reverse (by rw [← hl]; exact hi), ← hl] at e2
      obtain ⟨w, w1, w2⟩ := rr.get e1
      rw [e2] at w1; cases w1
      exact w2
    · exact q.elim
  · exact q.elim
theorem three_rv {p : List Addr} {H : Hp} {d d' d2 : D} {xs : List V} (r : RVs K p H [d, d', d2] xs) : ∃ x y z, xs = [x, y, z] ∧ RV K p H d x ∧ RV K p H d' y ∧ RV K p H d2 z := by
  simp only [RVs] at r
  obtain ⟨x, _, rfl, h1, y, _, rfl, h2, z, _, rfl, h3, rfl⟩ := r
  exact ⟨x, y, z, rfl, h1, h2, h3⟩
theorem r_par3 {X : Cx} {W : WX} (i j l : Nat) {x y z : Str} {a b c : Expr} {fl : EL} {px py pz pt pos pt2 : Pos} {kt k2 : Nat} (hc : X.calm = true) (hN : X.N.Nodup) (ha : JA X cm W [a, b, c] fl) (hi : X.N[i]? = some x := by rfl) (hj : X.N[j]? = some y := by rfl) (hl : X.N[l]? = some z := by rfl)
    (hij : i ≠ j := by decide) (hil : i ≠ l := by decide) (hjl : j ≠ l := by decide) (hx : X.env.scope.names.lookup x = some .local := by rfl) (hy : X.env.scope.names.lookup y = some .local := by rfl) (hz : X.env.scope.names.lookup z = some .local := by rfl)
    (hw : swappedStores [.Tuple [.Name x px, .Name y py, .Name z pz] kt pt] (.Tuple [a, b, c] k2 pt2) X.env = pure (some [x, y, z]) := by rfl)
    (hs : swapsWithSole [.Tuple [.Name x px, .Name y py, .Name z pz] kt pt] (.Tuple [a, b, c] k2 pt2) pos.line X.env = pure false := by rfl) :
    JS X cm W (.Assign [.Tuple [.Name x px, .Name y py, .Name z pz] kt pt] (.Tuple [a, b, c] k2 pt2) pos) (cPar3 i j l fl) := by
  refine (ps_par3 hc hN hi hj hl hij hil hjl hx hy hz ha hw hs).imp ?_
  rintro Dn σ H ⟨p, e, s, re, rs, q⟩
  refine ⟨p, e, s, re, rs, (PoS.ex (rel := RVs X.K) q re).imp ?_⟩
  rintro xs H1 ⟨ds, p1, s1, f, rs1, r1, q⟩
  split at q
  · obtain ⟨u, v, w, rfl, ru, rv, rw'⟩ := three_rv r1
    exact ⟨u, v, w, rfl, q p1 H1 _ Fut.refl rs1 ((((re.mono f).set i ru).set j rv).set l rw')⟩
  · exact q.elim
end Fc
namespace Fc
open PySem PySem.Spec PyProof.Rows L2
variable {cm : CM} {W : WX}
def plainTys : List String := ["NoneType", "bool", "int", "str", "tuple", "list", "dict"]
structure IsCF (K : PySem.W.Frag) (cm : CM) (mg : Str → Option Value) (x : Str) (sub : List Str) : Prop where
  ex : ∃ A, mg x = some (.ref A) ∧ (∀ t ∈ plainTys, PySem.W.kitOne K (.type t) (.ref A) = some false) ∧ ∀ c C, cm.ins c = some C → C8.InsC K C ∧ PySem.W.kitOne K (.ref C) (.ref A) = some (sub.contains c)
/-- isinstance of own classes, no caught error -/
def oIsI (sub : List Str) : D → M D := fun x s => match x with
  | .ref n => match s[n]? with
    | some (.ins c _) => some (.ok (.bl (sub.contains c)) s)
    | some (.lst _) => some (.ok (.bl false) s)
    | some (.dK _) => some (.ok (.bl false) s)
    | some (.dT _) => some (.ok (.bl false) s)
    | _ => none
  | .rol _ => none
  | _ => some (.ok (.bl false) s)
section
variable {X : Cx} {a : Expr} {fa : E} {pos : Pos}
end
def perm {α : Type} (z : α) (ix : List Nat) (xs : List α) : List α := ix.map fun i => xs.getD i z
def permD (ix : List Nat) (xs : List D) : List D := perm .non ix xs
/-- n values and keywords ks, put in order by ix -/
structure KwB (K : PySem.W.Frag) (fd : FuncData) (ps : List Str) (n : Nat) (ks : List Str) (ix : List Nat) : Prop where
  to : ∀ (s : Shared) (us ws : List Value), K.In s.heap → us.length = n → ws.length = ks.length → BindsTo s fd ⟨us, ks.zip ws⟩ (ps.zip (perm .none ix (us ++ ws)))
  lt : ∀ i ∈ ix, i < n + ks.length
structure FnKV (P : Program) (w : World) (K : PySem.W.Frag) (mg : Str → Option Value) (base : Heap) (cm : CM) (k : Nat) (f : Addr) (F : Fc.F) (n : Nat) (ks : List Str) (ix : List Nat) : Prop where
  ex : ∃ m fd ps, FnG P w K mg base k f fd ps (spD K cm m F) ∧ (∀ ds s, ds.length ≠ m → F ds s = none) ∧ KwB K fd ps n ks ix ∧ ix.length = m
structure FnKAt (P : Program) (w : World) (K : PySem.W.Frag) (mg : Str → Option Value) (base : Heap) (cm : CM) (k : Nat) (x : Str) (F : Fc.F) (n : Nat) (ks : List Str) (ix : List Nat) : Prop where
  ex : ∃ f, FnKV P w K mg base cm k f F n ks ix ∧ mg x = some (.ref f) ∧ PySem.W.keepIn K (.ref f) = true
/-- the values of a call with keywords, as written -/
def eKw (f : F) (n m : Nat) (ix : List Nat) (es ks : EL) : E := fun σ => bnd (es σ) fun xs => bnd (ks σ) fun ys => fun s => if xs.length = n ∧ ys.length = m then f (permD ix (xs ++ ys)) s else none
section
variable {X : Cx}
variable {k j n : Nat} {f C : Addr} {F : Fc.F} {x m : Str} {p pos apos : Pos} {e o : Expr} {es : List Expr} {kws : List Keyword} {fl gl : EL} {fo : E} {ks : List Str} {ix : List Nat}
/-- a method, keywords alone: ix begins with the object, 0 -/
structure MtKAt (P : Program) (w : World) (K : PySem.W.Frag) (mg : Str → Option Value) (base : Heap) (cm : CM) (k : Nat) (c m : Str) (F : Fc.F) (ks : List Str) (ix : List Nat) : Prop where
  ex : ∃ C f, cm.ins c = some C ∧ L2.Cls K C ∧ Meth K C m f ∧ FnKV P w K mg base cm k f F 1 ks ix
/-- o.m(k = v, ..) of an own class -/
def eMethK (c m : Str) (f : Fc.F) (n : Nat) (ix : List Nat) (o : E) (ks : EL) : E := fun σ => bnd (o σ) fun x => fun s => match x with
  | .ref a => match s[a]? with
    | some (.ins c' fs) => if c' = c ∧ fs.lookup m = none then bnd (ks σ) (fun ys => fun s => if ys.length = n then f (permD ix (x :: ys)) s else none) s else none
    | _ => none
  | _ => none
/-- a class called with keywords alone -/
structure MkKAt (P : Program) (w : World) (K : PySem.W.Frag) (mg : Str → Option Value) (base : Heap) (cm : CM) (k : Nat) (c : Str) (F : Fc.F) (ks : List Str) (ix : List Nat) : Prop where
  ex : ∃ C f, cm.ins c = some C ∧ L2.Mk K C f ∧ mg c = some (.ref C) ∧ FnKV P w K mg base cm k f F 1 ks ix
def eMakeK (c : Str) (init : Fc.F) (n : Nat) (ix : List Nat) (ks : EL) : E := fun σ => bnd (ks σ) fun ys => fun s => if ys.length = n then match init (permD ix (.ref s.length :: ys)) (s ++ [.ins c []]) with
    | some (.ok .non s') => some (.ok (.ref s.length) s')
    | some (.exc x fs s') => some (.exc x fs s')
    | _ => none
  else none
end
end Fc
namespace Fc
open PySem PySem.Spec PyProof.Rows L2
variable {cm : CM} {W : WX}
/-- the class's __eq__ is the def at f, it has no __ne__ -/
def eqIn (K : PySem.W.Frag) (C f : Addr) : Bool := match K.lookup C with
  | some ⟨.type "type", _, .cls cd, sl⟩ => (match cd.mro, sl.toList with
    | [.ref C', .type "object"], [_, _, _, _, some (.builtin n), _] => decide (C' = C) && (decide (n = "object.__new__") && (!cd.hasDel && (PySem.W.nsOkIn K cd.ns && (He.eqO (PySem.W.nsIn K cd.ns "__eq__") (some (some (.ref f))) && He.eqO (PySem.W.nsIn K cd.ns "__ne__") (some none)))))
    | _, _ => false) && (match K.lookup f with
      | some o => decide (o.cls = .type "function")
      | none => false)
  | _ => false
/-- a class with its own __eq__, read as F -/
structure EqAt (P : Program) (w : World) (K : PySem.W.Frag) (mg : Str → Option Value) (base : Heap) (cm : CM) (k : Nat) (c : Str) (F : Fc.F) : Prop where
  ex : ∃ C f, cm.ins c = some C ∧ eqIn K C f = true ∧ PySem.W.findIn K (.ref C) "__eq__" = some (some (.ref f)) ∧ PySem.W.isFn K (.ref f) = true ∧ FnV P w K mg base cm k f F [[]]
section
variable {X : Cx} {k j : Nat} {c : Str} {F : Fc.F}
end
end Fc
namespace Fc
open PySem PySem.Spec PyProof.Rows L2
variable {cm : CM} {W : WX}
section
variable {X : Cx} {pins : List (Addr × Obj)} {σ : L2.St} {H : Hp} {s : Shared}
end
end Fc
namespace Fc
open PySem PySem.Spec PyProof.Rows L2
variable {cm : CM} {W : WX}
theorem rks_get {K : PySem.W.Frag} {κ : Type} {p : List Addr} {H : Hp} : ∀ {ds : List (κ × D)} {vs : List (κ × V)} {i : Nat} {d : κ × D}, RKs K p H ds vs → ds[i]? = some d → ∃ v, vs[i]? = some (d.1, v) ∧ RV K p H d.2 v
  | [], _, _, _, _, e => by simp at e
  | d :: ds, _, 0, _, h, e => by
    simp only [RKs] at h
    obtain ⟨v, r, e', h1, _⟩ := h
    simp at e; subst e
    exact ⟨v, by rw [e']; rfl, h1⟩
  | d :: ds, _, i + 1, d', h, e => by
    simp only [RKs] at h
    obtain ⟨v, r, e', _, h2⟩ := h
    obtain ⟨w, q1, q2⟩ := rks_get (i := i) (d := d') h2 (by simpa using e)
    exact ⟨w, by rw [e']; simpa using q1, q2⟩
def fListIt : D → M D := fun x s => match x with
  | .ref n => match s[n]? with
    | some (.dK kvs) => new (.lst (kvs.map pairD)) s
    | _ => none
  | _ => none
section
variable {X : Cx} {a : Expr} {fa : E}
end
end Fc
namespace Fc
open PySem PySem.Spec PyProof.Rows L2
variable {cm : CM} {W : WX}
section
variable {X : Cx} {e : Expr} {td : TE} {apos cpos : Pos}
end
def pairT (kv : List L2.Key × D) : D := .tup [.tup (kv.1.map dOf), kv.2]
/-- d.items() of a dict with tuple keys -/
def iItT (e : E) : SrcE := fun σ => bnd (e σ) fun x s => match x with
  | .ref n => match s[n]? with
    | some (.dT kvs) => some (.ok (.dict n (kvs.map pairT)) s)
    | some (.lck (.dT kvs)) => some (.ok (.dict n (kvs.map pairT)) s)
    | _ => none
  | _ => none
section
variable {X : Cx} {a : Expr} {fa : E}
end
end Fc
namespace Fc
open PySem PySem.Spec PyProof.Rows L2
variable {K : PySem.W.Frag}
/-- classes by their names in the module -/
def cmOf (K : PySem.W.Frag) (cs : List Str) : CM := ⟨fun c => if c ∈ cs then some (He.ga K c) else none, fun _ => none, none⟩
theorem cm_ins {cs : List Str} {c : Str} {C : Addr} (h : (cmOf K cs).ins c = some C) : c ∈ cs ∧ C = He.ga K c := by
  unfold cmOf at h
  dsimp only at h
  split at h
  · rename_i hc
    cases h
    exact ⟨hc, rfl⟩
  · cases h
def insB (K : PySem.W.Frag) (C : Addr) : Bool := He.eqO (PySem.W.findIn K (.ref C) "__class__") (some (some (.builtin "object.__class__"))) &&
  (He.eqO (PySem.W.specialIn K (.builtin "object.__class__") "__get__") (some (some (.builtin "getset_descriptor.__get__"))) &&
  (decide (PySem.W.takesIn K (.builtin "object.__class__") = some true) && (decide (PySem.W.mroIn K C (.type "object") = some true) && decide (PySem.W.kitOne K (.ref C) (.ref C) = some true))))
theorem insB_ok {C : Addr} (c : Cls K C) (h : insB K C = true) : C8.InsC K C := by
  obtain ⟨h1, h⟩ := He.ba h
  obtain ⟨h2, h⟩ := He.ba h
  obtain ⟨h3, h⟩ := He.ba h
  obtain ⟨h4, h5⟩ := He.ba h
  exact ⟨c, He.eqO_ok h1, He.eqO_ok h2, of_decide_eq_true h3, of_decide_eq_true h4, of_decide_eq_true h5⟩
def plainsB (K : PySem.W.Frag) (A : Addr) : Bool := plainTys.all fun t => decide (PySem.W.kitOne K (.type t) (.ref A) = some false)
def pairB (K : PySem.W.Frag) (C A : Addr) (b : Bool) : Bool := decide (PySem.W.kitOne K (.ref C) (.ref A) = some b)
/-- all that is asked of the classes cs -/
def exB (cs : List Str) (isx : List (Str × List Str)) (eqs flds : List Str) (ms : List (Str × Str)) (K : PySem.W.Frag) : Bool :=
  (cs.all fun c => (He.Fa.cls c).ok K && ((He.Fa.mkr c).ok K && ((He.Fa.glo c).ok K && (insB K (He.ga K c) && flds.all fun f => (He.Fa.noat c f).ok K)))) &&
  ((isx.all fun x => (He.Fa.glo x.1).ok K && (plainsB K (He.ga K x.1) && cs.all fun c => pairB K (He.ga K c) (He.ga K x.1) (x.2.contains c))) &&
  ((eqs.all fun c => eqIn K (He.ga K c) (He.ma K (He.ga K c) "__eq__")) && ms.all fun m => (He.Fa.meth m.1 m.2).ok K))
section
variable {cs : List Str} {isx : List (Str × List Str)} {eqs flds : List Str} {ms : List (Str × Str)} {h : Heap} {mg : Str → Option Value}
structure ExOk (cs : List Str) (isx : List (Str × List Str)) (eqs flds : List Str) (ms : List (Str × Str)) (K : PySem.W.Frag) : Prop where
  ok : exB cs isx eqs flds ms K = true
theorem ExOk.c1 (e : ExOk cs isx eqs flds ms K) {c : Str} (hc : c ∈ cs) : Cls K (He.ga K c) ∧ Mk K (He.ga K c) (He.ma K (He.ga K c) "__init__") ∧ (He.Fa.glo c).ok K = true ∧ C8.InsC K (He.ga K c) ∧ ∀ f ∈ flds, NoAttr K (He.ga K c) f := by
  obtain ⟨h1, _⟩ := He.ba e.ok
  have h2 := List.all_eq_true.mp h1 c hc
  obtain ⟨a1, h2⟩ := He.ba h2
  obtain ⟨a2, h2⟩ := He.ba h2
  obtain ⟨a3, h2⟩ := He.ba h2
  obtain ⟨a4, a5⟩ := He.ba h2
  exact ⟨He.cls_ok a1, He.mkr_ok a2, a3, insB_ok (He.cls_ok a1) a4, fun f hf => He.noat_ok (List.all_eq_true.mp a5 f hf)⟩
theorem ExOk.fld (e : ExOk cs isx eqs flds ms K) {f : Str} (hf : f ∈ flds) : FldOk K (cmOf K cs) f := by
  refine ⟨fun c C hC => ?_, fun c C hC => by cases hC⟩
  obtain ⟨hc, rfl⟩ := cm_ins hC
  obtain ⟨a, _, _, _, b⟩ := e.c1 hc
  exact ⟨a, b f hf⟩
theorem ExOk.is (e : ExOk cs isx eqs flds ms K) (X : K.In h) (G : h.Ns mainGlobals mg) {x : Str} {sub : List Str} (hx : (x, sub) ∈ isx) : IsCF K (cmOf K cs) mg x sub := by
  obtain ⟨_, h1⟩ := He.ba e.ok
  obtain ⟨h1, _⟩ := He.ba h1
  have h2 := List.all_eq_true.mp h1 _ hx
  obtain ⟨a1, h2⟩ := He.ba h2
  obtain ⟨a2, a3⟩ := He.ba h2
  refine ⟨_, He.glo_ok X G a1, fun t ht => of_decide_eq_true (List.all_eq_true.mp a2 t ht), fun c C hC => ?_⟩
  obtain ⟨hc, rfl⟩ := cm_ins hC
  obtain ⟨_, _, _, b, _⟩ := e.c1 hc
  exact ⟨b, of_decide_eq_true (List.all_eq_true.mp a3 c hc)⟩
theorem ExOk.meth (e : ExOk cs isx eqs flds ms K) {c m : Str} (hm : (c, m) ∈ ms) : Meth K (He.ga K c) m (He.ma K (He.ga K c) m) := by
  obtain ⟨_, h1⟩ := He.ba e.ok
  obtain ⟨_, h1⟩ := He.ba h1
  obtain ⟨_, h1⟩ := He.ba h1
  exact He.meth_ok (List.all_eq_true.mp h1 _ hm)
variable {P : Program} {w : World} {base : Heap} {k : Nat} {fd : FuncData} {ps : List Str} {np nn : Nat} {b : C} {dfls : List (List D)}
variable {n : Nat} {ks : List Str} {ix : List Nat}
end
end Fc
namespace Fc
open PySem PySem.Spec PyProof.Rows L2
variable {cm : CM} {W : WX}
section
variable {X : Cx}
theorem s_list (hc : X.calm = true) : SN X cm (.type "list") fList := by
  refine ⟨fun xs H Q => (∃ p ys, xs = [.ref p] ∧ (SqL X.K H p ys ∨ SqT X.K H p ys) ∧ ∀ l, H l = none → Q (.ref l) (upd H l (.lst ys))) ∨ (∃ (a : Addr) (kvs : List (Key × V)), xs = [.ref a] ∧ Rd H a (.dK kvs) ∧ ∀ p, H p = none → Q (.ref p) (upd H p (.lst (kvs.map fun kv => kV kv.1)))),
    fun pins s σ H xs us Q I r h => h.elim (fun h => call_list_of pins s σ H xs us Q I r h) (fun h => call_listD hc pins s σ H xs us Q I r h), fun W p s σ H xs ds Q rs rv q => ?_⟩
  unfold fList at q
  split at q
  · rename_i ds
    obtain ⟨x, rfl, rx⟩ := one_rv rv
    obtain ⟨t, vs, rfl, h1, rr⟩ := rv_tup rx
    exact .inl ⟨t, vs, rfl, .inr (SqT.of h1), fun l hl => Po.newl q rs rr hl⟩
  · rename_i n
    obtain ⟨x, rfl, rx⟩ := one_rv rv
    split at q
    · rename_i ds hn
      obtain ⟨t, vs, rfl, _, h1, rr⟩ := lst_at rs rx hn
      exact .inl ⟨t, vs, rfl, .inl (SqL.of h1), fun l hl => Po.newl q rs rr hl⟩
    · rename_i kvs hn
      simp only [RV] at rx
      obtain ⟨t, ht, rfl⟩ := rx
      obtain ⟨t', ht', u, h1, ws, rfl, rk⟩ := rs.at hn
      rw [ht] at ht'; cases ht'
      refine .inr ⟨t, ws, rfl, .inl h1, fun l hl => Po.newl q rs ?_ hl⟩
      refine RVs.of_get (by simp [rk.length]) fun i d v e1 e2 => ?_
      rw [List.getElem?_map] at e1 e2
      obtain ⟨kv, h3, rfl⟩ := Option.map_eq_some_iff.mp e1
      obtain ⟨w, h5, _⟩ := rks_get rk h3
      rw [h5] at e2
      cases e2
      exact rv_dOf kv.1
    · exact q.elim
  · exact q.elim
end
end Fc
namespace Fc
open PySem PySem.Spec PyProof.Rows L2
/-- what its scope says; n: the parameter -/
structure EScope (n : Str) (sc : Scope) : Prop where
  kind : sc.kind = .function
  co : sc.isCoroutine = false
  gen : sc.isGenerator = false
  self : sc.names.lookup ("self" : Str) = some .local
  par : sc.names.lookup n = some .local
  sup : sc.names.lookup ("super" : Str) = some .globalImplicit
  cls : sc.names.lookup ("__class__" : Str) = some .free
  nocell : ∀ y ∈ sc.names, y.2 ≠ .cell
  free1 : ∀ y ∈ sc.names, y.2 = .free → y.1 = ("__class__" : Str)
  ne : ("self" : Str) ≠ n
section
variable {P : Program} {w : World} {K : PySem.W.Frag} {mg : Str → Option Value} {base : Heap}
abbrev eEnv (qual : Str) (sc : Scope) (L f cda cc : Addr) : PySem.Env := PySem.W.ksEnv qual sc L f (.ref cda) cc
def initX (P : Program) (w : World) (K : PySem.W.Frag) (mg : Str → Option Value) (base : Heap) (n qual : Str) (sc : Scope) (f cda cc : Addr) (A : Around) (outer : List PySem.Env) (s : Shared) (H : Hp) (E : XK) : Cx where
  prog := P
  w := w
  K := K
  mg := mg
  base := base
  A := A.deeper (eEnv qual sc s.heap.objs.size f cda cc)
  N := ["self", n]
  s_0 := s
  H_0 := H
  env := eEnv qual sc s.heap.objs.size f cda cc
  outer := outer
  stack := eEnv qual sc s.heap.objs.size f cda cc :: outer
  ex := []
  calm := true
  fn := fun x => decide (x ≠ ("__class__" : Str))
  pn := []
  xe := fun e s' => wpAny (model P w) (A.deeper (eEnv qual sc s.heap.objs.size f cda cc)) (leaving (eEnv qual sc s.heap.objs.size f cda cc) e) (fun _ s'' => L2.CX P w outer H s E e s'') (fun e' s'' => L2.CX P w outer H s E e' s'') s'
theorem cells1 {cc c : Addr} {x : Str} (h : List.lookup x [(("__class__" : Str), cc)] = some c) : x = "__class__" ∧ c = cc := by
  by_cases e : x = ("__class__" : Str)
  · subst e
    simp [List.lookup] at h
    exact ⟨rfl, h.symm⟩
  · have e' : (x == ("__class__" : Str)) = false := by simpa using e
    simp [List.lookup, e'] at h
theorem init_inv {n qual : Str} {sc : Scope} {f cda cc C : Addr} {A : Around} {outer : List PySem.Env} {s : Shared} {h1 : Heap} {tk : Nat} {H : Hp} {E : XK} {u0 u1 : Value} {v0 v1 : V} {cl : Value} {cld : Option Addr} {csl : Array (Option Value)}
    (S : EScope n sc) (hcell : K.lookup cc = some ⟨cl, cld, .cell (some (.ref C)), csl⟩) (hd : A.handled = none) (e0 : Env0 P w K mg base A outer s H) (r0 : RelV v0 u0) (r1 : RelV v1 u1)
    (hns : h1.Ns s.heap.objs.size (fun x => [(("self" : Str), u0), (n, u1)].reverse.lookup x)) (hk : ∀ b o, s.heap.get? b = some o → h1.get? b = some o) :
    Inv (initX P w K mg base n qual sc f cda cc A outer s H E) [] [some v0, some v1] H { s with heap := h1, toks := tk } := by
  have noA : ∀ b : Addr, b ∉ (initX P w K mg base n qual sc f cda cc A outer s H E).ex := fun b z => absurd (show b ∈ ([] : List Addr) from z) (by simp)
  have hb := e0.mod.kin _ _ hcell
  have hs := (e0.bs _ _ hb).1
  refine ⟨⟨e0.mod, S.kind, rfl, rfl, Nat.le_refl _, fun y z c h1 h2 => ?_, fun y hy => ?_, fun y c hf h => ?_, fun _ => hd, Around.frames_deeper e0.frames, .inr ⟨rfl, rfl⟩, fun b z => absurd z (noA b), e0.bs, e0.bsz, fun b _ _ => noA b, fun b z => absurd z (noA b), e0.funs, e0.frf⟩,
    rfl, e0.bare, Un.kept hk, ⟨_, hns, fun i y v h1 h2 h3 => ?_⟩, fun y c h => ?_, e0.hok.fresh (Nat.le_refl _), fun y c h => ?_, fun p hp => absurd (show p ∈ ([] : List (Addr × Obj)) from hp) (by simp), e0.hok.kept hk, rfl⟩
  · rw [(cells1 h1).1, (cells1 h2).1]
  · have hy : sc.names.lookup y = some .cell ∨ sc.names.lookup y = some .free := hy
    rcases hy with hy | hy
    · exact absurd rfl (S.nocell _ (PySem.mem_of_lookup hy))
    · have e := S.free1 _ (PySem.mem_of_lookup hy) rfl
      dsimp only at e
      subst e
      exact ⟨cc, rfl⟩
  · exact absurd (cells1 h).1 (of_decide_eq_true hf)
  · match i, h1, h2 with
    | 0, h1, h2 =>
      obtain rfl : ("self" : Str) = y := by simpa using (show (["self", n] : List Str)[0]? = some y from h1)
      obtain rfl : v0 = v := by simpa using h2
      refine ⟨u0, r0, .inl ⟨S.self, ?_⟩⟩
      have e : (("self" : Str) == n) = false := by simpa using S.ne
      simp [List.lookup, e]
    | 1, h1, h2 =>
      obtain rfl : n = y := by simpa using (show (["self", n] : List Str)[1]? = some y from h1)
      obtain rfl : v1 = v := by simpa using h2
      refine ⟨u1, r1, .inl ⟨S.par, ?_⟩⟩
      simp [List.lookup]
    | i + 2, h1, h2 => simp at h2
  · obtain ⟨_, rfl⟩ := cells1 h
    exact ⟨_, ⟨_, hk _ _ hs, rfl⟩⟩
  · obtain ⟨_, rfl⟩ := cells1 h
    exact (e0.bs _ _ hb).2
end
end Fc
namespace Fc
open PySem PySem.Spec PyProof.Rows L2
/-- what is known of the class at C, whose __init__ stands at f -/
structure ErrK (P : Program) (K : PySem.W.Frag) (mg : Str → Option Value) (n qual : Str) (sc : Scope) (body : List Stmt) (C f cda cc : Addr) (fd : FuncData) : Prop where
  fn : ∃ name params dV kV doc pm an ct, fd = PySem.W.ksFn name qual params body sc dV kV doc pm an (.ref cda) ct cc ∧ ∃ ar, (params.posonlyargs ++ params.args).head? = some ar ∧ ar.arg = ("self" : Str)
  at_ : ∃ oc od osl, K.lookup f = some ⟨oc, od, .func fd, osl⟩
  code : PySem.W.codeIn K (.ref cda) qual = true
  codeAt : ∃ ccl cdd vs ccs file tf, K.lookup cda = some ⟨ccl, cdd, .fields vs, ccs⟩ ∧ vs[2]? = some (.str file tf) ∧ ((P.main.file : Str) == file) = true
  cell : ∃ cl cld csl, K.lookup cc = some ⟨cl, cld, .cell (some (.ref C)), csl⟩
  T : OexC K C
  mro : PySem.W.mroIn K C (.ref C) = some true
  sup : PySem.W.ks_superIn K C C "__init__" = some (some (.builtin "ValueError.__init__"))
  subV : PySem.W.subIn K (.ref C) (.type "ValueError") = some true
  third : PySem.W.nsIn K cStatics "thirdparty.any" = some none
  msup : mg "super" = none
  top : (P.main.scope.names.lookup ("super" : Str)).isSome = false
  noF : PySem.W.findIn K (.ref C) n = some none
  sc : EScope n sc
section
variable {P : Program} {w : World} {K : PySem.W.Frag} {mg : Str → Option Value} {base : Heap} {A : Around} {outer : List PySem.Env} {s0 : Shared} {H0 : Hp} {E0 : XK} {n qual : Str} {sc : Scope} {body : List Stmt} {C f cda cc L : Addr} {fd : FuncData} {p0 p1 pa pn pc pe : Pos} {a : Addr} {v : V} {H : Hp} {s : Shared} {E : Value → Shared → Prop}
theorem init_super (k : ErrK P K mg n qual sc body C f cda cc fd) (I : Inv (initX P w K mg base n qual sc f cda cc A outer s0 H0 E0) [] [some (.ref a), some v] H s) (e : H a = some (exo a C none))
    {pl : Sem Bool} (hint : interactive (eEnv qual sc s0.heap.objs.size f cda cc) = false) (hsw : swapsWith (.Call (.Attribute (.Call (.Name "super" p0) [] [] p1) "__init__" pa) [.Name n pn] [] pc) none pe.line (eEnv qual sc s0.heap.objs.size f cda cc) = pure false)
    (hev : eval (.Call (.Attribute (.Call (.Name "super" p0) [] [] p1) "__init__" pa) [.Name n pn] [] pc) (eEnv qual sc s0.heap.objs.size f cda cc) = (do
      let ov ← attributeBase (.Call (.Name "super" p0) [] [] p1) "__init__" (eEnv qual sc s0.heap.objs.size f cda cc) (eval (.Call (.Name "super" p0) [] [] p1) (eEnv qual sc s0.heap.objs.size f cda cc))
      standAt pa.atName
      let (g0, first) ← holding [ov] (getMethod ov "__init__" pl)
      callWith pc g0 first (backTo pc (starEach [.Name n pn] (eEnv qual sc s0.heap.objs.size f cda cc))) []))
    (hst : starEach [.Name n pn] (eEnv qual sc s0.heap.objs.size f cda cc) = (false, eval (.Name n pn) (eEnv qual sc s0.heap.objs.size f cda cc)) :: starEach [] (eEnv qual sc s0.heap.objs.size f cda cc)) (hpl : (backTo pc (starEach [] (eEnv qual sc s0.heap.objs.size f cda cc))).any (·.1) = false)
    (hdn : (n == ("__debug__" : Str)) = false) (hcn : (n == ("__classdict__" : Str)) = false) :
    _root_.PySem.wpAt (model P w) (initX P w K mg base n qual sc f cda cc A outer s0 H0 E0).A (.func body (eEnv qual sc s0.heap.objs.size f cda cc)) (exec (.Expr (.Call (.Attribute (.Call (.Name "super" p0) [] [] p1) "__init__" pa) [.Name n pn] [] pc) pe) (eEnv qual sc s0.heap.objs.size f cda cc))
      (fun fl s' => fl = .next ∧ Inv (initX P w K mg base n qual sc f cda cc A outer s0 H0 E0) [] [some (.ref a), some v] H s') (initX P w K mg base n qual sc f cda cc A outer s0 H0 E0).xe s := by
  obtain ⟨name, params, dV, kV, doc, pm, an, ct, hfd, ar, hp, har⟩ := k.fn
  obtain ⟨oc, od, osl, hf⟩ := k.at_
  obtain ⟨ccl, cdd, vs, ccs, file, tf, hcda, hvs, hfile⟩ := k.codeAt
  obtain ⟨cl, cld, csl, hcell⟩ := k.cell
  obtain ⟨t1, he⟩ := exo_at I.hok e
  have hsc := k.sc
  obtain ⟨mb, hb1, hb2⟩ := I.mod.blt
  have hk0 : (eEnv qual sc s0.heap.objs.size f cda cc).scope.kind = .function := I.ok.kind
  have hks : (eEnv qual sc s0.heap.objs.size f cda cc).kindOf "super" = some .globalImplicit := by exact hsc.sup
  have hkc : (eEnv qual sc s0.heap.objs.size f cda cc).kindOf "__class__" = some .free := by exact hsc.cls
  have hka : (eEnv qual sc s0.heap.objs.size f cda cc).kindOf "self" = some .local := by exact hsc.self
  have hkn : (eEnv qual sc s0.heap.objs.size f cda cc).kindOf n = some .local := by exact hsc.par
  have hcs : (eEnv qual sc s0.heap.objs.size f cda cc).cells.lookup ("__class__" : Str) = some cc := rfl
  have hfu : (eEnv qual sc s0.heap.objs.size f cda cc).func = some f := rfl
  have hco : (eEnv qual sc s0.heap.objs.size f cda cc).code = .ref cda := rfl
  have hpar : (fd.params.posonlyargs ++ fd.params.args).head? = some ar := by rw [hfd]; exact hp
  obtain ⟨cd, hcd⟩ : ∃ cd, PySem.W.clsIn K C = some cd := by
    have := k.sup
    unfold PySem.W.ks_superIn at this
    cases hc : PySem.W.clsIn K C with
    | none => rw [hc] at this; cases this
    | some cd => exact ⟨cd, rfl⟩
  have hsup := k.sup
  unfold PySem.W.ks_superIn at hsup
  rw [hcd] at hsup
  obtain ⟨oD, hD1, hD2⟩ : ∃ oD, K.lookup C = some oD ∧ oD.data = .cls cd := by
    unfold PySem.W.clsIn at hcd
    split at hcd
    · rename_i c d cd' sl ho
      cases hcd
      exact ⟨_, ho, rfl⟩
    · cases hcd
  have iat : ∀ {h : Heap}, h.get? a = some ({ cls := .ref C, dict := none, data := .fields #[.ref t1, .none, .none, .none, .bool false, .none] } : Obj) → PySem.W.InstAt h a ({ cls := .ref C, dict := none, data := .fields #[.ref t1, .none, .none, .none, .bool false, .none] } : Obj) C none := fun z => ⟨z, rfl, rfl, trivial⟩
  refine PySem.ks_wpAt_Expr_any (PySem.ks_wpAt_MethodCall ?_ hev) hint hsw
  refine PySem.ks_wpAt_super_base hks hkc rfl hfu (I.kIn _ _ hf) rfl hpar hco (I.kIn _ _ hcda) rfl hvs hfile k.top ?_
  refine PySem.W.ks_loadName_global hk0 hks (Calls.loadGlobal_builtin (I.mod.glob.keeps I.bk) k.msup (hb1.keeps I.bk) ((hb2 _ (by decide)).trans PyProof.Rows.Boot.«super») ⟨rfl, ?_⟩)
  refine wpAny_loadName_free hk0 hkc hcs ⟨_, I.kIn _ _ hcell, rfl⟩ ?_
  obtain ⟨m, hn, hl⟩ := I.loc
  obtain ⟨u, rv, lk⟩ := hl 0 "self" (.ref a) (rfl) rfl (.inl (by exact hsc.self))
  obtain rfl : u = Value.ref a := rv
  have hm : m "self" = some (.ref a) := by
    rcases lk with ⟨_, z⟩ | ⟨z, _⟩
    · exact z
    · rcases z with z | z
      · have z' := hka.symm.trans z
        cases z'
      · have z' := hka.symm.trans z
        cases z'
  rw [har]
  refine wpAny_loadName_local hk0 hka hn hm ?_
  refine PySem.ks_wpAny_isType_cls (I.kIn _ _ hD1) hD2 ⟨rfl, ?_⟩
  obtain ⟨hh, g, d, t, os⟩ := s
  refine PySem.ks_wpAny_call_super (I.kIn _ _ hD1) hD2 he rfl (fun c z => by cases z) (PySem.W.looks_mroIn I.kIn k.mro) (fun h1 e1 k1 => ?_)
  have I1 : Inv (initX P w K mg base n qual sc f cda cc A outer s0 H0 E0) [] [some (.ref a), some v] H ⟨h1, g, d, t, os⟩ := I.kept (t' := t) k1
  have he1 := k1 _ _ he
  refine PySem.W.kxs_getMethod PySem.W.kxs_ValueError e1 (PySem.W.looks_opaque I1.kIn k.third) (l₀ := cd.mro) (fun A Q E s kk q => wpAny_bind ((PySem.W.looks_clsIn I1.kIn hcd) A _ E s kk (wpAny_pure q))) rfl I1.kIn hsup ((iat he1).type.andThen (PySem.W.looks_subIn I1.kIn k.subV)) (PySem.W.ks_ne I1.kIn (iat he1) hcd) rfl ?_
  have k2 : ∀ b o, h1.get? b = some o → (h1.push (PySem.W.kxs_mw "ValueError.__init__" a)).get? b = some o := fun b o z => Heap.get?_push_of_some _ z
  have I2 : Inv (initX P w K mg base n qual sc f cda cc A outer s0 H0 E0) [] [some (.ref a), some v] H ⟨h1.push (PySem.W.kxs_mw "ValueError.__init__" a), g, d, t + 1, os⟩ := I1.kept (t' := t + 1) k2
  have he2 := k2 _ _ he1
  have hu2 : (h1.push (PySem.W.kxs_mw "ValueError.__init__" a)).get? h1.objs.size = some (PySem.W.kxs_mw "ValueError.__init__" a) := Heap.get?_push_at rfl rfl
  have hfr : H h1.objs.size = none := I1.hok.fresh (Nat.le_refl _)
  have I3 : Inv (initX P w K mg base n qual sc f cda cc A outer s0 H0 E0) [(h1.objs.size, PySem.W.kxs_mw "ValueError.__init__" a)] [some (.ref a), some v] H ⟨h1.push (PySem.W.kxs_mw "ValueError.__init__" a), g, d, t + 1, os⟩ := I2.pins_of fun p hp => by
    rcases List.mem_singleton.mp hp with rfl
    exact ⟨hu2, hfr, fun z => absurd I1.lt (by rw [← z]; exact Nat.lt_irrefl _), I1.nofs (Nat.le_refl _), fun v z => by cases z⟩
  have ha : PA (initX P w K mg base n qual sc f cda cc A outer s0 H0 E0) [.Name n pn] (tCons (tVar 1) tNil) := pa_cons (pe_var (i := 1) rfl (.inl hsc.par) hdn hcn) pa_nil hst
  have hrun := ha.run pc _ _ _ _ (fun xs H1 => xs = [v] ∧ H1 = H) I3 ⟨v, rfl, rfl, rfl⟩
  show wpAny _ _ (callWith pc (.ref h1.objs.size) [] (backTo pc (starEach [.Name n pn] (eEnv qual sc s0.heap.objs.size f cda cc))) []) _ _ _
  have hcall : ∀ us s3, AP (initX P w K mg base n qual sc f cda cc A outer s0 H0 E0) [(h1.objs.size, PySem.W.kxs_mw "ValueError.__init__" a)] [some (.ref a), some v] (fun xs H1 => xs = [v] ∧ H1 = H) us s3 →
      PySem.W.KxsAt "ValueError.__init__" h1.objs.size a s3.heap ∧ wpAny (model P w) (initX P w K mg base n qual sc f cda cc A outer s0 H0 E0).A (call (.ref h1.objs.size) us) (fun _ s' => Flow.next = Flow.next ∧ Inv (initX P w K mg base n qual sc f cda cc A outer s0 H0 E0) [] [some (.ref a), some v] H s') (initX P w K mg base n qual sc f cda cc A outer s0 H0 E0).xe s3 := by
    rintro us s3 ⟨xs, H3, I4, rv, rfl, rfl⟩
    have hu := (I4.pin _ (List.mem_append_right _ (List.mem_singleton_self _))).1
    refine ⟨hu, ?_⟩
    have hz : us.length ≤ sizeLine := by
      have := rv.length
      rw [← this, sizeLine_eq]
      simp
    obtain ⟨nm, q, N, bs, bm, sn, sub, ab, col, dd, k0, k1', k2', k3, k5, hC, hbm⟩ := k.T.cls
    obtain ⟨t2, he3⟩ := exo_at I4.hok e
    obtain ⟨hp3, g3, d3, tk3, os3⟩ := s3
    refine wpAny_call (codeAny_of_tree ?_)
    show wpAny _ _ (callAny (.ref h1.objs.size) ⟨us, []⟩) _ _ _
    simp only [callAny]
    refine wpAny_bind (wpAny_load hu ?_)
    simp only [PySem.W.kxs_mw, show (Value.type "method-wrapper" == Value.type "method" || Value.type "method-wrapper" == Value.type "builtin_function_or_method" || Value.type "method-wrapper" == Value.type "method-wrapper") = true by decide, if_true]
    refine PySem.W.KFB.if_so (by decide) ?_
    refine wpAny_bind (PySem.W.check_bound_init PySem.F.excBase_ValueError.toExcCallFacts (I4.kIn _ _ hC) he3 rfl ?_)
    refine wpAny_bind (wpAny_pure (wpAny_pure ?_))
    refine ⟨plainId_quiet PySem.F.excBase_ValueError.init.plain _, codeAny_builtin PySem.F.excBase_ValueError.initEntry ?_⟩
    refine PySem.W.exc_init_tree (cls := .ref C) (t0 := t2) (dv := none) (c2 := .none) (c3 := .none) (b4 := .bool false) he3 hz fun h' kk e' _ => ?_
    have J := I4.write (t' := tk3) (x := a) (e := a) (o := exo a C none) (by rw [e]; exact True.intro) (.inl rfl) kk ⟨_, e'⟩ (exo_ok e')
    have eu : upd H3 a (exo a C none) = H3 := by
      funext b
      by_cases hb : b = a
      · rw [hb, upd_same, e]
      · rw [upd_ne hb]
    rw [eu] at J
    exact ⟨by trivial, J.pins_of fun p hp => absurd hp (by simp)⟩
  have h := thn hrun hcall
  have hst' : starEach [.Name n pn] (initX P w K mg base n qual sc f cda cc A outer s0 H0 E0).env = (false, eval (.Name n pn) (initX P w K mg base n qual sc f cda cc A outer s0 H0 E0).env) :: starEach [] (initX P w K mg base n qual sc f cda cc A outer s0 H0 E0).env := hst
  rw [hst'] at h
  rw [hst]
  exact PySem.W.kxs_callWith (i := "ValueError.__init__") (x := a) (by show (false || (backTo pc (starEach [] (eEnv qual sc s0.heap.objs.size f cda cc))).any (·.1)) = false; rw [hpl]; rfl) (Calls.evalArgs_plain h)
end
end Fc
namespace Fc
open PySem PySem.Spec PyProof.Rows L2
/-- the text of such an __init__ -/
abbrev eBody (n : Str) (p0 p1 pa pn pc pe q1 q2 q3 q4 : Pos) : List Stmt :=
  [.Expr (.Call (.Attribute (.Call (.Name "super" p0) [] [] p1) "__init__" pa) [.Name n pn] [] pc) pe, .Assign [.Attribute (.Name "self" q1) n q2] (.Name n q3) q4]
/-- what the text's places have to say -/
structure EText (n qual : Str) (sc : Scope) (p0 p1 pa pn pc pe q1 q2 q3 q4 : Pos) : Prop where
  int : ∀ L f cda cc, interactive (eEnv qual sc L f cda cc) = false
  sw : ∀ L f cda cc, swapsWith (.Call (.Attribute (.Call (.Name "super" p0) [] [] p1) "__init__" pa) [.Name n pn] [] pc) none pe.line (eEnv qual sc L f cda cc) = pure false
  ev : ∃ pl : Nat → Addr → Addr → Addr → Sem Bool, ∀ L f cda cc, eval (.Call (.Attribute (.Call (.Name "super" p0) [] [] p1) "__init__" pa) [.Name n pn] [] pc) (eEnv qual sc L f cda cc) = (do
      let ov ← attributeBase (.Call (.Name "super" p0) [] [] p1) "__init__" (eEnv qual sc L f cda cc) (eval (.Call (.Name "super" p0) [] [] p1) (eEnv qual sc L f cda cc))
      standAt pa.atName
      let (g0, first) ← holding [ov] (getMethod ov "__init__" (pl L f cda cc))
      callWith pc g0 first (backTo pc (starEach [.Name n pn] (eEnv qual sc L f cda cc))) [])
  st : ∀ L f cda cc, starEach [.Name n pn] (eEnv qual sc L f cda cc) = (false, eval (.Name n pn) (eEnv qual sc L f cda cc)) :: starEach [] (eEnv qual sc L f cda cc)
  pl : ∀ L f cda cc, (backTo pc (starEach [] (eEnv qual sc L f cda cc))).any (·.1) = false
  sw2 : ∀ L f cda cc, swapsWith (.Name n q3) (some (.Attribute (.Name "self" q1) n q2)) q4.line (eEnv qual sc L f cda cc) = pure false
  dn : (n == ("__debug__" : Str)) = false
  cn : (n == ("__classdict__" : Str)) = false
section
variable {P : Program} {w : World} {K : PySem.W.Frag} {mg : Str → Option Value} {base : Heap} {n qual : Str} {sc : Scope} {C f cda cc : Addr} {fd : FuncData} {p0 p1 pa pn pc pe q1 q2 q3 q4 : Pos}
/-- the errors of the class at C alone -/
def spEC (C : Addr) (n : Str) : Sp := fun vs H Q _ => ∃ (a : Addr) (v : V), vs = [.ref a, v] ∧ H a = some (exo a C none) ∧ ∀ dx, H dx = none → dx ≠ a → Q .non (upd (upd H dx (exd dx [(n, v)])) a (exo a C (some dx)))
theorem err_fn {k : Nat} (e : ErrK P K mg n qual sc (eBody n p0 p1 pa pn pc pe q1 q2 q3 q4) C f cda cc fd) (t : EText n qual sc p0 p1 pa pn pc pe q1 q2 q3 q4) : FnG P w K mg base (k + 1) f fd ["self", n] (spEC C n) := by
  have len : ∀ vs H Q E, spEC C n vs H Q E → vs.length = (["self", n] : List Str).length := fun vs H Q E ⟨_, _, h, _⟩ => by rw [h]; rfl
  refine ⟨len, fun A outer s H args us vs Q E hr e0 hb r hsp => ?_⟩
  obtain ⟨a, v, rfl, ea, q⟩ := hsp
  have KX : K.In s.heap := e0.mod.kin.keeps fun b o e => (e0.bs b o e).1
  have lim : s.heap.NoLimit := e0.mod.nolimit.keeps fun b o e => (e0.bs b o e).1
  obtain ⟨name, params, dV, kV, doc, pm, an, ct, hfd, ar, hp, har⟩ := e.fn
  obtain ⟨oc, od, osl, hf⟩ := e.at_
  obtain ⟨cl, cld, csl, hcell⟩ := e.cell
  have hS := e.sc
  cases r with
  | @cons _ u0 _ ur ra rr =>
  cases rr with
  | @cons _ u1 _ ur2 rb rr2 =>
  cases rr2
  subst hfd
  refine PySem.ks_codeAny_call_defAt (fd := PySem.W.ksFn name qual params (eBody n p0 p1 pa pn pc pe q1 q2 q3 q4) sc dV kV doc pm an (.ref cda) ct cc) (body := eBody n p0 p1 pa pn pc pe q1 q2 q3 q4) (binds := [("self", u0), (n, u1)]) hr.room.depth (KX _ _ hf) rfl lim (PySem.W.codeRec_of KX e.code) rfl hb hS.nocell (fun y hy => ?_) (fun h1 hns hk => ?_) hS.co hS.gen hS.kind
  · simp only [List.mem_cons, List.not_mem_nil, or_false] at hy
    rcases hy with rfl | rfl
    · exact hS.self
    · exact hS.par
  have I : Inv (initX P w K mg base n qual sc f cda cc A outer s H E) [] [some (.ref a), some v] H { s with heap := h1, toks := s.toks + 2 } := init_inv hS hcell hr.room.hd e0 ra rb hns hk
  obtain ⟨pl, hev⟩ := t.ev
  refine PySem.ks_wpAt_execs_cons (PySem.ks_wpAt_mono (init_super e I ea (t.int _ _ _ _) (t.sw _ _ _ _) (hev _ _ _ _) (t.st _ _ _ _) (t.pl _ _ _ _) t.dn t.cn) (fun fl s' hs => ?_) fun _ _ z => z)
  obtain ⟨rfl, I1⟩ := hs
  have ht : PSs (initX P w K mg base n qual sc f cda cc A outer s H E) [.Assign [.Attribute (.Name "self" q1) n q2] (.Name n q3) q4] (tOst K n (tVar 0) (tVar 1)) :=
    pss_one (ps_ost (pe_var (i := 0) rfl (.inl hS.self)) (pe_var (i := 1) rfl (.inl hS.par) t.dn t.cn) (t.sw2 _ _ _ _))
  have hq : tOst K n (tVar 0) (tVar 1) { nx := fun _ H' => Q .non H', rt := Q } [some (.ref a), some v] H :=
    ⟨v, rfl, .ref a, rfl, a, C, rfl, e.T, e.noF, .inl ⟨ea, fun dx h1 h2 => q dx h1 h2⟩⟩
  refine wpAt_of_wpAny (wpAny_mono (ht.run [] s' _ H _ I1 hq) (fun fl s2 hs => ?_) fun _ _ z => z)
  have fin : ∀ {σ' : L2.St} {H' : Hp} {v : V} {u : Value}, Inv (initX P w K mg base n qual sc f cda cc A outer s H E) [] σ' H' s2 → RelV v u → Q v H' → CE outer P w H s Q u s2 :=
    fun {σ' H' v u} J rv q => ⟨v, H', J.os, J.bare, J.base, J.hok, rv, q⟩
  cases fl with
  | ret u =>
    obtain ⟨v, σ', H', J, rv, q⟩ := hs
    exact fin J rv q
  | next =>
    obtain ⟨σ', H', J, q⟩ := hs
    exact fin (v := V.non) (u := Value.none) J rfl q
  | brk =>
    obtain ⟨_, _, _, q⟩ := hs
    exact False.elim q
  | cont =>
    obtain ⟨_, _, _, q⟩ := hs
    exact False.elim q
end
end Fc
namespace Fc
open PySem PySem.Spec PyProof.Rows L2
/-- an error class in a context: its __init__ (at f) keeps its promise; dfl: the values that may be left out -/
structure ErrAt (P : Program) (w : World) (K : PySem.W.Frag) (mg : Str → Option Value) (base : Heap) (cm : CM) (k : Nat) (c n : Str) (dfls : List (List D)) : Prop where
  ex : ∃ C f fd, cm.err c = some C ∧ mg c = some (.ref C) ∧ OexC K C ∧ FnG P w K mg base k f fd ["self", n] (spEC C n) ∧ PySem.W.findIn K (.ref C) "__init__" = some (some (.ref f)) ∧ PySem.W.typeIn K (.ref f) = some (.type "function") ∧ ∀ dl ∈ dfls, BindD K fd ["self", n] dl
section
variable {X : Cx} {cm : CM} {W : WX} {k j : Nat} {c n : Str} {dfl : List D} {dfls : List (List D)} {es : List Expr} {fl : EL} {p pos rpos : Pos}
/-- the making: the call of the class -/
theorem mk_err {C f : Addr} {fd : FuncData} {ds : List Value} {dvs vs : List V} {us : List Value} {v : V} {pins : List (Addr × Obj)} {σ : L2.St} {H : Hp} {s : Shared} {Q : XK} (hT : OexC X.K C) (hF : FnG X.prog X.w X.K X.mg X.base k f fd ["self", n] (spEC C n))
    (hi : PySem.W.findIn X.K (.ref C) "__init__" = some (some (.ref f))) (ht : PySem.W.typeIn X.K (.ref f) = some (.type "function")) (hr : Rg j X.A) (hk : k + 1 ≤ j) (tk : Takes X W) (hb : Binds X.K fd ["self", n] ds) (hd : Vals dvs ds) (I : Inv X pins σ H s) (hv : Vals vs us) (he : vs ++ dvs = [v])
    (q : ∀ dx, H dx = none → Q (.ref C) (some dx) (upd H dx (.xd [(n, v)]))) : wpAny (model X.prog X.w) X.A (call (.ref C) us) (MkP X pins σ Q) X.xe s := by
  obtain ⟨nm, qn, N, bs, bm, sn, sub, ab, col, dd, k0, k1, k2, k3, k5, hC, hbm⟩ := hT.cls
  obtain ⟨hp, g, dr, tk0, os⟩ := s
  have hsz : hp.objs.size ≤ hp.objs.size + 1 := Nat.le_succ _
  have hn : H (hp.objs.size + 1) = none := I.hok.fresh hsz
  have hus : us.length ≤ sizeLine := by
    have h1 : vs.length ≤ 1 := by have := congrArg List.length he; simp at this; omega
    rw [← Paired.length hv, sizeLine_eq]
    omega
  have keep : ∀ b o, hp.get? b = some o → ((hp.push (PySem.W.kdv_tup us)).push (PySem.HandSPX.excO C hp.objs.size)).get? b = some o := fun b o z => Heap.get?_push_of_some _ (Heap.get?_push_of_some _ z)
  have hat : ((hp.push (PySem.W.kdv_tup us)).push (PySem.HandSPX.excO C hp.objs.size)).get? (hp.objs.size + 1) = some (PySem.HandSPX.excO C hp.objs.size) := by heap_get
  have J : Inv X pins σ (upd H (hp.objs.size + 1) (exo (hp.objs.size + 1) C none)) ⟨(hp.push (PySem.W.kdv_tup us)).push (PySem.HandSPX.excO C hp.objs.size), g, dr, tk0, os⟩ :=
    I.laid (t' := tk0) (a := hp.objs.size + 1) (o := exo (hp.objs.size + 1) C none) keep hsz (exo_ok hat)
  have rr : Vals (V.ref (hp.objs.size + 1) :: (vs ++ dvs)) (Value.ref (hp.objs.size + 1) :: (us ++ ds)) := .cons rfl (hv.append hd)
  -- the wish
  have sp : spEC C n (V.ref (hp.objs.size + 1) :: (vs ++ dvs)) (upd H (hp.objs.size + 1) (exo (hp.objs.size + 1) C none)) (fun u H2 => u = .non ∧ ∃ (d : Addr) (fs : List (Str × V)), H2 (hp.objs.size + 1) = some (exo (hp.objs.size + 1) C (some d)) ∧ H2 d = some (exd d fs) ∧ H d = none ∧ Q (.ref C) (some d) (upd (del H2 (hp.objs.size + 1)) d (.xd fs))) (fun _ _ _ => False) := by
    rw [he]
    refine ⟨_, v, rfl, upd_same, fun dx h1 h2 => ⟨rfl, dx, [(n, v)], upd_same, ?_, ?_, ?_⟩⟩
    · rw [upd_ne h2, upd_same]
    · rw [upd_ne h2] at h1; exact h1
    · have h1' : H dx = none := by rw [upd_ne h2] at h1; exact h1
      have e : upd (del (upd (upd (upd H (hp.objs.size + 1) (exo (hp.objs.size + 1) C none)) dx (exd dx [(n, v)])) (hp.objs.size + 1) (exo (hp.objs.size + 1) C (some dx))) (hp.objs.size + 1)) dx (.xd [(n, v)]) = upd H dx (.xd [(n, v)]) := by
        funext b
        by_cases hb : b = dx
        · rw [hb, upd_same, upd_same]
        · rw [upd_ne hb, upd_ne hb]
          by_cases hb2 : b = hp.objs.size + 1
          · rw [hb2, del_same, hn]
          · rw [del_ne hb2, upd_ne hb2, upd_ne hb, upd_ne hb2]
      rw [e]
      exact q dx h1'
  have hlen : (Value.ref (hp.objs.size + 1) :: us ++ ds).length = (["self", n] : List Str).length := by
    have z := rr.length
    rw [he] at z
    simpa using z.symm
  refine wpAny_call (PySem.HandSPX.call_own PySem.F.excBase_ValueError (fun Y => PySem.HandSPX.refsVE_contains Y bm hbm) (I.kIn _ _ hC) (PySem.W.looks_findIn I.kIn hi) (fun self => PySem.W.bind_fn I.kIn self ht) hus
    (codeAny_mono (hF.run _ X.stack _ _ ⟨Value.ref (hp.objs.size + 1) :: us, []⟩ (Value.ref (hp.objs.size + 1) :: (us ++ ds)) _ _ (fun _ _ _ => False) ((hr.mono hk).make C us []) (J.env0.make C us []) (hb _ (Value.ref (hp.objs.size + 1) :: us) J.kIn hlen) rr sp) fun r s' hq => ?_))
  cases r with
  | error er => exact tk _ _ (XE.of_call J (fun _ _ _ z => z.elim) hq)
  | ok f0 =>
    cases f0 with
    | ret u =>
      obtain ⟨u', H2, os2, ag2, un2, hok2, ru, eu, d, fs, ea, ed, hd1, q2⟩ := hq
      subst eu
      obtain ⟨h2, g2, d2, t2, os'⟩ := s'
      exact ⟨ru, mk_end (raises_own hT.exC hT.tyC) I hsz keep un2 hok2 os2 ag2 ea ed hd1 q2⟩
    | next => exact False.elim hq
    | brk => exact False.elim hq
    | cont => exact False.elim hq
variable {a : Expr} {fa : E}
theorem nil_rvs {K : PySem.W.Frag} {dvs : List V} (h : ∀ p H, RVs K p H [] dvs) : dvs = [] := by
  have := h [] (fun _ => none)
  simpa [RVs] using this
/-- raise C(e) -/
theorem r_raise (V : ErrAt X.prog X.w X.K X.mg X.base cm k c n dfls) (h0 : [] ∈ dfls) (hr : Rg j X.A) (hk : k + 1 ≤ j) (hc : X.calm = true) (tk : Takes X W) (ha : JE X cm W a fa) (hg : Gl X c := by rfl) (hdb : (c == ("__debug__" : Str)) = false := by decide)
    (hst : starEach [a] X.env = (false, eval a X.env) :: starEach [] X.env := by rfl) (hpl : (backTo pos (starEach [] X.env)).any (·.1) = false := by rfl) : JS X cm W (.Raise (some (.Call (.Name c p) [a] [] pos)) none rpos) (cRaise c n fa) := by
  obtain ⟨C, f, fd, hC, hm, hT, hF, hi, ht, hb⟩ := V.ex
  obtain ⟨ds, dvs, hv, hbd, hz⟩ := hb [] h0
  obtain rfl := nil_rvs hz
  have mk : PMk X (.Call (.Name c p) [a] [] pos) (fun σ H Q => tD X.K cm W fa σ H fun v H1 => ∀ dx, H1 dx = none → Q (.ref C) (some dx) (upd H1 dx (.xd [(n, v)]))) := by
    intro pins s σ H Q I h
    refine wpAny_Call_Name_kw (ld_glob I hg hm ?_ hdb)
    have ps : PA X [a] (tCons (tD X.K cm W fa) tNil) := pa_cons ha pa_nil hst
    refine PySem.W.callWith_K (h₀ := X.base) I.ok.mod.kin hT.kC (thn (ps.run pos pins s σ H (fun vs H1 => ∃ v, vs = [v] ∧ ∀ dx, H1 dx = none → Q (.ref C) (some dx) (upd H1 dx (.xd [(n, v)]))) I ?_) fun us s1 ⟨vs, H1, I1, r1, v, ev, q⟩ => ⟨I1.kIn, ?_⟩) hst hpl
    · obtain ⟨p, e, st, re, rs, q⟩ := h
      exact ⟨p, e, st, re, rs, q.imp fun v H1 q => ⟨v, rfl, q⟩⟩
    · exact mk_err hT hF hi ht hr hk tk hbd hv I1 r1 (by rw [ev]; rfl) q
  refine (ps_raise hc tk mk).imp ?_
  rintro D σ H ⟨p, e, s, re, rs, q⟩
  refine ⟨p, e, s, re, rs, (PoS.ex (rel := RV X.K) q re).imp ?_⟩
  rintro v H1 ⟨d, p1, s1, f1, rs1, r1, q⟩ dx hdx
  have sm := same_new (u := HO.xd [(n, v)]) hdx
  refine q p1 _ σ (.ref C) (some dx) (Fut.same sm) (rs1.same sm) ((re.mono f1).mono (Fut.same sm)) ⟨C, hC, rfl, [(n, v)], upd_same, ?_⟩
  simp only [RKs]
  exact ⟨v, [], rfl, r1.mono (Fut.same sm), rfl⟩
end
end Fc
namespace Fc
open PySem PySem.Spec PyProof.Rows L2
/-- the wish of the body: an error of c is caught, its object stands at y's slot -/
def wCat (K : PySem.W.Frag) (c : Value) (i j : Nat) (Wo : WX) (Dn : Ends) : WX := fun cls d σ H => ∃ b, PySem.W.exmOne K cls c = some b ∧
  (b = true → ∃ C, cls = .ref C ∧ ∀ a, H a = none → Dn.nx (((σ.set i (some (.ref a))).set j (some (.ref a))).set i none) (upd H a (ErrO a C d))) ∧ (b = false → Wo cls d σ H)
section
variable {X : Cx} {x n y : Str} {c : Value} {i j : Nat} {sts : List Stmt} {p1 p2 p3 p4 p5 p6 : Pos} {tb : WX → TS} {Wo : WX}
theorem tail_ok {Dn : Ends} {pins : List (Addr × Obj)} {pn' : List (Addr × Obj)} {xe : Value → Shared → Prop} (ok : X.Ok) {fl : Flow} {s1 : Shared} (h : SP (X.tr (X.pn ++ pins) xe) pn' Dn fl s1) : SP X pins Dn fl s1 := by
  cases fl with
  | next =>
    obtain ⟨σ1, H1, J, q⟩ := h
    exact ⟨σ1, H1, J.ofTry ok, q⟩
  | brk =>
    obtain ⟨σ1, H1, J, q⟩ := h
    exact ⟨σ1, H1, J.ofTry ok, q⟩
  | cont =>
    obtain ⟨σ1, H1, J, q⟩ := h
    exact ⟨σ1, H1, J.ofTry ok, q⟩
  | ret u =>
    obtain ⟨v, σ1, H1, J, r, q⟩ := h
    exact ⟨v, σ1, H1, J.ofTry ok, r, q⟩
theorem errO_ok {P : Program} {w : World} {H : Hp} {h : Heap} {a C : Addr} {dd : Option Addr} {oe : Obj} {vs : Array Value} (e : h.get? a = some oe) (z : Zc (.ref C) dd oe) (d : oe.data = .fields vs) : ObjOk P w H h a (ErrO a C dd) :=
  ⟨⟨oe, vs, e, z.1, z.2, d⟩, ⟨oe, e⟩, fun _ _ ⟨o, v, q, r⟩ k => ⟨o, v, k o q, r⟩⟩
/-- an object that nobody knew is tracked from now on -/
theorem adopt {pins : List (Addr × Obj)} {σ : L2.St} {H : Hp} {s : Shared} {a : Addr} {o : HO} {oe : Obj} {vs : Array Value} (U : Inv X pins σ H s) (h0 : X.s_0.heap.get? a = none) (ha : s.heap.get? a = some oe) (hd : oe.data = .fields vs) (na : H a = none) (nL : a ≠ X.env.locals) (np : ∀ q ∈ X.pn ++ pins, q.1 ≠ a)
    (new : ObjOk X.prog X.w (upd H a o) s.heap a o) : Inv X pins σ (upd H a o) s := by
  have nb : ∀ {b : Addr} {u : HO}, H b = some u → b ≠ a := fun {b u} e => ne_of_none e na
  refine ⟨U.ok, U.os, U.bare, ⟨U.base.keep, U.base.slot, fun b u e n hx => ?_, U.base.there, fun b xs e => ?_, fun b u v e => ?_, fun b ps e => ?_⟩, U.loc, U.cell, ?_, fun y c e => ?_, fun q hq => ?_, U.hok.laidN (fun _ _ z => z) na new, U.len⟩
  · have : b ≠ a := fun z => by rw [z, h0] at e; cases e
    rw [upd_ne this]
    exact U.base.free b u e n hx
  · have z := U.base.tups b xs e
    rw [upd_ne (nb z)]; exact z
  · have z := U.base.frzs b u v e
    rw [upd_ne (nb z)]; exact z
  · obtain ⟨more, z⟩ := U.base.tbls b ps e
    exact ⟨more, by rw [upd_ne (nb z)]; exact z⟩
  · rw [upd_ne (Ne.symm nL)]; exact U.free
  · have : c ≠ a := fun z => by
      subst z
      obtain ⟨v, ic⟩ := U.cell y c e
      obtain ⟨o1, e1, e2⟩ := ic
      rw [ha] at e1; cases e1
      rw [hd] at e2; cases e2
    rw [upd_ne this]
    exact U.freeC y c e
  · obtain ⟨z1, z2, z3, z4, z5⟩ := U.pin q hq
    exact ⟨z1, by rw [upd_ne (np q hq)]; exact z2, z3, z4, z5⟩
theorem ps_cat (hx0 : X.ex = []) (hs : X.stack = X.env :: X.outer) (hf : X.env.frame = some X.env.locals) (hN : X.N.Nodup) (hi : X.N[i]? = some n) (hln : X.env.kindOf n = some .local) (hj : X.N[j]? = some y) (hly : X.env.kindOf y = some .local) (hc : Names X x c) (tk : Takes X Wo)
    (hn1 : (n == ("__debug__" : Str)) = false) (hn2 : (n == ("__classdict__" : Str)) = false) (hfy : X.fn y = true ∨ X.env.scope.names.lookup y = some .local)
    (hb : ∀ (W : WX) (pn : List (Addr × Obj)) (xe : Value → Shared → Prop), Takes (X.tr pn xe) W → PassesOwn (model X.prog X.w) X.A X.env xe → PSs (X.tr pn xe) sts (tb W))
    (hsw : swapsWith (.Name n p4) (some (.Name y p5)) p3.line X.env = pure false) :
    PS X (.Try sts [.ExceptHandler (some (.Name x p1)) (some n) [.Assign [.Name y p5] (.Name n p4) p3] p2] [] [] p6) (fun Dn σ H => tb (wCat X.K c i j Wo Dn) Dn σ H) := by
  refine ⟨fun pins s σ H Dn I h => ?_⟩
  have ok := I.ok
  have frs0 : X.A.frames = some (X.env :: X.outer) := by rw [ok.frames, hs]
  refine wpAny_Try_except ?_
  have body := (hb (wCat X.K c i j Wo Dn) (X.pn ++ pins) (fun e z1 => wpAny (model X.prog X.w) X.A (noteFrame e X.env) (fun _ z2 => wpAny (model X.prog X.w) X.A (setFlight e none) (fun _ z3 =>
    wpAny (model X.prog X.w) X.A (handleBy e X.env [.ExceptHandler (some (.Name x p1)) (some n) [.Assign [.Name y p5] (.Name n p4) p3] p2]) (SP X pins Dn) X.xe z3) X.xe z2) X.xe z1) (fun u s1 xx => ?_) PassesOwn.looking).run [] s σ H Dn (I.toTry _) h
  · refine wpAny_mono body (fun fl s1 hsp => ?_) (fun _ _ z => z)
    have z := tail_ok ok hsp
    cases fl with
    | next => exact wpAny_execs_nil z
    | brk => exact z
    | cont => exact z
    | ret u => exact z
  · obtain ⟨a, B, sI, pins1, σ1, H1, cls, d, rfl, J0, nb, up, sky, na, os, ag, b, hb1, hyes, hno⟩ := xx
    have J : Inv X pins σ1 H1 sI := J0.ofTry ok
    have sky1 : Sky B (X.env :: X.outer) a (Zc cls d) X.env.locals s1.heap := by rw [← hs]; exact sky
    show wpAny _ _ (noteFrame _ _) _ _ _
    refine Sky.land Zc.steady frs0 hf sky1 fun hpB wB upB => ?_
    have JB : Inv X pins σ1 H1 { s1 with heap := hpB } := J.landed nb wB.1 (up.trans upB) os ag
    obtain ⟨oB, fsB, obB, zcB, dtB⟩ := wB.there
    have nofr : a ∉ frs (X.env :: X.outer) := fun hm => by
      obtain ⟨_, o1, e1, hnf⟩ := wB.2.2.1.mem hm
      rw [obB] at e1; cases e1
      exact hnf _ dtB
    have nL : a ≠ X.env.locals := fun z => nofr (List.mem_filterMap.mpr ⟨X.env, List.mem_cons_self, by rw [hf, z]⟩)
    have nfs : a ∉ X.fs := fun hm => by
      obtain ⟨e, he, q⟩ := List.mem_filterMap.mp hm
      exact nofr (List.mem_filterMap.mpr ⟨e, List.mem_cons_of_mem _ he, q⟩)
    have SB := JB.suite obB dtB na nL nfs
    refine wpAny_handleBy_cons (codeAny_handlers_test ?_)
      (fun z => by cases z)
    have lkT : PySem.W.Looks (model X.prog X.w) hpB (typeOf (.ref a)) cls := fun A Q E s k q => wpAny_typeOf_ref (k _ _ obB) (by rw [zcB.1]; exact q)
    have lkM := PySem.W.exm_one (M := model X.prog X.w) (JB.kIn) lkT hb1
    have test : ∀ {Q E : Value → Shared → Prop}, Q c { s1 with heap := hpB } → wpAny (model X.prog X.w) (X.A.mark (some (.ref a))) (eval (.Name x p1) X.env) Q E { s1 with heap := hpB } := fun {Q E} q => by
      obtain ⟨hg, hdb1, hm | ⟨hm, hv, hnm⟩⟩ := hc
      · exact ld_glob (X := X.suite a ((a, oB) :: (X.pn ++ pins))) SB hg hm q hdb1
      · exact ld_blt (X := X.suite a ((a, oB) :: (X.pn ++ pins))) SB hg hm hv q hnm hdb1
    refine test (lkM.here ?_)
    cases b with
    | true =>
      obtain ⟨C, rfl, hq⟩ := hyes rfl
      refine codeAny_handlers_suite_as ?_
      refine HandSPX.lands_againZ wB fun hpD wD upD => ?_
      have JD : Inv X pins σ1 H1 { s1 with heap := hpD } := J.landed nb wD.1 ((up.trans upB).trans upD) os ag
      obtain ⟨oD, fsD, obD, zcD, dtD⟩ := wD.there
      have SD := JD.suite obD dtD na nL nfs
      refine store_ok (X := X.suite a ((a, oD) :: (X.pn ++ pins))) (v := .ref a) SD hN hi (.inl hln) rfl (fun s5 S5 => ?_) (.inr hln)
      have hsuite : PSs (X.suite a ((a, oD) :: (X.pn ++ pins))) [.Assign [.Name y p5] (.Name n p4) p3] (tAsg (tVar i) (L2.gName j)) :=
        pss_one (ps_set hN hj (.inl hly) (pe_var (i := i) hi (.inl hln) hn1 hn2) hsw hfy)
      have hlen : i < σ1.length := by rw [J.len]; exact (List.getElem?_eq_some_iff.mp hi).1
      refine wpAny_mono (hsuite.run [] s5 _ H1 { nx := fun σ6 H6 => σ6 = (σ1.set i (some (.ref a))).set j (some (.ref a)) ∧ H6 = H1, rt := fun _ _ => False } S5 ⟨.ref a, by rw [List.getElem?_set_self hlen], ?_⟩) (fun fl s6 hsp => ?_) (fun _ _ z => False.elim z)
      · exact ⟨rfl, rfl⟩
      · cases fl with
        | next =>
          obtain ⟨σ6, H6, S6, rfl, rfl⟩ := hsp
          have pin := S6.pin (a, oD) (List.mem_append_left _ List.mem_cons_self)
          have U := S6.unsuite ok
          have i0 : sI.heap.get? a = none := by
            cases z : sI.heap.get? a with
            | none => rfl
            | some o1 =>
              have z1 := nb a o1 z (by rw [hs]; exact nofr)
              rw [wB.2.1] at z1
              cases z1
          have g0 : X.s_0.heap.get? a = none := by
            cases z : X.s_0.heap.get? a with
            | none => rfl
            | some o1 =>
              obtain ⟨o2, z1⟩ := J.base.there a o1 z (by rw [hx0]; simp)
              rw [i0] at z1
              cases z1
          have T := adopt (o := ErrO a C d) U g0 pin.1 dtD pin.2.1 nL (fun q hq z => by
            have z1 := (J.pin q hq).1
            rw [z, i0] at z1
            cases z1) (errO_ok pin.1 zcD dtD)
          exact gone_ok T hN hi hln fun s7 J7 => ⟨_, _, J7, hq a na⟩
        | brk =>
          obtain ⟨_, _, _, z⟩ := hsp
          exact False.elim z
        | cont =>
          obtain ⟨_, _, _, z⟩ := hsp
          exact False.elim z
        | ret u =>
          obtain ⟨_, _, _, _, _, z⟩ := hsp
          exact False.elim z
    | false =>
      show wpAny _ X.A (handleBy (.ref a) X.env []) _ _ _
      refine wpAny_handleBy_nil ?_
      obtain ⟨k1, k2, k3, oe, vs, T, oTr, ts', he, hz, hd, h1, hr⟩ := id wB
      unfold PySem.passOn
      refine wpAny_bind (wpAny_field he hd h1 ?_)
      have tn : ¬ ((Value.ref T == Value.none) = true) := by simp
      rw [if_neg tn]
      have last : wpAny (model X.prog X.w) X.A (setFlight (.ref a) X.env.frame) (fun _ s4 => wpAny (model X.prog X.w) X.A (throw (.ref a) : Sem Flow) (SP X pins Dn) X.xe s4) X.xe { s1 with heap := hpB } := by
        rw [hf]
        refine HandSPX.setFlight_upZ wB fun hpD wE2 upD => wpAny_throw (tk _ _ ?_)
        exact ⟨a, B, sI, pins, σ1, H1, cls, d, rfl, J, nb, (up.trans upB).trans upD, .inr (.inr (by rw [hs]; exact wE2)), na, os, ag, hno rfl⟩
      first
        | exact wpAny_bind (wpAny_pure (wpAny_bind last))
        | exact wpAny_bind last
end
end Fc
namespace Fc
open PySem PySem.Spec PyProof.Rows L2
/-- slots: i the clause's name, j the name that keeps the error -/
def cTryE (sub : List Str) (i j : Nat) (b : C) : C := fun σ s => match b σ s with
  | some (.xc c fs σ1 s1) => if sub.contains c then some (.nx (((σ1.set i (some (.ref s1.length))).set j (some (.ref s1.length))).set i none) (s1 ++ [.err c fs])) else some (.xc c fs σ1 s1)
  | r => r
/-- the class that a clause names: sub, the errors it takes -/
structure CatAt (K : PySem.W.Frag) (cm : CM) (mg : Str → Option Value) (x : Str) (sub : List Str) : Prop where
  ex : ∃ A, mg x = some (.ref A) ∧ ∀ c C, cm.err c = some C → PySem.W.exmOne K (.ref C) (.ref A) = some (sub.contains c)
section
variable {X : Cx} {cm : CM} {W : WX} {x n y : Str} {i j : Nat} {sts : List Stmt} {fb : C} {p1 p2 p3 p4 p5 p6 : Pos} {sub : List Str}
theorem r_tryE (T : CatAt X.K cm X.mg x sub) (hx0 : X.ex = []) (hs : X.stack = X.env :: X.outer) (hf : X.env.frame = some X.env.locals) (hN : X.N.Nodup) (tk : Takes X W)
    (hb : ∀ (W : WX) (pn : List (Addr × Obj)) (xe : Value → Shared → Prop), Takes (X.tr pn xe) W → PassesOwn (model X.prog X.w) X.A X.env xe → JSs (X.tr pn xe) cm W sts fb)
    (hi : X.N[i]? = some n := by rfl) (hln : X.env.kindOf n = some .local := by rfl) (hj : X.N[j]? = some y := by rfl) (hly : X.env.kindOf y = some .local := by rfl) (hfy : X.fn y = true ∨ X.env.scope.names.lookup y = some .local := by exact .inl rfl)
    (hg : Gl X x := by rfl) (hdx : (x == ("__debug__" : Str)) = false := by decide) (hn1 : (n == ("__debug__" : Str)) = false := by decide) (hn2 : (n == ("__classdict__" : Str)) = false := by decide)
    (hsw : swapsWith (.Name n p4) (some (.Name y p5)) p3.line X.env = pure false := by rfl) :
    JS X cm W (.Try sts [.ExceptHandler (some (.Name x p1)) (some n) [.Assign [.Name y p5] (.Name n p4) p3] p2] [] [] p6) (cTryE sub i j fb) := by
  obtain ⟨A, hA, hA2⟩ := T.ex
  refine (ps_cat (i := i) (j := j) (c := .ref A) (tb := fun W => tS X.K cm W fb) hx0 hs hf hN hi hln hj hly ⟨hg, hdx, .inl hA⟩ tk hn1 hn2 hfy hb hsw).imp ?_
  rintro Dn σ H ⟨p, e, s, re, rs, q⟩
  refine ⟨p, e, s, re, rs, ?_⟩
  unfold cTryE at q
  cases hr : fb e s with
  | none => rw [hr] at q; exact q.elim
  | some r =>
    rw [hr] at q
    cases r with
    | nx e1 s1 => exact q
    | rt d s1 => exact q
    | bk e1 s1 => exact q
    | ct e1 s1 => exact q
    | xc c fs e1 s1 =>
      intro p' H' σ' cls dd f rs' re' rx
      obtain ⟨C, hC, rfl, rk⟩ := id rx
      refine ⟨sub.contains c, hA2 c C hC, fun hb1 => ?_, fun hb1 => ?_⟩
      · dsimp only at q
        rw [if_pos hb1] at q
        refine ⟨C, rfl, fun a ha => ?_⟩
        have f2 : Fut p' H' (p' ++ [a]) (upd H' a (ErrO a C dd)) := Fut.new ha
        have ro : RO X.K cm (p' ++ [a]) (upd H' a (ErrO a C dd)) a (.err c fs) := ⟨C, dd, hC, upd_same, rk.mono f2⟩
        obtain ⟨rs2, e2⟩ := rs'.newO (u := ErrO a C dd) (o := .err c fs) ha ro
        have rv : RV X.K (p' ++ [a]) (upd H' a (ErrO a C dd)) (.ref s1.length) (.ref a) := mk_ref e2
        exact q _ _ _ (f.trans f2) rs2 ((((re'.mono f2).set i rv).set j rv).unset i)
      · dsimp only at q
        have hb2 : ¬ (sub.contains c = true) := by rw [hb1]; simp
        rw [if_neg hb2] at q
        exact q p' H' σ' (.ref C) dd f rs' re' rx
end
end Fc
namespace PySem.W
open PySem PySem.Spec PySem.Calls PyProof.Rows
section
variable {prog : Program} {w : World} {A : Around} {E : Value → Shared → Prop} {s : Shared} {K : Frag} {x D : Addr} {ox : Obj} {od : Option Obj}
theorem fc_findData {C : Addr} {nm : Str} {v gt : Value} (c1 : (clsIn K C).isSome = true) (c2 : findIn K (.ref C) nm = some (some v)) (c3 : specialIn K v "__get__" = some (some gt)) (c4 : takesIn K v = some true) : findObj K C od nm = some (.bind gt v) := by
  cases c5 : clsIn K C with
  | none => rw [c5] at c1; cases c1
  | some cd =>
    unfold findObj
    rw [c5, Option.bind_some, c2, Option.bind_some]
    simp [c3, c4]
theorem fc_classOf {Q : Option Value → Shared → Prop} (e : L2.ExcC K D) (KI : K.In s.heap) (I : InstAt s.heap x ox D od) (h : Q (some (.ref D)) { s with toks := s.toks + 1 }) : wpAny (model prog w) A (getAttr? (.ref x) "__class__") Q E s := by
  have fnd : findObj K D od "__class__" = some (.bind (.builtin "getset_descriptor.__get__") (.builtin "object.__class__")) :=
    fc_findData (by obtain ⟨cd, z, _⟩ := any_some e.hd; rw [z]; rfl) e.ha e.hn e.ht
  obtain ⟨hp, gn, dw, tk, os⟩ := s
  have T0 := I.type (M := model prog w)
  have T1 := looks_findIn (M := model prog w) KI e.hg
  have T2 := looks_findIn (M := model prog w) KI e.hk
  have T3 := looks_find (M := model prog w) KI I fnd
  have isB : Looks (model prog w) hp (isInstance (.ref x) (.type "BaseException")) true := T0.andThen (looks_subIn KI e.hs)
  have n0 : (false && onTheHeap (Value.builtin "BaseException.__getattribute__")) = false := rfl
  have n1 : (onTheHeap (Value.ref D) && Value.builtin "BaseException.__getattribute__" == Value.builtin "object.__getattribute__") = false := by
    have z : (Value.builtin "BaseException.__getattribute__" == Value.builtin "object.__getattribute__") = false := by
      decide +kernel
    rw [z]; rfl
  unfold getAttr? getAttrBy?
  unfold getAttrBy
  refine wpAny_bind (wpAny_mkText (wpAny_bind (wpAny_attempt (wpAny_holding (wpAny_bind (T0.at (wpAny_bind (T1.at ?_))))))))
  show wpAny _ _ (if (onTheHeap (Value.ref D) && _) = true then _ else _) _ _ _
  rw [n1, if_neg Bool.false_ne_true]
  unfold getAttrByItsOwn hookBefore
  refine wpAny_bind ?_
  rw [if_pos (show onTheHeap (Value.ref D) = true from rfl)]
  refine T2.at ?_
  refine wpAny_bind (wpAny_attempt (wpAny_holding ?_))
  unfold callGetattribute
  rw [n0, if_neg Bool.false_ne_true]
  unfold boundAndCalled
  rw [PySem.F.excAttr_ValueError.ga.bind (.ref x)]
  refine wpAny_bind (wpAny_pure ?_)
  show wpAny _ _ (call (.builtin "BaseException.__getattribute__") [.ref x, .str "__class__" tk]) _ _ _
  refine wpAny_call (codeAny_call_builtin PySem.F.excAttr_ValueError.ga.plain PySem.F.entry_bexc_ga ?_)
  refine @check_slot (model prog w) _ _ ⟨hp, gn, dw, tk + 1, os⟩ "BaseException.__getattribute__" "BaseException" "__getattribute__" (.ref x) [.str "__class__" tk] [] _ (by decide +kernel) (by decide +kernel) isB (PySem.F.args_bexc_ga (.ref x) (.str "__class__" tk)) ?_
  unfold Builtin.«object.__getattribute__»
  refine wpAny_bind (wpAny_of_eq (a := ((Value.ref x : Value), [Value.str "__class__" tk])) (by first | rfl | (simp only [slotArgs]; rfl)) ?_)
  refine wpAny_bind (wpAny_pure (wpAny_bind (T0.at (wpAny_bind (T3.at ?_)))))
  show wpAny _ _ (holding [_] (call (.builtin "getset_descriptor.__get__") [.builtin "object.__class__", .ref x, .ref D]) >>= ret) _ _ _
  refine wpAny_bind (wpAny_holding (wpAny_call (class_get (s := ⟨hp, gn, dw, tk + 1, os⟩) (ox := ox) (od := od) KI I e.hm ?_)))
  refine wpAny_pure ?_
  show wpAny _ _ (handedOut (.ref D)) _ _ _
  rw [handedOut_of (v := .ref D) rfl]
  first
    | exact wpAny_pure (wpAny_pure h)
    | exact wpAny_pure h
    | exact wpAny_pure (wpAny_bind (wpAny_pure (wpAny_pure h)))
theorem fc_kitx (e : L2.ExcC K D) : KitX K (.ref x) (.ref D) (fun h => InstAt h x ox D od) where
  ty := fun _ _ _ I => I.type
  it := fun _ _ KI _ => by
    obtain ⟨cd, z, _⟩ := any_some e.hd
    unfold clsIn at z
    split at z
    · rename_i c1 d1 cd1 sl1 ho
      intro A1 Q1 E1 s1 k q
      unfold isType loadHead
      exact wpAny_bind (wpAny_loadPart (k _ _ (KI _ _ ho)) (wpAny_pure q))
    · cases z
  ne := fun h tp dd its n sl KI htp => by
    obtain ⟨cd, z, _⟩ := any_some e.hd
    refine Bool.eq_false_iff.mpr fun q => ?_
    have e2 : D = tp := Value.ref.inj (beq_iff_eq.mp q)
    subst e2
    unfold clsIn at z
    split at z
    · rename_i c1 d1 cd1 sl1 ho
      have y := (KI _ _ ho).symm.trans htp
      cases y
    · cases z
  ca := fun KI I k => fc_classOf e KI I k
end
end PySem.W
namespace Fc
open PySem PySem.Spec PyProof.Rows L2
/-- isinstance by an own class: sub, the classes of instances and of errors that it takes -/
def oIsJ (sub : List Str) : D → M D := fun x s => match x with
  | .ref n => match s[n]? with
    | some (.ins c _) => some (.ok (.bl (sub.contains c)) s)
    | some (.err c _) => some (.ok (.bl (sub.contains c)) s)
    | some (.lst _) => some (.ok (.bl false) s)
    | some (.dK _) => some (.ok (.bl false) s)
    | some (.dT _) => some (.ok (.bl false) s)
    | _ => none
  | .rol _ => none
  | _ => some (.ok (.bl false) s)
def rIsEr (K : PySem.W.Frag) : List V → Hp → VK → Prop := fun xs H Q => ∃ (a C : Addr) (dd : Option Addr) (cv : V) (u : Value) (b : Bool), xs = [.ref a, cv] ∧ (∀ z, RelV cv z → z = u) ∧ H a = some (ErrO a C dd) ∧ (∀ x, dd = some x → ∃ gs, H x = some (.xd gs)) ∧ ExcC K C ∧ PySem.W.kitOne K (.ref C) u = some b ∧ Q (.bl b) H
section
variable {X : Cx} {cm : CM} {W : WX}
/-- a tracked error, as the library sees an instance -/
theorem err_inst {pins : List (Addr × Obj)} {σ : L2.St} {H : Hp} {s : Shared} {a C : Addr} {dd : Option Addr} (I : Inv X pins σ H s) (ha : H a = some (ErrO a C dd)) (hd : ∀ x, dd = some x → ∃ gs, H x = some (.xd gs)) : ∃ oe od, PySem.W.InstAt s.heap a oe C od := by
  have h1 : ObjOk X.prog X.w H s.heap a (ErrO a C dd) := I.hok a _ ha
  obtain ⟨⟨oe, vs, e1, e2, e3, e4⟩, _⟩ := h1
  cases dd with
  | none => exact ⟨oe, none, e1, e2, by unfold PySem.W.notCls; rw [e4], by rw [e3]; trivial⟩
  | some dd =>
    obtain ⟨gs, hd⟩ := hd dd rfl
    have h2 : ObjOk X.prog X.w H s.heap dd (.xd gs) := I.hok dd _ hd
    obtain ⟨mA, hns, _⟩ := h2
    obtain ⟨od, ho, _⟩ := lookIn_ns hns
    exact ⟨oe, some od, e1, e2, by unfold PySem.W.notCls; rw [e4], by rw [e3]; exact ho⟩
theorem call_isEr : CallR X (.builtin "isinstance") (fun xs H Q => rIsi X.K xs H Q ∨ rIsEr X.K xs H Q) := by
  intro pins s σ H xs us Q I r h
  rcases h with h | ⟨a, C, dd, cv, u, b, rfl, hcv, ha, hd, ec, e, q⟩
  · exact call_isi pins s σ H xs us Q I r h
  · obtain ⟨u1, u2, rfl, ra, rc⟩ := vals2 r
    obtain rfl : u1 = Value.ref a := ra
    obtain rfl := hcv _ rc
    obtain ⟨oe, od, J⟩ := err_inst I ha hd
    exact PySem.W.kia_one (PySem.W.fc_kitx ec) I.kIn J e (fun z => by cases z) fun tk => ⟨.bl b, H, I.tok tk, rfl, q⟩
structure IsCJ (K : PySem.W.Frag) (cm : CM) (mg : Str → Option Value) (x : Str) (sub : List Str) : Prop where
  ex : ∃ A, mg x = some (.ref A) ∧ (∀ t ∈ plainTys, PySem.W.kitOne K (.type t) (.ref A) = some false) ∧ (∀ c C, cm.ins c = some C → C8.InsC K C ∧ PySem.W.kitOne K (.ref C) (.ref A) = some (sub.contains c)) ∧
    ∀ c C, cm.err c = some C → ExcC K C ∧ PySem.W.kitOne K (.ref C) (.ref A) = some (sub.contains c)
variable {a : Expr} {fa : E} {pos : Pos}
theorem r_isJ {x : Str} {sub : List Str} {p1 p2 : Pos} (T : IsCJ X.K cm X.mg x sub) (he : JE X cm W a fa) (hm : X.mg "isinstance" = none) (hg : Gl X "isinstance" := by rfl) (hgx : Gl X x := by rfl) (hdb : (x == ("__debug__" : Str)) = false := by decide)
    (he1 : starEach [a, .Name x p2] X.env = (false, eval a X.env) :: starEach [.Name x p2] X.env := by rfl) (he2 : starEach [.Name x p2] X.env = (false, eval (.Name x p2) X.env) :: starEach [] X.env := by rfl) (hpl : (backTo pos (starEach [.Name x p2] X.env)).any (·.1) = false := by rfl) :
    JE X cm W (.Call (.Name "isinstance" p1) [a, .Name x p2] [] pos) (e1 (oIsJ sub) fa) := by
  obtain ⟨A, hA, hp, hi, hr⟩ := T.ex
  refine (pe_callB call_isEr hg hm (by decide +kernel) (pa_cons he (pa_cons (pe_glob (v := .ref A) hgx hA rfl hdb) pa_nil he2) he1) (he := he1) (hpl := hpl)).imp fun σ H Q q => ?_
  obtain ⟨p, e, s, re, rs, q⟩ := tD.bnd q
  refine ⟨p, e, s, re, rs, q.imp ?_⟩
  rintro v H1 ⟨p, e, s, d, re, rs, r1, q⟩
  have base : ∀ (T : String), T ∈ plainTys → TyX X.K H1 v (.type T) → Po X.K cm W (RV X.K) p σ H1 (some (.ok (.bl false) s)) Q → rIsi X.K [v, .ref A] H1 Q := fun T hT h1 q =>
    ⟨v, .ref A, .type T, .ref A, false, rfl, .own A, h1, hp T hT, Po.ok q rs (mk_bl _)⟩
  unfold oIsJ at q
  cases d with
  | non => cases rv_non r1; exact .inl (base "NoneType" (by simp [plainTys]) (.base .non) q)
  | bl b => cases rv_bl r1; exact .inl (base "bool" (by simp [plainTys]) (.base (.bl _)) q)
  | int b => cases rv_int r1; exact .inl (base "int" (by simp [plainTys]) (.base (.int _)) q)
  | str b => cases rv_str r1; exact .inl (base "str" (by simp [plainTys]) (.base (.str _)) q)
  | tup b =>
    obtain ⟨t, vs, rfl, h1, rr⟩ := rv_tup r1
    exact .inl (base "tuple" (by simp [plainTys]) (.base (.tup h1)) q)
  | rol b => exact q.elim
  | ref n =>
    simp only at q
    cases hn : s[n]? with
    | none => rw [hn] at q; exact q.elim
    | some o =>
      rw [hn] at q
      simp only [RV] at r1
      obtain ⟨t, ht, rfl⟩ := r1
      obtain ⟨t', ht', ro⟩ := rs.at hn
      rw [ht] at ht'; cases ht'
      cases o with
      | lst ds =>
        obtain ⟨u, h1, vs, rfl, _⟩ := ro
        exact .inl (base "list" (by simp [plainTys]) (.base (.lst h1)) q)
      | dK ds =>
        obtain ⟨u, h1, vs, rfl, _⟩ := ro
        exact .inl (base "dict" (by simp [plainTys]) (.base (.dK h1)) q)
      | dT ds =>
        obtain ⟨u, h1, vs, rfl, _⟩ := ro
        exact .inl (base "dict" (by simp [plainTys]) (.base (.dT h1)) q)
      | ins c fs =>
        obtain ⟨u, h1, C, dx, gs, hC, rfl, _⟩ := ro
        obtain ⟨ic, k⟩ := hi c C hC
        exact .inl ⟨.ref t, .ref A, .ref C, .ref A, sub.contains c, rfl, .own A, .base (.ins h1 ic.cl ic.ha ic.hn ic.htk ic.hm), k, Po.ok q rs (mk_bl _)⟩
      | err c fs =>
        obtain ⟨C, dd, hC, h1, h2⟩ := ro
        obtain ⟨ec, k⟩ := hr c C hC
        exact .inr ⟨t, C, dd, .ref A, .ref A, sub.contains c, rfl, fun z rz => rz, h1, fun x hx => by subst hx; obtain ⟨gs, h3, _⟩ := h2; exact ⟨gs, h3⟩, ec, k, Po.ok q rs (mk_bl _)⟩
      | lck o => exact q.elim
      | dN o => exact q.elim
end
end Fc
namespace Fc
open PySem PySem.Spec PyProof.Rows L2
def keyP : L2.Key → PyData
  | .inl i => .int i
  | .inr x => .str x
mutual
/-- data read out to depth n: lists, tuples, dicts with plain keys -/
def datR (s : S) : Nat → D → Option PyData
  | _, .non => some .none
  | _, .bl b => some (.bool b)
  | _, .int i => some (.int i)
  | _, .str x => some (.str x)
  | 0, .tup _ => none
  | 0, .ref _ => none
  | _, .rol _ => none
  | n + 1, .tup ds => (datRs s n ds).map .tuple
  | n + 1, .ref a => match s[a]? with
    | some (.lst ds) => (datRs s n ds).map .list
    | some (.dK kvs) => (datRs s n (kvs.map (·.2))).map fun xs => .dict ((kvs.map fun kv => keyP kv.1).zip xs)
    | _ => none
def datRs (s : S) : Nat → List D → Option (List PyData)
  | _, [] => some []
  | n, d :: r => match datR s n d, datRs s n r with
    | some x, some xs => some (x :: xs)
    | _, _ => none
end
/-- the module table is a dict of the written part -/
def SysOk (K : PySem.W.Frag) : Prop := ∃ o, K.lookup sysModules = some o ∧ o.cls = .type "dict"
theorem sys_ne {X : Cx} {pins : List (Addr × Obj)} {σ : L2.St} {H : Hp} {s : Shared} (I : Inv X pins σ H s) (so : SysOk X.K) {a : Addr} {o : Obj} {c : String} (h : s.heap.get? a = some o) (hc : o.cls = .type c) (hn : c ≠ "dict") : a ≠ sysModules := fun z => by
  subst z
  obtain ⟨o2, k1, k2⟩ := so
  have e := I.kIn _ _ k1
  rw [h] at e
  cases e
  rw [hc] at k2
  cases k2
  exact hn rfl
theorem zip_fst {α β : Type} : ∀ {l : List α} {m : List β}, l.length = m.length → (l.zip m).map (·.1) = l
  | [], [], _ => rfl
  | a :: l, b :: m, h => by
    rw [List.zip_cons_cons, List.map_cons, zip_fst (by simpa using h)]
theorem zip_snd {α β : Type} : ∀ {l : List α} {m : List β}, l.length = m.length → (l.zip m).map (·.2) = m
  | [], [], _ => rfl
  | a :: l, b :: m, h => by
    rw [List.zip_cons_cons, List.map_cons, zip_snd (by simpa using h)]
theorem datRs_len {s : S} {n : Nat} : ∀ {ds : List D} {xs : List PyData}, datRs s n ds = some xs → ds.length = xs.length
  | [], xs, h => by cases n <;> (simp only [datRs] at h; cases h; rfl)
  | d :: ds, xs, h => by
    simp only [datRs] at h
    split at h
    · rename_i x ys h1 h2
      cases h
      simp [datRs_len h2]
    · cases h
theorem rks_vals {K : PySem.W.Frag} {κ : Type} {p : List Addr} {H : Hp} : ∀ {kvs : List (κ × D)} {ws : List (κ × V)}, RKs K p H kvs ws → RVs K p H (kvs.map (·.2)) (ws.map (·.2)) ∧ kvs.map (·.1) = ws.map (·.1)
  | [], ws, h => by simp only [RKs] at h; subst h; simp [RVs]
  | d :: kvs, ws, h => by
    simp only [RKs] at h
    obtain ⟨v, r, rfl, h1, h2⟩ := h
    obtain ⟨h3, h4⟩ := rks_vals h2
    refine ⟨?_, by simp [h4]⟩
    simp only [List.map_cons, RVs]
    exact ⟨v, _, rfl, h1, h3⟩
/-- the keys of a dict's entries, read -/
theorem keys_read {P : Program} {w : World} {h : Heap} : ∀ {es : List DictEntry} {vs : List (L2.Key × Value)}, Pairs (L2.mixKind P w) es vs → ReadsAll h (es.map (·.key)) (vs.map fun kv => keyP kv.1) []
  | _, _, .nil => ReadsAll.nil
  | _, _, .cons (e := e) (kv := kv) h1 _ r => by
    have hr := keys_read (h := h) r
    obtain ⟨k, v⟩ := kv
    have : Reads h e.key (keyP k) [] := by
      rcases keyIs_shape h1 with ⟨i, t, e1, e2⟩ | ⟨x, t, e1, e2⟩
      · dsimp only at e1
        rw [e1, e2]
        exact Reads.int i t
      · dsimp only at e1
        rw [e1, e2]
        exact Reads.str x t
    exact ReadsAll.cons (as := []) (bs := []) this hr
theorem vals_same {P : Program} {w : World} : ∀ {es : List DictEntry} {vs : List (L2.Key × Value)}, Pairs (L2.mixKind P w) es vs → es.map (·.val) = vs.map (·.2)
  | _, _, .nil => rfl
  | _, _, .cons _ h2 r => by
    rw [List.map_cons, List.map_cons, h2, vals_same r]
theorem kv_vals : ∀ {ws : List (L2.Key × V)} {vs : List (L2.Key × Value)}, KV ws vs → Vals (ws.map (·.2)) (vs.map (·.2)) ∧ ws.map (·.1) = vs.map (·.1)
  | _, _, .nil => ⟨.nil, rfl⟩
  | _, _, .cons h r => by
    obtain ⟨h1, h2⟩ := kv_vals r
    exact ⟨.cons h.2 h1, by rw [List.map_cons, List.map_cons, h.1, h2]⟩
section
variable {X : Cx} {cm : CM} {pins : List (Addr × Obj)} {σ : L2.St} {H : Hp} {sh : Shared} {p : List Addr} {s : S}
mutual
theorem datR_reads (I : Inv X pins σ H sh) (rs : RS X.K cm p s H) (so : SysOk X.K) : ∀ (n : Nat) (d : D) {v : V} {u : Value} {x : PyData}, RV X.K p H d v → RelV v u → datR s n d = some x → ∃ as, Reads sh.heap u x as ∧ sysModules ∉ as
  | n, .non, v, u, x, r, ru, e => by
    cases n <;> (simp only [datR] at e; cases e; cases rv_non r; cases ru; exact ⟨_, Reads.none, by simp⟩)
  | n, .bl b, v, u, x, r, ru, e => by
    cases n <;> (simp only [datR] at e; cases e; cases rv_bl r; cases ru; exact ⟨_, Reads.bool b, by simp⟩)
  | n, .int b, v, u, x, r, ru, e => by
    cases n <;> (simp only [datR] at e; cases e; cases rv_int r; obtain ⟨t, rfl⟩ := ru; exact ⟨_, Reads.int b t, by simp⟩)
  | n, .str b, v, u, x, r, ru, e => by
    cases n <;> (simp only [datR] at e; cases e; cases rv_str r; obtain ⟨t, rfl⟩ := ru; exact ⟨_, Reads.str b t, by simp⟩)
  | n, .rol b, v, u, x, r, ru, e => by
    cases n <;> (simp only [datR] at e; cases e)
  | 0, .tup ds, v, u, x, r, ru, e => by simp only [datR] at e; cases e
  | 0, .ref a, v, u, x, r, ru, e => by simp only [datR] at e; cases e
  | n + 1, .tup ds, v, u, x, r, ru, e => by
    simp only [datR, Option.map_eq_some_iff] at e
    obtain ⟨xs, e, rfl⟩ := e
    obtain ⟨a, vs, rfl, h, q⟩ := rv_tup r
    cases ru
    obtain ⟨its, rv, ⟨o, ho, hc, m, hd⟩, _⟩ := I.tuple (SqT.of h)
    obtain ⟨as, hr, hn⟩ := datRs_reads I rs so n ds q rv e
    exact ⟨_, Reads.tuple ho hc hd hr, hn⟩
  | n + 1, .ref a, v, u, x, r, ru, e => by
    simp only [datR] at e
    cases h : s[a]? with
    | none => rw [h] at e; cases e
    | some o =>
      rw [h] at e
      cases o with
      | lst ds =>
        obtain ⟨xs, e1, rfl⟩ := Option.map_eq_some_iff.mp e
        obtain ⟨b, vs, rfl, _, hb, q⟩ := lst_at rs r h
        cases ru
        obtain ⟨its, rv, ⟨o, m, ho, hc, _, hd⟩, _⟩ := I.list (SqL.of hb)
        obtain ⟨as, hr, hn⟩ := datRs_reads I rs so n ds q rv e1
        refine ⟨_, Reads.list ho hc hd hr, fun z => ?_⟩
        rcases List.mem_cons.mp z with z | z
        · exact sys_ne I so ho hc (by decide) z.symm
        · exact hn z
      | dK kvs =>
        obtain ⟨xs, e1, rfl⟩ := Option.map_eq_some_iff.mp e
        simp only [RV] at r
        obtain ⟨t, ht, rfl⟩ := r
        obtain ⟨t', ht', ob, h1, ws, rfl, rk⟩ := rs.at h
        rw [ht] at ht'; cases ht'
        cases ru
        obtain ⟨_, hsys, vs, rel, o, es, ep, ho, hx, hd, _, hp, _⟩ := dk_of I.hok h1
        obtain ⟨k1, k2⟩ := rks_vals rk
        obtain ⟨k3, k4⟩ := kv_vals rel
        obtain ⟨as, hr, hn⟩ := datRs_reads I rs so n _ k1 k3 e1
        have hl : (kvs.map fun kv => keyP kv.1).length = xs.length := by
          have := datRs_len e1
          simpa using this
        have hk : (kvs.map fun kv => keyP kv.1) = vs.map fun kv => keyP kv.1 := by
          have z : (kvs.map (·.1)).map keyP = (vs.map (·.1)).map keyP := by rw [k2, k4]
          simpa [List.map_map, Function.comp_def] using z
        have a1 : ReadsAll sh.heap (es.toList.map (·.key)) (((kvs.map fun kv => keyP kv.1).zip xs).map (·.1)) [] := by
          rw [zip_fst hl, hk]
          exact keys_read hp
        have a2 : ReadsAll sh.heap (es.toList.map (·.val)) (((kvs.map fun kv => keyP kv.1).zip xs).map (·.2)) as := by
          rw [zip_snd hl, vals_same hp]
          exact hr
        refine ⟨_, Reads.dict ho hx.1 hd a1 a2, fun z => ?_⟩
        have z : sysModules ∈ t :: [] ++ as := z
        rcases List.mem_cons.mp z with z | z
        · rw [← z] at hsys
          simp at hsys
        · exact hn z
      | _ => cases e
theorem datRs_reads (I : Inv X pins σ H sh) (rs : RS X.K cm p s H) (so : SysOk X.K) : ∀ (n : Nat) (ds : List D) {vs : List V} {us : List Value} {xs : List PyData}, RVs X.K p H ds vs → Vals vs us → datRs s n ds = some xs → ∃ as, ReadsAll sh.heap us xs as ∧ sysModules ∉ as
  | n, [], vs, us, xs, r, ru, e => by
    simp only [RVs] at r
    subst r
    cases ru
    cases n <;> (simp only [datRs] at e; cases e; exact ⟨_, ReadsAll.nil, by simp⟩)
  | n, d :: ds, vs, us, xs, r, ru, e => by
    simp only [RVs] at r
    obtain ⟨v, r', rfl, r1, r2⟩ := r
    cases ru with
    | cons ra rb =>
      simp only [datRs] at e
      split at e
      · rename_i x xs' e1 e2
        cases e
        obtain ⟨as, h1, n1⟩ := datR_reads I rs so n d r1 ra e1
        obtain ⟨bs, h2, n2⟩ := datRs_reads I rs so n ds r2 rb e2
        exact ⟨_, ReadsAll.cons h1 h2, by simp [n1, n2]⟩
      · cases e
end
end
end Fc
namespace Fc
open PySem PySem.Spec PyProof.Rows L2
theorem keyP_depth (k : L2.Key) : (keyP k).depth = 0 := by
  cases k <;> simp [keyP, PyData.depth]
theorem zip_depth {n : Nat} : ∀ {ks : List L2.Key} {xs : List PyData}, PyData.depthAll xs ≤ n → PyData.depthKv ((ks.map keyP).zip xs) ≤ n
  | [], xs, _ => by simp [PyData.depthKv]
  | k :: ks, [], _ => by simp [PyData.depthKv]
  | k :: ks, x :: xs, h => by
    simp only [PyData.depthAll] at h
    have := zip_depth (n := n) (ks := ks) (xs := xs) (by omega)
    simp only [List.map_cons, List.zip_cons_cons, PyData.depthKv, keyP_depth]
    omega
mutual
theorem datR_depth (s : S) : ∀ (n : Nat) (d : D) {x : PyData}, datR s n d = some x → x.depth ≤ n
  | n, .non, x, h => by cases n <;> (simp only [datR] at h; cases h; simp [PyData.depth])
  | n, .bl b, x, h => by cases n <;> (simp only [datR] at h; cases h; simp [PyData.depth])
  | n, .int b, x, h => by cases n <;> (simp only [datR] at h; cases h; simp [PyData.depth])
  | n, .str b, x, h => by cases n <;> (simp only [datR] at h; cases h; simp [PyData.depth])
  | n, .rol b, x, h => by cases n <;> (simp only [datR] at h; cases h)
  | 0, .tup b, x, h => by simp only [datR] at h; cases h
  | 0, .ref b, x, h => by simp only [datR] at h; cases h
  | n + 1, .tup ds, x, h => by
    simp only [datR, Option.map_eq_some_iff] at h
    obtain ⟨xs, h, rfl⟩ := h
    have := datRs_depth s n ds h
    simp only [PyData.depth]
    omega
  | n + 1, .ref a, x, h => by
    simp only [datR] at h
    cases ha : s[a]? with
    | none => rw [ha] at h; cases h
    | some o =>
      rw [ha] at h
      cases o with
      | lst ds =>
        obtain ⟨xs, h', rfl⟩ := Option.map_eq_some_iff.mp h
        have := datRs_depth s n ds h'
        simp only [PyData.depth]
        omega
      | dK kvs =>
        obtain ⟨xs, h', rfl⟩ := Option.map_eq_some_iff.mp h
        have z := datRs_depth s n _ h'
        have := zip_depth (ks := kvs.map (·.1)) z
        simp only [PyData.depth]
        simp only [List.map_map, Function.comp_def] at this
        omega
      | _ => cases h
theorem datRs_depth (s : S) : ∀ (n : Nat) (ds : List D) {xs : List PyData}, datRs s n ds = some xs → PyData.depthAll xs ≤ n
  | n, [], xs, h => by cases n <;> (simp only [datRs] at h; cases h; simp [PyData.depthAll])
  | n, d :: ds, xs, h => by
    simp only [datRs] at h
    split at h
    · rename_i x xs' e1 e2
      cases h
      have h1 := datR_depth s n d e1
      have h2 := datRs_depth s n ds e2
      simp only [PyData.depthAll]
      omega
    · cases h
end
/-- repr(x), dicts may stand in x -/
def fReprR : List D → M D := fun xs s => match xs with
  | [d] => match datR s 60 d with
    | some x => if x.showable && sz x.shown.length then some (.ok (.str x.shown) s) else none
    | none => none
  | _ => none
section
variable {X : Cx} {cm : CM} {W : WX}
theorem s_reprR {k : Nat} (hr : Rg k X.A) (so : SysOk X.K) : SN X cm (.builtin "repr") fReprR := by
  refine ⟨fun vs H Q => ∃ W p s σ ds, RS X.K cm p s H ∧ RVs X.K p H ds vs ∧ Po X.K cm W (RV X.K) p σ H (fReprR ds s) Q, ?_, fun W p s σ H vs ds Q rs r q => ⟨W, p, s, σ, ds, rs, r, q⟩⟩
  rintro pins s σ H vs us Q I ru ⟨W, p, st, σ', ds, rs, rv, q⟩
  unfold fReprR at q
  split at q
  · rename_i d
    split at q
    · rename_i x hx
      split at q
      · rename_i hok
        obtain ⟨v, rfl, rx⟩ := one_rv rv
        cases ru with
        | cons r1 rn =>
          rename_i u us'
          cases rn
          rw [Bool.and_eq_true] at hok
          have hz := sz_ok hok.2
          have hs := hok.1
          have dp := datR_depth st 60 d hx
          have hu := hr.room.units
          obtain ⟨as, rd, hsm⟩ := datR_reads I rs so 60 d rx r1 hx
          have fin : ∀ tk, EP X pins σ Q (.str x.shown tk) { s with toks := s.toks + 1 } := fun tk => ⟨.str x.shown, H, I.tok _, ⟨tk, rfl⟩, Po.ok q rs (mk_str _)⟩
          have hq' : ∀ h' u tk, (∀ b o, s.heap.get? b = some o → h'.get? b = some o) → EP X pins σ Q (.str x.shown u) { s with heap := h', toks := tk } := fun h' u tk k => ⟨.str x.shown, H, I.kept k, ⟨u, rfl⟩, Po.ok q rs (mk_str _)⟩
          cases rd with
          | none =>
            simp only [PyData.shown] at fin hz
            exact PySem.P.repr_of_none (fin _)
          | bool b =>
            simp only [PyData.shown] at fin hz
            exact PySem.P.repr_of_bool (fin _)
          | int i t =>
            simp only [PyData.shown] at fin hz
            exact PySem.P.repr_of_int (by simpa [PyData.showable] using hs) (fin _)
          | str y t =>
            simp only [PyData.shown] at fin hz
            exact PySem.P.repr_of_str (fin _) hz
          | list h1 h2 h3 h4 => exact repr_of_reads' (Reads.list h1 h2 h3 h4) hs (fun _ => hsm) hr.gd (by omega) (fun _ _ e => e) hq' hz
          | tuple h1 h2 h3 h4 => exact repr_of_reads' (Reads.tuple h1 h2 h3 h4) hs (fun _ => hsm) hr.gd (by omega) (fun _ _ e => e) hq' hz
          | dict h1 h2 h3 h4 h5 => exact repr_of_reads' (Reads.dict h1 h2 h3 h4 h5) hs (fun _ => hsm) hr.gd (by omega) (fun _ _ e => e) hq' hz
      · exact q.elim
    · exact q.elim
  · exact q.elim
end
end Fc
namespace Fc
open PySem PySem.Spec PyProof.Rows L2
/-- == of two texts -/
def oEqS : D → D → M D := fun x y s => match x, y with
  | .str a, .str b => some (.ok (.bl (decide (a = b))) s)
  | _, _ => none
def oNeS : D → D → M D := fun x y s => match x, y with
  | .str a, .str b => some (.ok (.bl (!decide (a = b))) s)
  | _, _ => none
section
variable {X : Cx} {cm : CM}
end
end Fc
namespace Fc
open PySem PySem.Spec PyProof.Rows L2
/-- C(e), kept -/
def eErr (c n : Str) (a : E) : E := fun σ => bnd (a σ) fun v => new (.err c [(n, v)])
section
variable {X : Cx} {cm : CM} {W : WX} {k j : Nat} {c n : Str} {dfl : List D} {dfls : List (List D)} {p pos : Pos} {a : Expr} {fa : E}
end
end Fc
namespace Fc
open PySem PySem.Spec PyProof.Rows L2
/-- one error class of the text, its __init__ -/
structure EDef where
  c : Str
  n : Str
  name : Str
  qual : Str
  params : Arguments
  body : List Stmt
  sc : Scope
abbrev EW : Type := Option (Str × Str × Arguments × FuncBody × Scope × Addr × List Str × Addr)
def eAdr (K : PySem.W.Frag) (c : Str) : Addr := He.ma K (He.ga K c) "__init__"
def ew (K : PySem.W.Frag) (c : Str) : EW := match K.lookup (eAdr K c) with
  | some ⟨_, _, .func fd, _⟩ => some (fd.name, fd.qualname, fd.params, fd.body, fd.scope, fd.globals, fd.closure.map (·.1), fd.builtins)
  | _ => none
def EDef.val (d : EDef) : EW := some (d.name, d.qual, d.params, .stmts d.body, d.sc, mainGlobals, ["__class__"], builtinsNs)
def oexB (K : PySem.W.Frag) (C : Addr) : Bool := match K.lookup C with
  | some ⟨.type t, _, .cls cd, sl⟩ => (match cd.mro, sl.toList with
    | .ref C' :: bm, [_, _, _, _, some (.builtin i), _] => decide (t = "type") && (decide (C' = C) && (decide (i = "ValueError.__new__") && (!cd.hasDel && (cd.hasDict && PySem.HandSPX.refsVE bm))))
    | _, _ => false)
  | _ => false
theorem oexB_ok {K : PySem.W.Frag} {C : Addr} (h : oexB K C = true) : ∃ nm q N bs bm sn sub ab col dd k0 k1 k2 k3 k5, K.lookup C = some (excClassObj nm q C N bs bm true sn sub ab col dd k0 k1 k2 k3 k5 "ValueError.__new__") ∧ PySem.HandSPX.refsVE bm = true := by
  unfold oexB at h
  split at h
  · rename_i t dd cd sl ho
    split at h
    · rename_i C' bm k0 k1 k2 k3 i k5 hm hs
      obtain ⟨a1, h⟩ := He.ba h
      obtain ⟨a2, h⟩ := He.ba h
      obtain ⟨a3, h⟩ := He.ba h
      obtain ⟨a4, h⟩ := He.ba h
      obtain ⟨a5, a6⟩ := He.ba h
      obtain rfl := of_decide_eq_true a1
      obtain rfl := of_decide_eq_true a2
      obtain rfl := of_decide_eq_true a3
      obtain ⟨nm, bs, mro, ns, qn, hd, sn, sub, ab, col, del⟩ := cd
      have a4 : del = false := by cases del <;> simp_all
      have a5 : hd = true := a5
      have hm : mro = .ref C' :: bm := hm
      subst a4 a5 hm
      have hsl : sl = #[k0, k1, k2, k3, some (.builtin "ValueError.__new__"), k5] := by
        obtain ⟨l⟩ := sl
        have hs : l = _ := hs
        rw [hs]
      rw [hsl] at ho
      exact ⟨nm, qn, ns, bs, bm, sn, sub, ab, col, dd, k0, k1, k2, k3, k5, ho, a6⟩
    · cases h
  · cases h
def fileB (mf : Str) (K : PySem.W.Frag) (a : Addr) : Bool := match K.lookup a with
  | some ⟨_, _, .fields vs, _⟩ => (match (vs[2]? : Option Value) with
    | some (Value.str file _) => mf == file
    | _ => false)
  | _ => false
def cellB (K : PySem.W.Frag) (cc C : Addr) : Bool := match K.lookup cc with
  | some ⟨_, _, .cell (some (.ref D)), _⟩ => decide (D = C)
  | _ => false
def funB (mf : Str) (K : PySem.W.Frag) (c q : Str) : Bool := match K.lookup (eAdr K c) with
  | some ⟨_, _, .func fd, _⟩ => (match fd.code, fd.closure with
    | .ref cda, [(_, cc)] => PySem.W.codeIn K (.ref cda) q && (fileB mf K cda && (cellB K cc (He.ga K c) && He.dflB K fd.defaults [.non]))
    | _, _ => false)
  | _ => false
/-- all that is asked of the error class c -/
def errB (mf : Str) (K : PySem.W.Frag) (d : EDef) : Bool :=
  (He.Fa.glo d.c).ok K && (oexB K (He.ga K d.c) && (He.eqO (PySem.W.findIn K (.ref (He.ga K d.c)) "__setattr__") (some (some (.builtin "object.__setattr__"))) &&
  (decide (PySem.W.subIn K (.ref (He.ga K d.c)) (.type "BaseException") = some true) && (decide (PySem.W.typeIn K (.ref (He.ga K d.c)) = some (.type "type")) && (PySem.W.keepIn K (.ref (He.ga K d.c)) &&
  (funB mf K d.c d.qual && (decide (PySem.W.mroIn K (He.ga K d.c) (.ref (He.ga K d.c)) = some true) && (He.eqO (PySem.W.ks_superIn K (He.ga K d.c) (He.ga K d.c) "__init__") (some (some (.builtin "ValueError.__init__"))) &&
  (decide (PySem.W.subIn K (.ref (He.ga K d.c)) (.type "ValueError") = some true) && (He.eqO (PySem.W.nsIn K cStatics "thirdparty.any") (some none) && (He.eqO (PySem.W.findIn K (.ref (He.ga K d.c)) d.n) (some none) &&
  (He.eqO (PySem.W.findIn K (.ref (He.ga K d.c)) "__init__") (some (some (.ref (eAdr K d.c)))) && (decide (PySem.W.typeIn K (.ref (eAdr K d.c)) = some (.type "function")) && xfB K (He.ga K d.c))))))))))))))
theorem errB_ok {P : Program} {mf : Str} {K : PySem.W.Frag} {mg : Str → Option Value} {d : EDef} (e : ew K d.c = d.val) (h : errB mf K d = true) (hmf : P.main.file = mf) (top : (P.main.scope.names.lookup ("super" : Str)).isSome = false) (ms : mg "super" = none) (sc : EScope d.n d.sc) (hp : ∃ ar, (d.params.posonlyargs ++ d.params.args).head? = some ar ∧ ar.arg = ("self" : Str)) :
    ∃ cda cc fd, ErrK P K mg d.n d.qual d.sc d.body (He.ga K d.c) (eAdr K d.c) cda cc fd ∧ PySem.W.findIn K (.ref (He.ga K d.c)) "__init__" = some (some (.ref (eAdr K d.c))) ∧ PySem.W.typeIn K (.ref (eAdr K d.c)) = some (.type "function") ∧ XfC K (He.ga K d.c) ∧ (He.Fa.glo d.c).ok K = true ∧
      ∃ dV kV doc pm an ct, fd = PySem.W.ksFn d.name d.qual d.params d.body d.sc dV kV doc pm an (.ref cda) ct cc ∧ DflV K dV [.non] := by
  unfold errB at h
  obtain ⟨a1, h⟩ := He.ba h
  obtain ⟨a2, h⟩ := He.ba h
  obtain ⟨a3, h⟩ := He.ba h
  obtain ⟨a4, h⟩ := He.ba h
  obtain ⟨a5, h⟩ := He.ba h
  obtain ⟨a6, h⟩ := He.ba h
  obtain ⟨a7, h⟩ := He.ba h
  obtain ⟨a8, h⟩ := He.ba h
  obtain ⟨a9, h⟩ := He.ba h
  obtain ⟨b1, h⟩ := He.ba h
  obtain ⟨b2, h⟩ := He.ba h
  obtain ⟨b3, h⟩ := He.ba h
  obtain ⟨b4, h⟩ := He.ba h
  obtain ⟨b5, b6⟩ := He.ba h
  unfold funB at a7
  unfold ew at e
  split at a7
  · rename_i oc od fd osl ho
    rw [ho] at e
    split at a7
    · rename_i cda nm cc h1 h2
      obtain ⟨c1, c2⟩ := He.ba a7
      obtain ⟨c3, cz⟩ := He.ba c2
      obtain ⟨c4, c5⟩ := He.ba cz
      obtain ⟨n1, n2, n3, n4, n5, n6, n7, n8, n9, n10, n11, n12, n13, n14, n15⟩ := fd
      have e2 : (some (n1, n2, n3, n4, n5, n6, n7.map (·.1), n15) : EW) = some (d.name, d.qual, d.params, FuncBody.stmts d.body, d.sc, mainGlobals, [("__class__" : Str)], builtinsNs) := e
      have h1 : n13 = .ref cda := h1
      have h2 : n7 = [(nm, cc)] := h2
      subst h1 h2
      simp only [Option.some.injEq, Prod.mk.injEq, List.map_cons, List.map_nil, List.cons.injEq, and_true] at e2
      obtain ⟨r1, r2, r3, r4, r5, r6, r7, r8⟩ := e2
      subst r6 r8 r7
      refine ⟨cda, cc, PySem.W.ksFn d.name d.qual d.params d.body d.sc n8 n9 n10 n11 n12 (.ref cda) n14 cc, ⟨⟨_, _, n8, n9, n10, n11, n12, n14, rfl, hp⟩, ⟨oc, od, osl, ?_⟩, c1, ?_, ?_, ⟨oexB_ok a2, He.eqO_ok a3, of_decide_eq_true a4, of_decide_eq_true a5, a6⟩, of_decide_eq_true a8, He.eqO_ok a9, of_decide_eq_true b1, He.eqO_ok b2, ms, top, He.eqO_ok b3, sc⟩, He.eqO_ok b4, of_decide_eq_true b5, xfB_ok b6, a1, n8, n9, n10, n11, n12, n14, rfl, He.dflB_ok c5⟩
      · rw [ho, r1, r2, r3, r4, r5]
      · unfold fileB at c3
        split at c3
        · rename_i x1 x2 vs x3 hk
          split at c3
          · rename_i file tf hv
            exact ⟨_, _, vs, _, file, tf, hk, hv, by rw [hmf]; exact c3⟩
          · cases c3
        · cases c3
      · unfold cellB at c4
        split at c4
        · rename_i x1 x2 D x3 hk
          obtain rfl := of_decide_eq_true c4
          exact ⟨_, _, _, hk⟩
        · cases c4
    · cases a7
  · cases a7
end Fc
namespace Fc
open PySem PySem.Spec PyProof.Rows L2
/-- classes of instances and of errors, by their names in the module -/
def cm2 (K : PySem.W.Frag) (cs es : List Str) (wd : World) : CM := ⟨(cmOf K cs).ins, fun c => if c ∈ es then some (He.ga K c) else none, some wd⟩
variable {wd : World}
theorem cm2_err {K : PySem.W.Frag} {cs es : List Str} {c : Str} {C : Addr} (h : (cm2 K cs es wd).err c = some C) : c ∈ es ∧ C = He.ga K c := by
  unfold cm2 at h
  dsimp only at h
  split at h
  · rename_i hc
    cases h
    exact ⟨hc, rfl⟩
  · cases h
theorem cm2_at {K : PySem.W.Frag} {cs es : List Str} {c : Str} (h : c ∈ es) : (cm2 K cs es wd).err c = some (He.ga K c) := if_pos h
def excCB (K : PySem.W.Frag) (D : Addr) : Bool :=
  He.eqO (PySem.W.findIn K (.ref D) "__getattribute__") (some (some (.builtin "BaseException.__getattribute__"))) && (He.eqO (PySem.W.findIn K (.ref D) "__getattr__") (some none) &&
  (decide (PySem.W.subIn K (.ref D) (.type "BaseException") = some true) && (PySem.W.hasDictIn K D && (He.eqO (PySem.W.findIn K (.ref D) "__class__") (some (some (.builtin "object.__class__"))) &&
  (He.eqO (PySem.W.specialIn K (.builtin "object.__class__") "__get__") (some (some (.builtin "getset_descriptor.__get__"))) && (decide (PySem.W.takesIn K (.builtin "object.__class__") = some true) && decide (PySem.W.mroIn K D (.type "object") = some true)))))))
theorem excCB_ok {K : PySem.W.Frag} {D : Addr} (h : excCB K D = true) : ExcC K D := by
  unfold excCB at h
  obtain ⟨a1, h⟩ := He.ba h
  obtain ⟨a2, h⟩ := He.ba h
  obtain ⟨a3, h⟩ := He.ba h
  obtain ⟨a4, h⟩ := He.ba h
  obtain ⟨a5, h⟩ := He.ba h
  obtain ⟨a6, h⟩ := He.ba h
  obtain ⟨a7, a8⟩ := He.ba h
  exact ⟨He.eqO_ok a1, He.eqO_ok a2, of_decide_eq_true a3, a4, He.eqO_ok a5, He.eqO_ok a6, of_decide_eq_true a7, of_decide_eq_true a8⟩
/-- what is asked of the errors es: isx, the classes of isinstance; cat, those of except clauses; flds, the fields -/
def ex2B (es : List Str) (isx cat : List (Str × List Str)) (flds : List Str) (K : PySem.W.Frag) : Bool :=
  (es.all fun c => excCB K (He.ga K c) && (xfB K (He.ga K c) && flds.all fun f => He.eqO (PySem.W.findIn K (.ref (He.ga K c)) f) (some none))) &&
  ((isx.all fun x => (He.Fa.glo x.1).ok K && es.all fun c => pairB K (He.ga K c) (He.ga K x.1) (x.2.contains c)) &&
  (cat.all fun x => (He.Fa.glo x.1).ok K && es.all fun c => decide (PySem.W.exmOne K (.ref (He.ga K c)) (.ref (He.ga K x.1)) = some (x.2.contains c))))
section
variable {K : PySem.W.Frag} {cs es : List Str} {isx cat : List (Str × List Str)} {flds : List Str} {h : Heap} {mg : Str → Option Value}
structure Ex2Ok (es : List Str) (isx cat : List (Str × List Str)) (flds : List Str) (K : PySem.W.Frag) : Prop where
  ok : ex2B es isx cat flds K = true
theorem Ex2Ok.c1 (e : Ex2Ok es isx cat flds K) {c : Str} (hc : c ∈ es) : ExcC K (He.ga K c) ∧ XfC K (He.ga K c) ∧ ∀ f ∈ flds, PySem.W.findIn K (.ref (He.ga K c)) f = some none := by
  obtain ⟨h1, _⟩ := He.ba e.ok
  have h2 := List.all_eq_true.mp h1 c hc
  obtain ⟨a1, h2⟩ := He.ba h2
  obtain ⟨a2, a3⟩ := He.ba h2
  exact ⟨excCB_ok a1, xfB_ok a2, fun f hf => He.eqO_ok (List.all_eq_true.mp a3 f hf)⟩
theorem fld2 (e : Ex2Ok es isx cat flds K) {f : Str} (hf : f ∈ flds) (T : FldOk K (cmOf K cs) f) : FldOk K (cm2 K cs es wd) f :=
  ⟨T.ins, fun c C hC => by
    obtain ⟨hc, rfl⟩ := cm2_err hC
    obtain ⟨_, a, b⟩ := e.c1 hc
    exact ⟨a, b f hf⟩⟩
theorem is2 (e : Ex2Ok es isx cat flds K) (X : K.In h) (G : h.Ns mainGlobals mg) {x : Str} {sub : List Str} (hx : (x, sub) ∈ isx) (T : IsCF K (cmOf K cs) mg x sub) : IsCJ K (cm2 K cs es wd) mg x sub := by
  obtain ⟨_, h1⟩ := He.ba e.ok
  obtain ⟨h1, _⟩ := He.ba h1
  have h2 := List.all_eq_true.mp h1 _ hx
  obtain ⟨a1, a2⟩ := He.ba h2
  obtain ⟨A, hA, hp, hi⟩ := T.ex
  have hg := He.glo_ok X G a1
  rw [hA] at hg
  cases hg
  refine ⟨_, hA, hp, hi, fun c C hC => ?_⟩
  obtain ⟨hc, rfl⟩ := cm2_err hC
  exact ⟨(e.c1 hc).1, of_decide_eq_true (List.all_eq_true.mp a2 c hc)⟩
theorem cat2 (e : Ex2Ok es isx cat flds K) (X : K.In h) (G : h.Ns mainGlobals mg) {x : Str} {sub : List Str} (hx : (x, sub) ∈ cat) : CatAt K (cm2 K cs es wd) mg x sub := by
  obtain ⟨_, h1⟩ := He.ba e.ok
  obtain ⟨_, h1⟩ := He.ba h1
  have h2 := List.all_eq_true.mp h1 _ hx
  obtain ⟨a1, a2⟩ := He.ba h2
  refine ⟨_, He.glo_ok X G a1, fun c C hC => ?_⟩
  obtain ⟨hc, rfl⟩ := cm2_err hC
  exact of_decide_eq_true (List.all_eq_true.mp a2 c hc)
end
section
variable {K : PySem.W.Frag} {cs : List Str} {isx : List (Str × List Str)} {eqs flds : List Str} {ms : List (Str × Str)} {h : Heap} {mg : Str → Option Value} {P : Program} {w : World} {base : Heap} {k : Nat} {fd : FuncData} {ps : List Str} {np nn : Nat} {b : C} {dfls : List (List D)} {cm : CM} {n : Nat} {ks : List Str} {ix : List Nat}
end
section
variable {K : PySem.W.Frag} {cm : CM} {h : Heap} {mg : Str → Option Value} {P : Program} {w : World} {base : Heap} {k : Nat} {n qual : Str} {sc : Scope} {p0 p1 pa pn pc pe q1 q2 q3 q4 : Pos}
/-- the arguments written, the rest by the defaults -/
theorem bindE {name qual : Str} {params : Arguments} {body : List Stmt} {sc : Scope} {cda cc : Addr} {dV kV doc pm ct : Value} {an : Option Addr} {ps : List Str} {dvs : List V} {dl : List D} (m j : Nat) (hD : DflV K dV dvs) (hne : dvs ≠ []) (hm : m + (dvs.length - j) = ps.length) (hdl : ∀ p H, RVs K p H dl (dvs.drop j))
    (hb : ∀ (T : Addr) (us its : List Value), us.length = m → its.length = dvs.length → ∃ k, bindArgs (PySem.W.ksFn name qual params body sc (.ref T) kV doc pm an (.ref cda) ct cc) ⟨us, []⟩ = seqItems? (.ref T) >>= k ∧ k (some its.toArray) = pure (ps.zip (us ++ its.drop j))) :
    BindD K (PySem.W.ksFn name qual params body sc dV kV doc pm an (.ref cda) ct cc) ps dl := by
  rcases hD with ⟨z, _⟩ | ⟨_, T, o, its, q, rfl, lT, oT, rT⟩
  · exact absurd z hne
  · refine ⟨its.drop j, dvs.drop j, rT.drop j, fun s us KI hl => ?_, hdl⟩
    have li : its.length = dvs.length := rT.length.symm
    have lu : us.length = m := by
      have z : us.length + (its.drop j).length = ps.length := by rw [← List.length_append]; exact hl
      rw [List.length_drop, li] at z
      omega
    obtain ⟨k, z1, z2⟩ := hb T us its lu li
    refine BindsTo.of_looks fun M => ?_
    rw [z1]
    exact looks_items KI lT oT (.of_pure z2)
theorem errAt_of {mf : Str} {d : EDef} (X : K.In h) (G : h.Ns mainGlobals mg) (hcm : cm.err d.c = some (He.ga K d.c)) (hd : d.body = eBody d.n p0 p1 pa pn pc pe q1 q2 q3 q4) (e : ew K d.c = d.val) (he : errB mf K d = true) (hmf : P.main.file = mf) (top : (P.main.scope.names.lookup ("super" : Str)).isSome = false) (ms : mg "super" = none) (sc : EScope d.n d.sc)
    (hp : ∃ ar, (d.params.posonlyargs ++ d.params.args).head? = some ar ∧ ar.arg = ("self" : Str)) (t : EText d.n d.qual d.sc p0 p1 pa pn pc pe q1 q2 q3 q4)
    (hb : ∀ (kV doc pm ct : Value) (an : Option Addr) (cda cc T : Addr) (us its : List Value), us.length = 2 → its.length = 1 → ∃ k, bindArgs (PySem.W.ksFn d.name d.qual d.params d.body d.sc (.ref T) kV doc pm an (.ref cda) ct cc) ⟨us, []⟩ = seqItems? (.ref T) >>= k ∧ k (some its.toArray) = pure ((["self", d.n] : List Str).zip (us ++ its.drop 1))) :
    ErrAt P w K mg base cm (k + 1) d.c d.n [[]] := by
  obtain ⟨cda, cc, fd, ek, hi, ht, _, hg, dV, kV, doc, pm, an, ct, rfl, hD⟩ := errB_ok e he hmf top ms sc hp
  have F : FnG P w K mg base (k + 1) (eAdr K d.c) _ ["self", d.n] (spEC (He.ga K d.c) d.n) := err_fn (by rw [← hd]; exact ek) t
  exact ⟨_, _, _, hcm, He.glo_ok X G hg, ek.T, F, hi, ht, all_one (bindE 2 1 hD (by simp) rfl (fun p H => by simp [RVs]) fun T us its h1 h2 => hb kV doc pm ct an cda cc T us its h1 h2)⟩
end
abbrev AlE : Type := (He.AlD × Bool) × List EW
def parE (n : Nat) (g : Addr → Option Obj) : PySem.W.Frag := He.frG g (sysModules :: cStatics :: He.asD g n)
def obsE (n : Nat) (fa : List He.Fa) (fn : List He.DefD) (es : List EDef) (ex : PySem.W.Frag → Bool) (g : Addr → Option Obj) : AlE := ((He.obsD fa fn (parE n g), ex (parE n g)), es.map fun d => ew (parE n g) d.c)
def hookE (n : Nat) (fa : List He.Fa) (fn : List He.DefD) (es : List EDef) (ex : PySem.W.Frag → Bool) : PySem.W.Hook where
  α := AlE
  obs := fun s => obsE n fa fn es ex s.heap.get?
  val := fun _ => ((He.valD fn, true), es.map EDef.val)
  says := fun _ h => ∃ K : PySem.W.Frag, K.In h ∧ He.SaysD fa fn K ∧ ex K = true ∧ (es.map fun d => ew K d.c) = es.map EDef.val
  of := fun _ _ e => ⟨_, He.frG_in, congrArg (fun z : AlE => z.1.1) e, congrArg (fun z : AlE => z.1.2) e, congrArg (fun z : AlE => z.2) e⟩
  keeps := fun _ _ _ ⟨K, hK, c⟩ k => ⟨K, PySem.W.Frag.In.keeps hK k, c⟩
theorem obsE_eq {n : Nat} {fa : List He.Fa} {fn : List He.DefD} {es : List EDef} {ex : PySem.W.Frag → Bool} {g : Addr → Option Obj} {s : Shared} (h : ∀ a, g a = s.heap.get? a) : obsE n fa fn es ex g = (hookE n fa fn es ex).obs s := by
  have e : g = s.heap.get? := funext h
  rw [e] <;> rfl
def sysB (K : PySem.W.Frag) : Bool := match K.lookup sysModules with
  | some ⟨.type c, _, _, _⟩ => decide (c = "dict")
  | _ => false
theorem sysB_ok {K : PySem.W.Frag} (h : sysB K = true) : SysOk K := by
  unfold sysB at h
  split at h
  · rename_i c d dt sl ho
    exact ⟨_, ho, by rw [of_decide_eq_true h]⟩
  · cases h
theorem ew_at {K : PySem.W.Frag} {es : List EDef} (h : (es.map fun d => ew K d.c) = es.map EDef.val) {d : EDef} (hd : d ∈ es) : ew K d.c = d.val := by
  obtain ⟨i, hi, rfl⟩ := List.mem_iff_getElem.mp hd
  have z : (es.map fun d => ew K d.c)[i]? = (es.map EDef.val)[i]? := by rw [h]
  simpa [List.getElem?_map, List.getElem?_eq_getElem hi] using z
end Fc
namespace Fc
open PySem
theorem ew_ix {K : PySem.W.Frag} {es : List EDef} (h : (es.map fun d => ew K d.c) = es.map EDef.val) (i : Nat) {d : EDef} (hd : es[i]? = some d := by rfl) : ew K d.c = d.val := ew_at h (List.mem_of_getElem? hd)
theorem all_ix {α : Type} {p : α → Bool} {l : List α} (h : l.all p = true) (i : Nat) {d : α} (hd : l[i]? = some d := by rfl) : p d = true := List.all_eq_true.mp h d (List.mem_of_getElem? hd)
end Fc
namespace Fc
open PySem PySem.Spec PyProof.Rows L2
def pairsD : List D → Option (List (L2.Key × D))
  | [] => some []
  | .tup [k, v] :: r => match keyOf k, pairsD r with
    | some k, some ps => some ((k, v) :: ps)
    | _, _ => none
  | _ :: _ => none
def mergeD (a : List (L2.Key × D)) : List (L2.Key × D) → List (L2.Key × D)
  | [] => a
  | (k, v) :: r => mergeD (kput a k v) r
/-- dict(xs), xs a list of pairs -/
def fDictP : List D → M D := fun xs s => match xs with
  | [.ref n] => match lstAt s n with
    | some ds => match pairsD ds with
      | some kvs => new (.dK (mergeD [] kvs)) s
      | none => none
    | none => none
  | _ => none
section
variable {X : Cx} {cm : CM} {W : WX} {p : List Addr} {H : Hp} {s : S}
end
end Fc
namespace Fc
open PySem PySem.Spec PyProof.Rows L2
def txtKeys : List (L2.Key × D) → Option (List Str)
  | [] => some []
  | (.inr x, _) :: r => (txtKeys r).map (x :: ·)
  | (.inl _, _) :: _ => none
/-- the one sorted arrangement, where there is one alone -/
def SortU (ks ys : List Str) : Prop := ys.Perm ks ∧ sortedS ys = true ∧ ∀ zs : List Str, zs.Perm ks → sortedS zs = true → zs = ys
open Classical in
noncomputable def sortTxt (ks : List Str) : Option (List Str) := if h : ∃ ys, SortU ks ys then some (choose h) else none
noncomputable def fSortedD : List D → M D := fun xs s => match xs with
  | [.ref n] => match s[n]? with
    | some (.dK kvs) => match txtKeys kvs with
      | some ks => if ks.length < 64 then match sortTxt ks with
          | some ys => new (.lst (ys.map .str)) s
          | none => none
        else none
      | none => none
    | _ => none
  | _ => none
end Fc
namespace Fc
open PySem PySem.Spec PyProof.Rows L2
section
variable {K : PySem.W.Frag} {P : Program} {w : World} {H : Hp} {h : Heap} {p : List Addr}
theorem RN.length : ∀ {kvs : List (D × D)} {xs : List (NestedKey × Addr × Value)}, RN K p H kvs xs → kvs.length = xs.length
  | [], xs, r => by simp only [RN] at r; subst r; rfl
  | kv :: kvs, xs, r => by
    simp only [RN] at r
    obtain ⟨k, b, v, u, ys, rfl, e1, r1, r2, r3, r4⟩ := r
    simp [RN.length r4]
/-- what stands at a key -/
def kgetN (kvs : List (D × D)) (k : NestedKey) : Option D := (kvs.find? fun kv => decide (nkT kv.1 = some k)).map (·.2)
def kputN (kvs : List (D × D)) (k : NestedKey) (y v : D) : List (D × D) :=
  if (kvs.any fun kv => decide (nkT kv.1 = some k)) = true then kvs.map fun kv => if nkT kv.1 = some k then (kv.1, v) else kv else kvs ++ [(y, v)]
theorem RN.get (k : NestedKey) : ∀ {kvs : List (D × D)} {xs : List (NestedKey × Addr × Value)}, RN K p H kvs xs →
    (∀ d, kgetN kvs k = some d → ∃ b v u, atKey xs k = some (b, u) ∧ RV K p H d v ∧ RelV v u) ∧ (kgetN kvs k = none → atKey xs k = none)
  | [], xs, r => by
    simp only [RN] at r; subst r
    exact ⟨fun d e => by simp [kgetN] at e, fun _ => rfl⟩
  | kv :: kvs, xs, r => by
    simp only [RN] at r
    obtain ⟨k', b, v, u, ys, rfl, e1, r1, r2, r3, r4⟩ := r
    have ih := RN.get k r4
    by_cases hk : k' = k
    · subst hk
      refine ⟨fun d e => ?_, fun e => ?_⟩
      · simp [kgetN, e1] at e; subst e
        exact ⟨b, v, u, by simp [atKey], r2, r3⟩
      · simp [kgetN, e1] at e
    · have n1 : ¬ (nkT kv.1 = some k) := fun z => by rw [e1] at z; cases z; exact hk rfl
      refine ⟨fun d e => ?_, fun e => ?_⟩
      · have e' : kgetN kvs k = some d := by simpa [kgetN, List.find?_cons, n1] using e
        obtain ⟨b', v', u', q1, q2⟩ := ih.1 d e'
        exact ⟨b', v', u', by simpa [atKey, List.find?_cons, hk] using q1, q2⟩
      · have e' : kgetN kvs k = none := by simpa [kgetN, List.find?_cons, n1] using e
        simpa [atKey, List.find?_cons, hk] using ih.2 e'
theorem RN.snoc {b : Addr} {v : V} {u : Value} {k : NestedKey} {y d : D} (hy : nkT y = some k) (ry : RV K p H y (.ref b)) (rv : RV K p H d v) (ru : RelV v u) : ∀ {kvs : List (D × D)} {xs : List (NestedKey × Addr × Value)}, RN K p H kvs xs → RN K p H (kvs ++ [(y, d)]) (xs ++ [(k, b, u)])
  | [], xs, r => by
    simp only [RN] at r; subst r
    simp only [List.nil_append, RN]
    exact ⟨k, b, v, u, [], rfl, hy, ry, rv, ru, rfl⟩
  | kv :: kvs, xs, r => by
    simp only [RN] at r
    obtain ⟨k', b', v', u', ys, rfl, e1, r1, r2, r3, r4⟩ := r
    simp only [List.cons_append, RN]
    exact ⟨k', b', v', u', _, rfl, e1, r1, r2, r3, RN.snoc hy ry rv ru r4⟩
theorem RN.repl {v : V} {u : Value} {k : NestedKey} {d : D} (rv : RV K p H d v) (ru : RelV v u) : ∀ {kvs : List (D × D)} {xs : List (NestedKey × Addr × Value)}, RN K p H kvs xs → RN K p H (kvs.map fun kv => if nkT kv.1 = some k then (kv.1, d) else kv) (xs.map (putAt k u))
  | [], xs, r => by
    simp only [RN] at r; subst r
    simp only [List.map_nil, RN]
  | kv :: kvs, xs, r => by
    simp only [RN] at r
    obtain ⟨k', b', v', u', ys, rfl, e1, r1, r2, r3, r4⟩ := r
    have ih := RN.repl (k := k) rv ru r4
    rw [List.map_cons, List.map_cons]
    by_cases hk : k' = k
    · subst hk
      rw [if_pos e1]
      simp only [RN]
      exact ⟨k', b', v, u, _, by rw [putAt, if_pos rfl], e1, r1, rv, ru, ih⟩
    · have n1 : ¬ (nkT kv.1 = some k) := fun z => by rw [e1] at z; cases z; exact hk rfl
      rw [if_neg n1]
      simp only [RN]
      exact ⟨k', b', v', u', _, by rw [putAt, if_neg hk], e1, r1, r2, r3, ih⟩
theorem RN.put {b : Addr} {v : V} {u : Value} {k : NestedKey} {y d : D} (hy : nkT y = some k) (ry : RV K p H y (.ref b)) (rv : RV K p H d v) (ru : RelV v u) {kvs : List (D × D)} {xs : List (NestedKey × Addr × Value)} (r : RN K p H kvs xs) : RN K p H (kputN kvs k y d) (storedH xs k b u) := by
  have g := RN.get k r
  have key : kgetN kvs k = none ↔ (kvs.any fun kv => decide (nkT kv.1 = some k)) = false := by
    unfold kgetN
    rw [Option.map_eq_none_iff, List.find?_eq_none, List.any_eq_false]
  unfold kputN
  cases e : kgetN kvs k with
  | none =>
    rw [key.mp e, if_neg (by simp), storedH_new (g.2 e)]
    exact RN.snoc hy ry rv ru r
  | some d' =>
    obtain ⟨b', v', u', q, _⟩ := g.1 d' e
    have : (kvs.any fun kv => decide (nkT kv.1 = some k)) = true := by
      cases z : kvs.any fun kv => decide (nkT kv.1 = some k) with
      | true => rfl
      | false => rw [key.mpr z] at e; cases e
    rw [this, if_pos rfl, storedH_old q]
    exact RN.repl rv ru r
end
end Fc
namespace Fc
open PySem PySem.Spec PyProof.Rows L2
variable {cm : CM} {W : WX}
def ndAt (s : S) (n : Nat) : Option (List (D × D)) := match s[n]? with
  | some (.dN kvs) => some kvs
  | some (.lck (.dN kvs)) => some kvs
  | _ => none
/-- what the dict holds at a key -/
def ndGet (s : S) (x y : D) : Option (Option D) := match x with
  | .ref n => match ndAt s n with
    | some kvs => (nkT y).map fun k => kgetN kvs k
    | none => none
  | _ => none
def oAtN : D → D → M D := pur2 fun s x y => (ndGet s x y).bind id
def oInN : D → D → M D := pur2 fun s y x => (ndGet s x y).map fun o => .bl o.isSome
def oNotInN : D → D → M D := pur2 fun s y x => (ndGet s x y).map fun o => .bl (!o.isSome)
def mDN : M D := new (.dN [])
def fLenN : List D → M D := fun xs s => match xs with
  | [.ref n] => (ndAt s n).map fun kvs => .ok (.int kvs.length) s
  | _ => none
def cSubN (o i e : E) : C := fun σ s => ex σ (e σ s) fun v s1 => ex σ (o σ s1) fun x s2 => ex σ (i σ s2) fun y s3 => match x with
  | .ref n => match s3[n]? with
    | some (.dN kvs) => if kvs.length < 16777216 then (nkT y).map fun k => .nx σ (s3.set n (.dN (kputN kvs k y v))) else none
    | _ => none
  | _ => none
section
variable {X : Cx} {pins : List (Addr × Obj)} {σ : L2.St} {H : Hp} {s : Shared} {a : Addr} {y v : V} {u r : Value} {o : Option V} {A : Around} {E : Value → Shared → Prop}
end
section
variable {X : Cx}
variable {a b c : Expr} {fa fb fc : E} {pos : Pos}
end
end Fc
namespace Fc
open PySem PySem.Spec PyProof.Rows L2
variable {cm : CM} {W : WX}
abbrev NX := NestedKey × Addr × Value
section
variable {P : Program} {w0 w : World} {K : PySem.W.Frag} {tg : Expr} {d : Addr} {o : Obj} {es : Array DictEntry} {ep : Nat} {xs : List NX}
end
section
variable {X : Cx} {tg e : Expr} {td : TE} {apos cpos : Pos}
end
theorem RN.at {K : PySem.W.Frag} {p : List Addr} {H : Hp} : ∀ {kvs : List (D × D)} {xs : List NX} {i : Nat} {k : NestedKey} {b : Addr} {u : Value}, RN K p H kvs xs → xs[i]? = some (k, b, u) → ∃ kv v, kvs[i]? = some kv ∧ nkT kv.1 = some k ∧ RV K p H kv.1 (.ref b) ∧ RV K p H kv.2 v ∧ RelV v u
  | [], xs, i, k, b, u, r, e => by
    simp only [RN] at r; subst r; simp at e
  | kv :: kvs, xs, i, k, b, u, r, e => by
    simp only [RN] at r
    obtain ⟨k', b', v', u', ys, rfl, e1, r1, r2, r3, r4⟩ := r
    cases i with
    | zero =>
      simp at e
      obtain ⟨rfl, rfl, rfl⟩ := e
      exact ⟨kv, v', rfl, e1, r1, r2, r3⟩
    | succ i =>
      obtain ⟨kv', v, q1, q2⟩ := RN.at r4 (by simpa using e)
      exact ⟨kv', v, by simpa using q1, q2⟩
theorem RN.vals {K : PySem.W.Frag} {p : List Addr} {H : Hp} {kvs : List (D × D)} {xs : List NX} (r : RN K p H kvs xs) : ∀ x ∈ xs, ∃ v, RelV v x.2.2 := fun x hx => by
  obtain ⟨i, hi, e⟩ := List.mem_iff_getElem.mp hx
  obtain ⟨kv, v, _, _, _, _, q⟩ := r.at (k := x.1) (b := x.2.1) (u := x.2.2) (by rw [List.getElem?_eq_getElem hi, e])
  exact ⟨v, q⟩
section
variable {K : PySem.W.Frag} {d : Addr} {o : Obj} {w : World} {xs : List NX} {kvs : List (D × D)}
end
/-- for k in d; d.items() -/
def iNd (g : D × D → D) (e : E) : SrcE := fun σ => bnd (e σ) fun x s => match x with
  | .ref n => match s[n]? with
    | some (.dN kvs) => some (.ok (.dict n (kvs.map g)) s)
    | some (.lck (.dN kvs)) => some (.ok (.dict n (kvs.map g)) s)
    | _ => none
  | _ => none
section
variable {X : Cx} {a tg : Expr} {fa : E}
end
end Fc
namespace Fc
open PySem PySem.Spec PyProof.Rows L2
variable {cm : CM} {W : WX}
def dcStep (D0 : Nat) (y d : D) (s : S) : Option S := match s[D0]? with
  | some (.dK kvs) => if kvs.length < 16777216 then (keyOf y).map fun k => s.set D0 (.dK (kput kvs k d)) else none
  | _ => none
def dcV (D0 : Nat) (vs : List Nat) (g : G) (t : T) (ky e : E) : List D → Env → S → Option S
  | [], _, s => some s
  | d :: r, σ, s => match g d (wipe σ vs) s with
    | some σ1 => match t σ1 s with
      | some (.ok true s1) => match ky σ1 s1 with
        | some (.ok y s2) => match e σ1 s2 with
          | some (.ok z s3) => (dcStep D0 y z s3).bind fun s4 => dcV D0 vs g t ky e r σ s4
          | _ => none
        | _ => none
      | some (.ok false s1) => dcV D0 vs g t ky e r σ s1
      | _ => none
    | none => none
def dcL (D0 n : Nat) (vs : List Nat) (g : G) (t : T) (ky e : E) : Nat → Nat → Env → S → Option S
  | 0, i, _, s => match lstAt s n with
    | some ds => if ds.length = i then some s else none
    | none => none
  | k + 1, i, σ, s => match lstAt s n with
    | some ds => if ds.length = i + (k + 1) then match ds[i]? with
        | some d => match g d (wipe σ vs) s with
          | some σ1 => match t σ1 s with
            | some (.ok true s1) => match ky σ1 s1 with
              | some (.ok y s2) => match e σ1 s2 with
                | some (.ok z s3) => (dcStep D0 y z s3).bind fun s4 => dcL D0 n vs g t ky e k (i + 1) σ s4
                | _ => none
              | _ => none
            | some (.ok false s1) => dcL D0 n vs g t ky e k (i + 1) σ s1
            | _ => none
          | none => none
        | none => none
      else none
    | none => none
def dcNew (s : S) (f : Nat → S → Option S) : Option (Res D) := (f s.length (s ++ [.dK []])).map fun s' => .ok (.ref s.length) s'
def eDc (vs : List Nat) (src : SrcE) (g : G) (t : T) (ky e : E) : E := fun σ => bnd (src σ) fun sk s1 => match sk with
  | .vals ds => dcNew s1 fun D0 s2 => dcV D0 vs g t ky e ds σ s2
  | .list n k => dcNew s1 fun D0 s2 => dcL D0 n vs g t ky e k 0 σ s2
  | .dict n ds => lcDict n s1 fun s2 => dcNew s2 fun D0 s3 => dcV D0 vs g t ky e ds σ s3
section
variable {K : PySem.W.Frag} {g : Fc.G} {gs vs : List Nat} {t : T} {ky el : E} {e : Env} {σ : L2.St}
end
section
variable {X : Cx} {kx vx tg iter : Expr} {ifs : List Expr} {scope : Scope} {own : List (Str × Nat)} {pos spos : Pos} {src : SrcE} {g : Fc.G} {gs : List Nat} {t : T} {ky el : E}
end
end Fc
namespace Fc
open PySem PySem.Spec PyProof.Rows L2
variable {cm : CM} {W : WX}
/-- sum(xs) of a list of ints -/
def fSum : List D → M D := fun xs s => match xs with
  | [.ref n] => match lstAt s n with
    | some ds => match intsD ds with
      | some ns => some (.ok (.int ns.sum) s)
      | none => none
    | none => none
  | _ => none
/-- str(n) -/
def fStr : List D → M D := fun xs s => match xs with
  | [.int i] => if i.natAbs.log2 < 1920 then some (.ok (.str (toString i : String)) s) else none
  | [.str x] => some (.ok (.str x) s)
  | _ => none
/-- a.join(xs) -/
def strsD : List D → Option (List Str)
  | [] => some []
  | .str x :: r => (strsD r).map (x :: ·)
  | _ :: _ => none
def eJoin (a b : E) : E := fun σ => bnd (a σ) fun x => fun s => match x with
  | .str sep => bnd (b σ) (fun y => fun s => match y with
    | .ref n => match lstAt s n with
      | some ds => match strsD ds with
        | some ys => if (ys.map (·.length)).sum + ys.length * sep.length ≤ 16777216 then some (.ok (.str (Txt.join sep ys)) s) else none
        | none => none
      | none => none
    | _ => none) s
  | _ => none
section
variable {X : Cx} {a b : Expr} {fa fb : E} {pos : Pos}
/-- a part of the script -/
def oCutR (x : D) (lo hi : Option Int) : M D := fun s => match x with
  | .rol ds => new (.lst (cutL ds lo hi)) s
  | _ => none
def eCutR (a : E) (lo hi : EO) : E := fun σ => bnd (a σ) fun x => bnd (lo σ) fun l => bnd (hi σ) fun h => oCutR x l h
end
def keysT (kvs : List (List L2.Key × D)) : List D := kvs.map fun kv => .tup (kv.1.map dOf)
def fSortedT : List D → M D := fun xs s => match xs with
  | [.ref n] => match s[n]? with
    | some (.dT kvs) => if sortOk s (keysT kvs) then new (.lst (sortD s (keysT kvs))) s else none
    | _ => none
  | _ => none
end Fc
namespace Fc
open PySem PySem.Spec PyProof.Rows L2
variable {cm : CM} {W : WX}
def fListN : List D → M D := fun xs s => match xs with
  | [.ref n] => match ndAt s n with
    | some kvs => new (.lst (kvs.map (·.1))) s
    | none => none
  | _ => none
end Fc
namespace Fc
open PySem PySem.Spec PyProof.Rows L2
variable {cm : CM} {W : WX}
section
variable {X : Cx}
end
section
variable {X : Cx} {tg iter kx vx : Expr} {src : SrcE} {g : G} {gs : List Nat} {ifs : List Expr} {t : T} {ky el : E} {scope : Scope} {pos spos : Pos}
end
end Fc
namespace Fc
open PySem PySem.Spec PyProof.Rows L2
/-- is x an own instance -/
def insD (s : S) : D → Bool
  | .ref n => match s[n]? with
    | some (.ins _ _) => true
    | _ => false
  | _ => false
def oIsB (t : Ty) : D → M D := fun x s => if insD s x then some (.ok (.bl false) s) else oIs t x s
section
variable {K : PySem.W.Frag} {cs es : List Str} {isx : List (Str × List Str)} {eqs flds : List Str} {ms : List (Str × Str)} {wd : World}
end
section
variable {X : Cx} {cm : CM} {W : WX} {a : Expr} {fa : E} {pos : Pos}
end
end Fc
namespace Fc
open PySem PySem.Spec PyProof.Rows L2
abbrev EPr := Env → M (List (D × D))
section
variable {X : Cx} {cm : CM} {W : WX}
def RPs (K : PySem.W.Frag) (p : List Addr) (H : Hp) : List (D × D) → List (V × V) → Prop
  | [], vs => vs = []
  | d :: ds, vs => ∃ k v r, vs = (k, v) :: r ∧ RV K p H d.1 k ∧ RV K p H d.2 v ∧ RPs K p H ds r
def tP (K : PySem.W.Frag) (cm : CM) (W : WX) (f : EPr) : L2.St → Hp → (List (V × V) → Hp → Prop) → Prop := fun σ H Q => ∃ p e s, RE K p H e σ ∧ RS K cm p s H ∧ Po K cm W (RPs K) p σ H (f e s) Q
structure JP (X : Cx) (cm : CM) (W : WX) (pos : Pos) (ks : List (Option Expr)) (vs : List Expr) (f : EPr) : Prop where
  ex : ∃ trs, PPs X pos ks vs trs ∧ ∀ σ H Q, tP X.K cm W f σ H Q → tPairs trs σ H Q
end
end Fc
namespace Fc
open PySem PySem.Spec PyProof.Rows L2
section
variable {X : Cx} {cm : CM} {W : WX} {x : Str} {sts suite : List Stmt} {b0 : Stmt} {fb fu : C} {p1 p2 p6 : Pos} {sub : List Str}
end
end Fc
namespace PySem.HandSPX
open PySem PySem.W PySem.Calls PyProof.Rows
section
variable {prog : Program} {w : World} {M : Model} {A : Around} {E : Value → Shared → Prop} {R : Result → Shared → Prop} {h : Heap} {g : Array GenState} {d : Drawn} {t : Nat} {os : OsState}
variable {nm q : Str} {C N : Addr} {bs bm bmB : List Value} {hdct : Bool} {sn : List Str} {sub : List Value} {ab : Bool} {col : Option Bool} {dd : Option Addr} {k0 k1 k2 k3 k5 : Option Value} {B newId initId : String}
end
end PySem.HandSPX
namespace Fc
open PySem PySem.Spec PyProof.Rows L2
/-- an error class whose field may be given by its name -/
structure ErrKAt (P : Program) (w : World) (K : PySem.W.Frag) (mg : Str → Option Value) (base : Heap) (cm : CM) (k : Nat) (c n : Str) : Prop where
  ex : ∃ C f fd, cm.err c = some C ∧ mg c = some (.ref C) ∧ OexC K C ∧ FnG P w K mg base k f fd ["self", n] (spEC C n) ∧ PySem.W.findIn K (.ref C) "__init__" = some (some (.ref f)) ∧ PySem.W.typeIn K (.ref f) = some (.type "function") ∧ KwB K fd ["self", n] 1 [n] [0, 1]
section
variable {X : Cx} {cm : CM} {W : WX} {k j : Nat} {c n : Str} {dfls : List (List D)} {p pos rpos : Pos}
end
end Fc
namespace Fc
open PySem PySem.Spec PyProof.Rows L2
/-- such a class in a context -/
structure ErrNAt (K : PySem.W.Frag) (mg : Str → Option Value) (cm : CM) (c : Str) : Prop where
  ex : ∃ C, cm.err c = some C ∧ mg c = some (.ref C) ∧ PySem.W.excIn K C PySem.HandSPX.veTail "ValueError.__new__" = true ∧ PySem.W.keepIn K (.ref C) = true ∧ PySem.W.subIn K (.ref C) (.type "BaseException") = some true ∧ PySem.W.typeIn K (.ref C) = some (.type "type")
section
variable {X : Cx} {cm : CM} {W : WX} {c : Str} {p pos rpos : Pos}
end
section
variable {X : Cx} {cm : CM} {W : WX} {a : Expr} {fa : E} {pos : Pos}
end
section
variable {K : PySem.W.Frag} {cm : CM} {h : Heap} {mg : Str → Option Value} {P : Program} {w : World} {base : Heap} {k : Nat} {n qual : Str} {sc : Scope} {p0 p1 pa pn pc pe q1 q2 q3 q4 : Pos} {cs es : List Str} {isx cat : List (Str × List Str)} {flds : List Str} {wd : World}
end
end Fc
namespace PySem
open PySem.W PySem.Calls PyProof.Rows
section
variable {prog : Program} {w : World} {A : Around} {E : Value → Shared → Prop} {s : Shared}
end
section
variable {prog : Program} {w : World} {A : Around} {E : Value → Shared → Prop} {h : Heap} {g : Array GenState} {d : Drawn} {t : Nat} {os : OsState} {C x f : Addr} {B : String} {bm : List Value} {b : Value}
end
end PySem
namespace Fc
open PySem PySem.Spec PyProof.Rows L2
variable {cm : CM} {W : WX}
end Fc
namespace Fc
open PySem PySem.Spec PyProof.Rows L2
variable {cm : CM} {W : WX}
section
variable {X : Cx} {k j : Nat} {c : Str} {F : Fc.F} {f : Addr}
end
end Fc
namespace HT
open PySem PySem.Spec PyProof.Rows L2
section
variable {prog : Program} {w : World} {A : Around} {E : Value → Shared → Prop} {s : Shared}
theorem fc_places (n : Nat) : Builtin.Slice.slicePlaces ((n : Int) - 1) (-1) (-1) = n := by
  unfold Builtin.Slice.slicePlaces
  have h1 : ¬ ((-1 : Int) > 0) := by omega
  simp only [h1, if_false]
  split
  · rw [show (- -1 : Int) = 1 by decide, Int.ediv_one]
    omega
  · omega
theorem fc_applied {sl : Addr} {vl vu vk : Value} {n : Nat} {Q : Int × Int × Nat → Shared → Prop} (hs : s.heap.IsSliceOf sl vl vu vk) (pl : IsPart vl none) (pu : IsPart vu none) (pk : IsPart vk (some (-1)))
    (h : Q ((n : Int) - 1, -1, n) s) : wpAny (model prog w) A (Builtin.Slice.sliceApplied (.ref sl) (pure (n : Int))) Q E s := by
  obtain ⟨os, hos, hcs, hds⟩ := id hs
  unfold Builtin.Slice.sliceApplied Builtin.Slice.sliceFields
  refine wpAny_bind (wpAny_bind (wpAny_field hos hds (x := vl) rfl (wpAny_bind (wpAny_field hos hds (x := vu) rfl (wpAny_bind (wpAny_field hos hds (x := vk) rfl (wpAny_pure ?_)))))))
  refine wpAny_bind (slicePart_ pk ?_)
  show wpAny _ _ (if ((-1 : Int) == 0) = true then _ else _) _ _ s
  rw [if_neg (by decide)]
  refine wpAny_bind (slicePart_ pl (wpAny_bind (slicePart_ pu (wpAny_bind (wpAny_pure ?_)))))
  show wpAny _ _ (pure ((n : Int) - 1, (-1 : Int), Builtin.Slice.slicePlaces ((n : Int) - 1) (-1) (-1))) _ _ s
  rw [fc_places]
  exact wpAny_pure h
theorem fc_fm {α β : Type} {f g : α → Option β} : ∀ {l : List α}, (∀ m ∈ l, f m = g m) → l.filterMap f = l.filterMap g
  | [], _ => rfl
  | a :: l, h => by rw [List.filterMap_cons, List.filterMap_cons, h a (List.mem_cons_self ..), fc_fm fun m hm => h m (List.mem_cons_of_mem _ hm)]
theorem fc_pick (xs : Array Value) : ((List.range xs.size).filterMap fun (m : Nat) => xs[(((xs.size : Nat) : Int) - 1 + (m : Int) * (-1)).toNat]?).toArray = xs.toList.reverse.toArray := by
  have e : (List.range xs.size).filterMap (fun (m : Nat) => xs[(((xs.size : Nat) : Int) - 1 + (m : Int) * (-1)).toNat]?) = ((List.range xs.size).map fun k => xs.size - 1 - k).filterMap (xs[·]?) := by
    rw [List.filterMap_map]
    refine fc_fm ?_
    intro m hm
    have := List.mem_range.mp hm
    show xs[_]? = xs[xs.size - 1 - m]?
    rw [show (((xs.size : Nat) : Int) - 1 + (m : Int) * (-1)).toNat = xs.size - 1 - m by omega]
  rw [e, PySem.W.krv_range, List.filterMap_reverse, PySem.W.krv_all]
theorem fc_tup_rev {t sl : Addr} {items : Array Value} {vl vu vk : Value} {Q : Value → Shared → Prop} (ht : IsTup s.heap t items) (hs : s.heap.IsSliceOf sl vl vu vk) (pl : IsPart vl none) (pu : IsPart vu none) (pk : IsPart vk (some (-1)))
    (h : Q (.ref s.heap.objs.size) { s with heap := s.heap.push { cls := .type "tuple", data := .seq items.toList.reverse.toArray } })
    (hsz : items.size ≤ sizeLine) : wpAny (model prog w) A (getItem (.ref t) (.ref sl)) Q E s := by
  have htake : sizeOk (.seq items.toList.reverse.toArray) := by
    show items.toList.reverse.toArray.size ≤ sizeLine
    rw [List.size_toArray, List.length_reverse, Array.length_toList]
    exact hsz
  obtain ⟨os, hos, hcs, hds⟩ := id hs
  have hTs : s.TypeIs (.ref sl) "slice" := ⟨os, hos, hcs⟩
  unfold getItem
  try with_reducible refine wpAny_holding ?_
  first | refine wpAny_bind (wpAny_pure ?_) | skip
  refine wpAny_bind (wpAny_sequenceKey ht.typeIs (by decide) ?_)
  refine wpAny_bind (wpAny_callSpecial?_slot (name := Str.ofString "__getitem__") ht.typeIs PyProof.Rows.slot_tuple_getitem
    (wpAny_call_entry PyProof.Rows.slot_tuple_getitem ht.typeIs entry_tuple_getitem ?_ (args_tuple_getitem _ _)))
  show wpAny _ _ (Builtin.Tuple.tupleItemsOf (.ref t) >>= _) _ _ s
  refine wpAny_bind (tupleItemsOf_ ht ?_)
  refine wpAny_bind (wpAny_typeOf hTs ?_)
  rw [if_pos (by decide)]
  refine wpAny_bind (fc_applied hs pl pu pk ?_)
  have hno : ¬ ((((items.size : Nat) : Int) - 1 == 0 && (-1 : Int) == 1 && items.size == items.size) = true) := by simp
  show wpAny _ _ (if (((items.size : Nat) : Int) - 1 == 0 && (-1 : Int) == 1 && items.size == items.size) = true then _ else _) _ _ s
  rw [if_neg hno, fc_pick]
  first
    | exact wpAny_bind (m := Builtin.Tuple.tupleExact _) (wpAny_newObj_type (wpAny_pure ⟨_, rfl, wpAny_pure h⟩) htake)
    | exact wpAny_bind (m := Builtin.Tuple.tupleExact _) (wpAny_newObj_type (wpAny_bind (wpAny_pure (wpAny_pure ⟨_, rfl, wpAny_pure h⟩))) htake)
    | exact wpAny_bind (wpAny_bind (m := Builtin.Tuple.tupleExact _) (wpAny_newObj_type (wpAny_pure (wpAny_pure ⟨_, rfl, wpAny_pure h⟩)) htake))
    | exact wpAny_bind (wpAny_bind (m := Builtin.Tuple.tupleExact _) (wpAny_newObj_type (wpAny_pure ⟨_, rfl, wpAny_pure h⟩) htake))
end
end HT
namespace L2
open PySem PySem.Spec PyProof.Rows
section
variable {X : Cx}
def tRevT (K : PySem.W.Frag) (te : TE) : TE := fun σ H Q => te σ H fun x H1 => ∃ a xs, x = .ref a ∧ SqT K H1 a xs ∧ ∀ p, H1 p = none → Q (.ref p) (upd H1 p (.tup xs.reverse))
theorem pe_revT {e : Expr} {te : TE} {k : Nat} {p1 p2 p3 pos : Pos} (he : PE X e te) : PE X (.Subscript e (.Slice none none (some (.UnaryOp .USub (.Constant (.int 1) k p1) p2)) p3) pos) (tRevT X.K te) := by
  refine ⟨fun pins s σ H Q I h => ?_⟩
  refine Subscript_ (thn (he.run pins s σ H _ I h) fun v s1 ⟨x, H1, I1, r1, q1⟩ => ?_)
  obtain ⟨a, xs, ex, hx, q⟩ := q1
  subst ex
  cases r1
  have hst : PO X (some (.UnaryOp .USub (.Constant (.int 1) k p1) p2)) (tPart (tUn (rU fun i => .int (-i)) (tC (.int 1)))) := po_some (pe_un un_neg pe_int)
  refine wpAny_Slice (thn (po_none.run pins s1 σ H1 (fun o H2 => o = none ∧ H2 = H1) I1 ⟨rfl, rfl⟩) fun vl s2 ⟨l, H2, I2, pl, el, e2⟩ => ?_)
  subst el e2
  refine thn (po_none.run pins s2 σ H2 (fun o H3 => o = none ∧ H3 = H2) I2 ⟨rfl, rfl⟩) fun vu s3 ⟨u, H3, I3, pu, eu, e3⟩ => ?_
  subst eu e3
  refine thn (hst.run pins s3 σ H3 (fun o H4 => o = some (-1) ∧ H4 = H3) I3 ⟨1, rfl, -1, rfl, rfl, rfl⟩) fun vs s4 ⟨o, H4, I4, ps, eo, e4⟩ => ?_
  subst eo e4
  have I5 : Inv X pins σ H4 { s4 with heap := s4.heap.push { cls := .type "slice", data := .fields #[vl, vu, vs] } } := I4.kept (t' := s4.toks) fun b ob q => Heap.get?_push_of_some _ q
  obtain ⟨its, r, ht, hz⟩ := I5.tuple hx
  have hlen := r.length
  show wpAny (model X.prog X.w) X.A (subscriptTail e (.Slice none none (some (.UnaryOp .USub (.Constant (.int 1) k p1) p2)) p3) (.ref a) (.ref s4.heap.objs.size)) (EP X pins σ Q) X.xe { s4 with heap := s4.heap.push { cls := .type "slice", data := .fields #[vl, vu, vs] } }
  refine tail_any (ops := [.ref a, .ref s4.heap.objs.size]) ht.typeIs (PyProof.Rows.slot_tuple_getitem.lookup) ?_ (by with_unfolding_all rfl)
  refine HT.fc_tup_rev ht (Heap.IsSliceOf.new _ vl vu vs) pl pu ps ?_ (by rw [List.size_toArray]; omega)
  refine ⟨.ref _, _, I5.laid (t' := s4.toks) (o := .tup xs.reverse) (fun b ob q => Heap.get?_push_of_some _ q) (Nat.le_refl _) ?_, rfl, q _ (I5.hok.fresh (Nat.le_refl _))⟩
  exact ⟨by rw [List.length_reverse]; exact hz, _, r.reverse, IsTup.new _ _⟩
end
end L2
namespace Fc
open PySem L2
/-- xs[::-1], xs a tuple -/
def oRevT : D → M D := fun x s => match x with
  | .tup ds => some (.ok (.tup ds.reverse) s)
  | _ => none
section
variable {cm : CM}
theorem r_revT {X : Cx} {W : WX} {a : Expr} {fa : E} {k : Nat} {p1 p2 p3 pos : Pos} (ha : JE X cm W a fa) : JE X cm W (.Subscript a (.Slice none none (some (.UnaryOp .USub (.Constant (.int 1) k p1) p2)) p3) pos) (e1 oRevT fa) := by
  refine (pe_revT ha).imp fun σ H Q q => ?_
  obtain ⟨p, e, s, re, rs, q⟩ := tD.bnd q
  refine ⟨p, e, s, re, rs, q.imp ?_⟩
  rintro x H1 ⟨p, e, s, d, re, rs, r1, q⟩
  unfold oRevT at q
  split at q
  · rename_i ds
    obtain ⟨t, vs, rfl, h1, rr⟩ := rv_tup r1
    refine ⟨t, vs, rfl, SqT.of h1, fun b hb => Po.newt q rs ?_ hb⟩
    refine RVs.of_get (by simp [rr.length]) fun i d v e1 e2 => ?_
    have hl := rr.length
    have hi : i < ds.length := by
      have := (List.getElem?_eq_some_iff.mp e1).1
      simpa using this
    rw [List.getElem?_reverse hi] at e1
    rw [List.getElem?_reverse (by rw [← hl]; exact hi), ← hl] at e2
    obtain ⟨w, w1, w2⟩ := rr.get e1
    rw [e2] at w1; cases w1
    exact w2
  · exact q.elim
end
end Fc
namespace Fc
open PySem L2
def repS (a : Str) (k : Nat) : Str := ⟨(List.replicate k a.cps).foldl (· ++ ·) #[]⟩
/-- a text so many times -/
def oMulS : D → D → M D := fun x y s => match x, y with
  | .str a, .int k => if decide (2 ≤ k) && decide (k < 1000) && decide (1 ≤ a.length) && decide (a.length ≤ 100) then some (.ok (.str (repS a k.toNat)) s) else none
  | _, _ => none
def rMulS : R2 := fun x y H Q => ∃ a k, x = .str a ∧ y = .int k ∧ 2 ≤ k ∧ k < 1000 ∧ 1 ≤ a.length ∧ a.length ≤ 100 ∧ Q (.str (repS a k.toNat)) H
theorem rep_size : ∀ (k : Nat) (a acc : Array Nat), (List.foldl (fun x1 x2 => x1 ++ x2) acc (List.replicate k a)).size = acc.size + k * a.size
  | 0, a, acc => by simp
  | k + 1, a, acc => by
    rw [List.replicate_succ, List.foldl_cons, rep_size k a (acc ++ a), Array.size_append, Nat.succ_mul]
    omega
section
variable {X : Cx} {cm : CM}
theorem op_mulS : OpR X (binaryOp .Mult) rMulS := by
  intro pins s σ H x y v u Q I rx ry h
  obtain ⟨a, k, rfl, rfl, h1, h2, h3, h4, q⟩ := h
  obtain ⟨t, rfl⟩ := rx
  obtain ⟨t', rfl⟩ := ry
  have hk : k.toNat < 1000 := by omega
  refine PySem.P.mul_str ?_ (fun _ _ => ?_) (fun _ _ => ?_) ?_
  · rw [decide_eq_false (by omega), decide_eq_false (by omega)]
    rfl
  · have : (1000 : Int) ≤ (2 ^ 63 - 1) / k := by
      refine (Int.le_ediv_iff_mul_le (by omega)).mpr ?_
      omega
    omega
  · unfold Builtin.Str.tooLong
    have : a.length * k.toNat ≤ 100 * 1000 := Nat.mul_le_mul h4 (by omega)
    exact decide_eq_false (by rw [sizeLine_eq]; omega)
  · rw [if_neg (by omega), if_neg (by simp; omega)]
    refine ⟨?_, ⟨.str (repS a k.toNat), H, I.tok _, ⟨_, rfl⟩, q⟩⟩
    have := rep_size k.toNat a.cps #[]
    have e : (repS a k.toNat).length = k.toNat * a.length := by
      show (List.foldl (fun x1 x2 => x1 ++ x2) #[] (List.replicate k.toNat a.cps)).size = _
      rw [this]
      simp [Str.length]
    have h5 : k.toNat * a.length ≤ 1000 * 100 := Nat.mul_le_mul (by omega) h4
    show (repS a k.toNat).length ≤ sizeLine
    rw [e, sizeLine_eq]
    omega
theorem s_oMulS : S2 X cm (binaryOp .Mult) oMulS := by
  refine ⟨_, op_mulS, fun W p s σ H x y dx dy Q rs rx ry q => ?_⟩
  unfold oMulS at q
  split at q
  · rename_i a k
    split at q
    · rename_i h
      simp only [Bool.and_eq_true, decide_eq_true_eq] at h
      exact ⟨a, k, rv_str rx, rv_int ry, h.1.1.1, h.1.1.2, h.1.2, h.2, Po.ok q rs (mk_str _)⟩
    · exact q.elim
  · exact q.elim
end
end Fc
namespace Fc
open PySem
abbrev Xc := Str → List (Str × D) → S → Prop
@[irreducible] def wE {α : Type} (m : Option (Res α)) (Q : α → S → Prop) (X : Xc) : Prop := match m with
  | none => False
  | some (.ok x s) => Q x s
  | some (.exc c fs s) => X c fs s
structure Pst where
  nx : Env → S → Prop
  rt : D → S → Prop
  bk : Env → S → Prop := fun _ _ => False
  ct : Env → S → Prop := fun _ _ => False
  xc : Xc
@[irreducible] def wC (r : Option R) (P : Pst) : Prop := match r with
  | none => False
  | some (.nx e s) => P.nx e s
  | some (.rt d s) => P.rt d s
  | some (.bk e s) => P.bk e s
  | some (.ct e s) => P.ct e s
  | some (.xc c fs _ s) => P.xc c fs s
section
variable {α β : Type} {s : S} {σ : Env} {X : Xc}
theorem wE_imp {m : Option (Res α)} {Q Q' : α → S → Prop} {X' : Xc} (h : wE m Q X) (k : ∀ x s, Q x s → Q' x s) (kx : ∀ c fs s, X c fs s → X' c fs s) : wE m Q' X' := by
  with_unfolding_all
    match m, h with
    | none, h => exact False.elim h
    | some (.ok x s), h => exact k x s h
    | some (.exc c fs s), h => exact kx c fs s h
theorem wE_mono {m : Option (Res α)} {Q Q' : α → S → Prop} (h : wE m Q X) (k : ∀ x s, Q x s → Q' x s) : wE m Q' X := by
  with_unfolding_all
    exact wE_imp h k fun _ _ _ z => z
theorem wE_out {m : Option (Res α)} {Q : α → S → Prop} (h : wE m Q (fun _ _ _ => False)) : ∃ x s, m = some (.ok x s) ∧ Q x s := by
  with_unfolding_all
    match m, h with
    | none, h => exact False.elim h
    | some (.ok x s), h => exact ⟨x, s, rfl, h⟩
    | some (.exc _ _ _), h => exact False.elim h
theorem wC_imp {r : Option R} {P P' : Pst} (h : wC r P) (h1 : ∀ e s, P.nx e s → P'.nx e s) (h2 : ∀ d s, P.rt d s → P'.rt d s) (h3 : ∀ e s, P.bk e s → P'.bk e s) (h4 : ∀ e s, P.ct e s → P'.ct e s) (h5 : ∀ c fs s, P.xc c fs s → P'.xc c fs s) : wC r P' := by
  with_unfolding_all
    match r, h with
    | none, h => exact False.elim h
    | some (.nx e s), h => exact h1 e s h
    | some (.rt e s), h => exact h2 e s h
    | some (.bk e s), h => exact h3 e s h
    | some (.ct e s), h => exact h4 e s h
    | some (.xc c fs e s), h => exact h5 c fs s h
@[simp] theorem w_some {x : α} {Q : α → S → Prop} : wE (some (.ok x s)) Q X ↔ Q x s := by
  with_unfolding_all
    exact Iff.rfl
@[simp] theorem w_exc {c : Str} {fs : List (Str × D)} {Q : α → S → Prop} : wE (some (.exc c fs s)) Q X ↔ X c fs s := by
  with_unfolding_all
    exact Iff.rfl
@[simp] theorem w_none {Q : α → S → Prop} : wE (none : Option (Res α)) Q X ↔ False := by
  with_unfolding_all
    exact Iff.rfl
theorem w_bnd {m : M α} {k : α → M β} {Q : β → S → Prop} : wE (bnd m k s) Q X ↔ wE (m s) (fun x s' => wE (k x s') Q X) X := by
  with_unfolding_all
    unfold bnd
    cases h : m s with
    | none => rfl
    | some r => cases r <;> rfl
theorem w_var {i : Nat} {Q : D → S → Prop} : wE (eVar i σ s) Q X ↔ ∃ d, σ[i]? = some (some d) ∧ Q d s := by
  with_unfolding_all
    unfold eVar
    split
    · rename_i d h
      simp [h]
    · rename_i h
      simp only [w_none, false_iff]
      rintro ⟨d, e, _⟩
      exact h d e
theorem w_e1 {f : D → M D} {a : E} {Q : D → S → Prop} : wE (e1 f a σ s) Q X ↔ wE (a σ s) (fun x s' => wE (f x s') Q X) X := by
  with_unfolding_all
    exact w_bnd
theorem w_e2 {f : D → D → M D} {a b : E} {Q : D → S → Prop} : wE (e2 f a b σ s) Q X ↔ wE (a σ s) (fun x s1 => wE (b σ s1) (fun y s2 => wE (f x y s2) Q X) X) X := by
  with_unfolding_all
    show wE (bnd (a σ) _ s) Q X ↔ _
    rw [w_bnd]
    constructor
    · intro h; exact wE_mono h fun x s1 h => w_bnd.mp h
    · intro h; exact wE_mono h fun x s1 h => w_bnd.mpr h
theorem w_lcons {a : E} {r : EL} {Q : List D → S → Prop} : wE (lCons a r σ s) Q X ↔ wE (a σ s) (fun x s1 => wE (r σ s1) (fun xs s2 => Q (x :: xs) s2) X) X := by
  with_unfolding_all
    show wE (bnd (a σ) _ s) Q X ↔ _
    rw [w_bnd]
    constructor
    · intro h; exact wE_mono h fun x s1 h => w_bnd.mp h
    · intro h; exact wE_mono h fun x s1 h => w_bnd.mpr h
theorem w_eN {f : List D → M D} {es : EL} {Q : D → S → Prop} : wE (eN f es σ s) Q X ↔ wE (es σ s) (fun xs s' => wE (f xs s') Q X) X := by
  with_unfolding_all
    exact w_bnd
theorem w_eM {f : D → List D → M D} {o : E} {es : EL} {Q : D → S → Prop} : wE (eM f o es σ s) Q X ↔ wE (o σ s) (fun x s1 => isLst s1 x = true ∧ wE (es σ s1) (fun xs s2 => wE (f x xs s2) Q X) X) X := by
  with_unfolding_all
    show wE (bnd (o σ) _ s) Q X ↔ _
    rw [w_bnd]
    have key : ∀ x s1, wE (if isLst s1 x then bnd (es σ) (fun xs => f x xs) s1 else none) Q X ↔ (isLst s1 x = true ∧ wE (es σ s1) (fun xs s2 => wE (f x xs s2) Q X) X) := fun x s1 => by
      by_cases h : isLst s1 x = true
      · simp [h, w_bnd]
      · simp [h]
    constructor
    · intro h; exact wE_mono h fun x s1 h => (key x s1).mp h
    · intro h; exact wE_mono h fun x s1 h => (key x s1).mpr h
theorem w_if {t : T} {a b : E} {Q : D → S → Prop} : wE (eIf t a b σ s) Q X ↔ wE (t σ s) (fun c s1 => if c = true then wE (a σ s1) Q X else wE (b σ s1) Q X) X := by
  with_unfolding_all
    show wE (bnd (t σ) _ s) Q X ↔ _
    rw [w_bnd]
    constructor <;> (intro h; refine wE_mono h fun x s1 h => ?_; cases x <;> simpa using h)
theorem w_or {a b : E} {Q : D → S → Prop} : wE (eOr a b σ s) Q X ↔ wE (a σ s) (fun x s1 => ∃ c, truth s1 x = some c ∧ if c = true then Q x s1 else wE (b σ s1) Q X) X := by
  with_unfolding_all
    show wE (bnd (a σ) _ s) Q X ↔ _
    rw [w_bnd]
    constructor <;> (intro h; refine wE_mono h fun x s1 h => ?_; revert h; cases e : truth s1 x with | none => simp | some c => cases c <;> simp)
theorem w_and {a b : E} {Q : D → S → Prop} : wE (eAnd a b σ s) Q X ↔ wE (a σ s) (fun x s1 => ∃ c, truth s1 x = some c ∧ if c = true then wE (b σ s1) Q X else Q x s1) X := by
  with_unfolding_all
    show wE (bnd (a σ) _ s) Q X ↔ _
    rw [w_bnd]
    constructor <;> (intro h; refine wE_mono h fun x s1 h => ?_; revert h; cases e : truth s1 x with | none => simp | some c => cases c <;> simp)
theorem w_tE {a : E} {Q : Bool → S → Prop} : wE (tE a σ s) Q X ↔ wE (a σ s) (fun x s1 => ∃ c, truth s1 x = some c ∧ Q c s1) X := by
  with_unfolding_all
    show wE (bnd (a σ) _ s) Q X ↔ _
    rw [w_bnd]
    constructor <;> (intro h; refine wE_mono h fun x s1 h => ?_; revert h; cases e : truth s1 x with | none => simp | some c => simp)
theorem w_tB {a : E} {Q : Bool → S → Prop} : wE (tB a σ s) Q X ↔ wE (a σ s) (fun x s1 => ∃ c, x = .bl c ∧ Q c s1) X := by
  with_unfolding_all
    show wE (bnd (a σ) _ s) Q X ↔ _
    rw [w_bnd]
    constructor
    · intro h
      refine wE_mono h fun x s1 h => ?_
      cases x with
      | bl c => exact ⟨c, rfl, h⟩
      | _ => exact h.elim
    · intro h
      refine wE_mono h fun x s1 h => ?_
      obtain ⟨c, rfl, h⟩ := h
      exact h
theorem w_tNot {t : T} {Q : Bool → S → Prop} : wE (tNot t σ s) Q X ↔ wE (t σ s) (fun c s1 => Q (!c) s1) X := by
  with_unfolding_all
    exact w_bnd
theorem w_eNotT {t : T} {Q : D → S → Prop} : wE (eNotT t σ s) Q X ↔ wE (t σ s) (fun c s1 => Q (.bl (!c)) s1) X := by
  with_unfolding_all
    exact w_bnd
theorem w_tAnd {t u : T} {Q : Bool → S → Prop} : wE (tAnd t u σ s) Q X ↔ wE (t σ s) (fun c s1 => if c = true then wE (u σ s1) Q X else Q false s1) X := by
  with_unfolding_all
    show wE (bnd (t σ) _ s) Q X ↔ _
    rw [w_bnd]
    constructor <;> (intro h; refine wE_mono h fun x s1 h => ?_; cases x <;> simpa [ret] using h)
theorem w_tOr {t u : T} {Q : Bool → S → Prop} : wE (tOr t u σ s) Q X ↔ wE (t σ s) (fun c s1 => if c = true then Q true s1 else wE (u σ s1) Q X) X := by
  with_unfolding_all
    show wE (bnd (t σ) _ s) Q X ↔ _
    rw [w_bnd]
    constructor <;> (intro h; refine wE_mono h fun x s1 h => ?_; cases x <;> simpa [ret] using h)
theorem w_chain {f g : D → D → M D} {a b c : E} {Q : D → S → Prop} : wE (eChain f g a b c σ s) Q X ↔ wE (a σ s) (fun x s1 => wE (b σ s1) (fun y s2 => wE (f x y s2) (fun r s3 => ∃ k, r = .bl k ∧ if k = true then wE (c σ s3) (fun z s4 => wE (g y z s4) Q X) X else Q (.bl false) s3) X) X) X := by
  with_unfolding_all
    show wE (bnd (a σ) _ s) Q X ↔ _
    rw [w_bnd]
    have key : ∀ (y r : D) (s3 : S), wE ((match r with
        | .bl true => bnd (c σ) fun z => g y z
        | .bl false => ret (.bl false)
        | _ => stuck : M D) s3) Q X ↔ ∃ k, r = .bl k ∧ if k = true then wE (c σ s3) (fun z s4 => wE (g y z s4) Q X) X else Q (.bl false) s3 := by
      intro y r s3
      cases r with
      | bl k =>
        cases k
        · simp [ret]
        · simp [w_bnd]
      | _ => simp [stuck]
    constructor
    · intro h
      refine wE_mono h fun x s1 h => wE_mono (w_bnd.mp h) fun y s2 h => wE_mono (w_bnd.mp h) fun r s3 h => (key y r s3).mp h
    · intro h
      refine wE_mono h fun x s1 h => w_bnd.mpr (wE_mono h fun y s2 h => w_bnd.mpr (wE_mono h fun r s3 h => (key y r s3).mpr h))
theorem w_call {f : F} {dfl : List D} {es : EL} {Q : D → S → Prop} : wE (eCall f dfl es σ s) Q X ↔ wE (es σ s) (fun ds s1 => wE (f (ds ++ dfl) s1) Q X) X := by
  with_unfolding_all
    exact w_bnd
theorem w_cut {a : E} {lo hi : EO} {Q : D → S → Prop} : wE (eCut a lo hi σ s) Q X ↔ wE (a σ s) (fun x s1 => wE (lo σ s1) (fun l s2 => wE (hi σ s2) (fun h s3 => wE (oCut x l h s3) Q X) X) X) X := by
  with_unfolding_all
    show wE (bnd (a σ) _ s) Q X ↔ _
    rw [w_bnd]
    constructor
    · intro h
      exact wE_mono h fun x s1 h => wE_mono (w_bnd.mp h) fun y s2 h => w_bnd.mp h
    · intro h
      exact wE_mono h fun x s1 h => w_bnd.mpr (wE_mono h fun y s2 h => w_bnd.mpr h)
theorem w_pYes {a : E} {Q : Option Int → S → Prop} : wE (pYes a σ s) Q X ↔ wE (a σ s) (fun x s1 => ∃ i, x = .int i ∧ Q (some i) s1) X := by
  with_unfolding_all
    show wE (bnd (a σ) _ s) Q X ↔ _
    rw [w_bnd]
    constructor
    · intro h
      refine wE_mono h fun x s1 h => ?_
      cases x with
      | int c => exact ⟨c, rfl, h⟩
      | _ => exact h.elim
    · intro h
      refine wE_mono h fun x s1 h => ?_
      obtain ⟨c, rfl, h⟩ := h
      exact h
theorem w_get2 {d k z : E} {Q : D → S → Prop} : wE (eGet2 d k z σ s) Q X ↔ wE (d σ s) (fun x s1 => isDict s1 x = true ∧ wE (k σ s1) (fun y s2 => wE (z σ s2) (fun w s3 => ∃ o, dgetAt s3 x y = some o ∧ Q (o.getD w) s3) X) X) X := by
  with_unfolding_all
    show wE (bnd (d σ) _ s) Q X ↔ _
    rw [w_bnd]
    have key : ∀ x s1, wE (if isDict s1 x then bnd (k σ) (fun y => bnd (z σ) fun w => fun s => (dgetAt s x y).map fun o => Res.ok (o.getD w) s) s1 else none) Q X ↔ (isDict s1 x = true ∧ wE (k σ s1) (fun y s2 => wE (z σ s2) (fun w s3 => ∃ o, dgetAt s3 x y = some o ∧ Q (o.getD w) s3) X) X) := by
      intro x s1
      by_cases h : isDict s1 x = true
      · simp only [h, if_true, true_and, w_bnd]
        constructor
        · intro h
          refine wE_mono h fun y s2 h => wE_mono h fun w s3 h => ?_
          cases e : dgetAt s3 x y with
          | none => simp [e] at h
          | some o => simp only [e, Option.map_some, w_some] at h; exact ⟨o, rfl, h⟩
        · intro h
          refine wE_mono h fun y s2 h => wE_mono h fun w s3 h => ?_
          obtain ⟨o, e, h⟩ := h
          simp only [e, Option.map_some, w_some]; exact h
      · simp [h]
    constructor
    · intro h; exact wE_mono h fun x s1 h => (key x s1).mp h
    · intro h; exact wE_mono h fun x s1 h => (key x s1).mpr h
theorem w_map {α : Type} {o : Option α} {f : α → Res β} {Q : β → S → Prop} : wE (o.map f) Q X ↔ ∃ x, o = some x ∧ wE (some (f x)) Q X := by
  with_unfolding_all
    cases o <;> simp
theorem w_pur2 {f : S → D → D → Option D} {x y : D} {Q : D → S → Prop} : wE (pur2 f x y s) Q X ↔ ∃ d, f s x y = some d ∧ Q d s := by
  with_unfolding_all
    unfold pur2
    rw [w_map]
    rfl
theorem wC_none {P : Pst} : wC none P ↔ False := by
  with_unfolding_all
    exact Iff.rfl
theorem wC_ex {r : Option (Res α)} {k : α → S → Option R} {P : Pst} : wC (ex σ r k) P ↔ wE r (fun x s' => wC (k x s') P) P.xc := by
  with_unfolding_all
    cases r with
    | none => rfl
    | some r => cases r <;> rfl
theorem wC_seq {a b : C} {P : Pst} : wC (cSeq a b σ s) P ↔ wC (a σ s) { P with nx := fun e s => wC (b e s) P } := by
  with_unfolding_all
    unfold cSeq
    cases h : a σ s with
    | none => rfl
    | some r => cases r <;> rfl
theorem wC_if {t : T} {a b : C} {P : Pst} : wC (cIf t a b σ s) P ↔ wE (t σ s) (fun c s1 => if c = true then wC (a σ s1) P else wC (b σ s1) P) P.xc := by
  with_unfolding_all
    show wC (ex σ (t σ s) _) P ↔ _
    rw [wC_ex]
    constructor <;> (intro h; refine wE_mono h fun x s1 h => ?_; cases x <;> simpa using h)
theorem wC_map {o : Option Env} {P : Pst} : wC (o.map fun σ' => R.nx σ' s) P ↔ ∃ σ', o = some σ' ∧ P.nx σ' s := by
  with_unfolding_all
    cases o with
    | none => simp [wC]
    | some e => simp [wC]
theorem wC_set {e : E} {g : G} {P : Pst} : wC (cSet e g σ s) P ↔ wE (e σ s) (fun d s1 => ∃ σ', g d σ s1 = some σ' ∧ P.nx σ' s1) P.xc := by
  with_unfolding_all
    show wC (ex σ (e σ s) _) P ↔ _
    rw [wC_ex]
    constructor
    · intro h; exact wE_mono h fun x s1 h => wC_map.mp h
    · intro h; exact wE_mono h fun x s1 h => wC_map.mpr h
theorem wC_par {i j : Nat} {es : EL} {P : Pst} : wC (cPar i j es σ s) P ↔ wE (es σ s) (fun ds s1 => ∃ x y, ds = [x, y] ∧ P.nx ((σ.set i (some x)).set j (some y)) s1) P.xc := by
  with_unfolding_all
    show wC (ex σ (es σ s) _) P ↔ _
    rw [wC_ex]
    constructor
    · intro h
      refine wE_mono h fun ds s1 h => ?_
      split at h
      · exact ⟨_, _, rfl, h⟩
      · exact h.elim
    · intro h
      refine wE_mono h fun ds s1 h => ?_
      obtain ⟨x, y, rfl, h⟩ := h
      exact h
theorem wC_par3 {i j l : Nat} {es : EL} {P : Pst} : wC (cPar3 i j l es σ s) P ↔ wE (es σ s) (fun ds s1 => ∃ x y z, ds = [x, y, z] ∧ P.nx (((σ.set i (some x)).set j (some y)).set l (some z)) s1) P.xc := by
  with_unfolding_all
    show wC (ex σ (es σ s) _) P ↔ _
    rw [wC_ex]
    constructor
    · intro h
      refine wE_mono h fun ds s1 h => ?_
      split at h
      · exact ⟨_, _, _, rfl, h⟩
      · exact h.elim
    · intro h
      refine wE_mono h fun ds s1 h => ?_
      obtain ⟨x, y, z, rfl, h⟩ := h
      exact h
theorem wC_aug {i : Nat} {f : D → D → M D} {e : E} {P : Pst} : wC (cAug i f e σ s) P ↔ ∃ x, σ[i]? = some (some x) ∧ wE (e σ s) (fun y s1 => wE (f x y s1) (fun z s2 => P.nx (σ.set i (some z)) s2) P.xc) P.xc := by
  with_unfolding_all
    unfold cAug
    split
    · rename_i x h
      simp only [h, Option.some.injEq, exists_eq_left']
      rw [wC_ex]
      constructor
      · intro h; exact wE_mono h fun y s1 h => wC_ex.mp h
      · intro h; exact wE_mono h fun y s1 h => wC_ex.mpr h
    · rename_i h
      simp only [wC_none, false_iff]
      rintro ⟨x, e, _⟩
      exact h x e
theorem wC_sub {o i e : E} {P : Pst} : wC (cSub o i e σ s) P ↔ wE (e σ s) (fun v s1 => wE (o σ s1) (fun x s2 => wE (i σ s2) (fun y s3 => ∃ n ob, x = .ref n ∧ s3[n]? = some ob ∧
    ((∃ ds k j, ob = .lst ds ∧ y = .int k ∧ L2.ixN ds.length k = some j ∧ P.nx σ (s3.set n (.lst (ds.set j v)))) ∨ ((∀ ds, ob ≠ .lst ds) ∧ ∃ o', dput ob y v = some o' ∧ P.nx σ (s3.set n o')))) P.xc) P.xc) P.xc := by
  with_unfolding_all
    show wC (ex σ (e σ s) _) P ↔ _
    rw [wC_ex]
    have key : ∀ (v x y : D) (s3 : S), wC (match x with
        | .ref n => match s3[n]? with
          | some (.lst ds) => match y with
            | .int k => (L2.ixN ds.length k).map fun j => R.nx σ (s3.set n (.lst (ds.set j v)))
            | _ => none
          | some ob => (dput ob y v).map fun o' => R.nx σ (s3.set n o')
          | none => none
        | _ => none) P ↔ ∃ n ob, x = .ref n ∧ s3[n]? = some ob ∧
      ((∃ ds k j, ob = .lst ds ∧ y = .int k ∧ L2.ixN ds.length k = some j ∧ P.nx σ (s3.set n (.lst (ds.set j v)))) ∨ ((∀ ds, ob ≠ .lst ds) ∧ ∃ o', dput ob y v = some o' ∧ P.nx σ (s3.set n o'))) := by
      intro v x y s3
      cases x with
      | ref n =>
        dsimp only
        cases hn : s3[n]? with
        | none => simp [wC, hn]
        | some ob =>
          cases ob with
          | lst ds =>
            cases y with
            | int k =>
              dsimp only
              cases hj : L2.ixN ds.length k with
              | none => simp [wC, hn, hj]
              | some j => simp [wC, hn, hj]
            | _ => simp [wC, hn]
          | _ =>
            dsimp only
            cases hj : dput _ y v with
            | none => simp [wC, hn, hj]
            | some j => simp [wC, hn, hj]
      | _ => simp [wC]
    constructor
    · intro h
      exact wE_mono h fun v s1 h => wE_mono (wC_ex.mp h) fun x s2 h => wE_mono (wC_ex.mp h) fun y s3 h => (key v x y s3).mp h
    · intro h
      exact wE_mono h fun v s1 h => wC_ex.mpr (wE_mono h fun x s2 h => wC_ex.mpr (wE_mono h fun y s3 h => (key v x y s3).mpr h))
theorem w_def {np nn : Nat} {b : C} {ds : List D} {Q : D → S → Prop} : wE (defF np nn b ds s) Q X ↔ ds.length = np ∧ wC (b (ds.map some ++ List.replicate (nn - np) none) s) { nx := fun _ s' => Q .non s', rt := Q, xc := X } := by
  with_unfolding_all
    unfold defF
    by_cases h : ds.length = np
    · rw [if_pos h]
      cases e : b (ds.map some ++ List.replicate (nn - np) none) s with
      | none => simp [wC, e]
      | some r => cases r <;> simp [wC, wE, h]
    · rw [if_neg h]
      simp [h]
theorem wC_forV_nil {g : G} {b : C} {P : Pst} : wC (forV g b [] σ s) P ↔ P.nx σ s := by
  with_unfolding_all
    exact Iff.rfl
theorem wC_forV_cons {g : G} {b : C} {d : D} {r : List D} {P : Pst} : wC (forV g b (d :: r) σ s) P ↔ ∃ σ1, g d σ s = some σ1 ∧ wC (b σ1 s) { P with nx := fun e s => wC (forV g b r e s) P, ct := fun e s => wC (forV g b r e s) P, bk := P.nx } := by
  with_unfolding_all
    conv => lhs; unfold forV
    cases h : g d σ s with
    | none => simp [wC]
    | some σ1 =>
      simp only [Option.some.injEq, exists_eq_left']
      cases h2 : b σ1 s with
      | none => rfl
      | some x => cases x <;> rfl
/-- a loop over values with an invariant -/
theorem wC_forV {g : G} {b : C} {P : Pst} (I : List D → Env → S → Prop) : ∀ (ds : List D) {σ : Env} {s : S}, I ds σ s →
    (∀ d r σ s, I (d :: r) σ s → ∃ σ1, g d σ s = some σ1 ∧ wC (b σ1 s) { P with nx := fun e s => I r e s, ct := fun e s => I r e s, bk := P.nx }) → (∀ σ s, I [] σ s → P.nx σ s) → wC (forV g b ds σ s) P
  | [], σ, s, h, _, hd => by
    with_unfolding_all
      exact hd σ s h
  | d :: r, σ, s, h, hs, hd => by
    rw [wC_forV_cons]
    obtain ⟨σ1, h1, h2⟩ := hs d r σ s h
    refine ⟨σ1, h1, wC_imp h2 (fun e s h => ?_) (fun _ _ z => z) (fun _ _ z => z) (fun e s h => ?_) fun _ _ _ z => z⟩
    · exact wC_forV I r h hs hd
    · exact wC_forV I r h hs hd
theorem wC_for {src : SrcE} {g : G} {b : C} {P : Pst} : wC (cFor src g b σ s) P ↔ wE (src σ s) (fun sk s1 => wC (match sk with
    | .vals ds => forV g b ds σ s1
    | .list n k => forL n g b k 0 σ s1
    | .dict n ds => lockV n s1 fun s2 => forV g b ds σ s2) P) P.xc := by
  with_unfolding_all
    exact wC_ex
theorem w_iSrc {k : Src} {e : E} {Q : SK → S → Prop} : wE (iSrc k e σ s) Q X ↔ wE (e σ s) (fun x s1 => ∃ sk, srcOf k x s1 = some sk ∧ Q sk s1) X := by
  with_unfolding_all
    show wE (bnd (e σ) _ s) Q X ↔ _
    rw [w_bnd]
    constructor
    · intro h; exact wE_mono h fun x s1 h => w_map.mp h
    · intro h; exact wE_mono h fun x s1 h => w_map.mpr h
theorem w_iRange {a b : E} {Q : SK → S → Prop} : wE (iRange a b σ s) Q X ↔ wE (a σ s) (fun x s1 => wE (b σ s1) (fun y s2 => ∃ i j, x = .int i ∧ y = .int j ∧ (small i && small j) = true ∧ Q (.vals (rangeL i j)) s2) X) X := by
  with_unfolding_all
    show wE (bnd (a σ) _ s) Q X ↔ _
    rw [w_bnd]
    have key : ∀ (x y : D) (s2 : S), wE (match x, y with
        | .int i, .int j => if small i && small j then some (Res.ok (SK.vals (rangeL i j)) s2) else none
        | _, _ => none) Q X ↔ ∃ i j, x = .int i ∧ y = .int j ∧ (small i && small j) = true ∧ Q (.vals (rangeL i j)) s2 := by
      intro x y s2
      split
      · rename_i i j
        by_cases h : (small i && small j) = true
        · rw [if_pos h]
          exact ⟨fun q => ⟨i, j, rfl, rfl, h, q⟩, fun ⟨_, _, e1, e2, _, q⟩ => by cases e1; cases e2; exact q⟩
        · rw [if_neg h]
          exact ⟨fun q => q.elim, fun ⟨_, _, e1, e2, h', _⟩ => by cases e1; cases e2; exact h h'⟩
      · rename_i h
        simp only [w_none, false_iff]
        rintro ⟨i, j, rfl, rfl, _⟩
        exact h i j rfl rfl
    constructor
    · intro h; exact wE_mono h fun x s1 h => wE_mono (w_bnd.mp h) fun y s2 h => (key x y s2).mp h
    · intro h; exact wE_mono h fun x s1 h => w_bnd.mpr (wE_mono h fun y s2 h => (key x y s2).mpr h)
theorem wC_while {t : T} {b : C} {P : Pst} (I : Nat → Env → S → Prop) (n : Nat) (h : I n σ s)
    (hs : ∀ n σ s, I n σ s → wE (t σ s) (fun c s1 => if c = true then ∃ m, n = m + 1 ∧ wC (b σ s1) { P with nx := fun e s => I m e s, ct := fun e s => I m e s, bk := P.nx } else P.nx σ s1) P.xc) : wC (cWhile t b σ s) P := by
  with_unfolding_all
    have key : ∀ n σ s, I n σ s → ∃ k r, whileN t b k σ s = some r ∧ wC (some r) P := by
      intro n
      induction n using Nat.strongRecOn with
      | ind n ih =>
        intro σ s hI
        have h1 := hs n σ s hI
        cases ht : t σ s with
        | none => rw [ht] at h1; exact h1.elim
        | some r =>
          rw [ht] at h1
          cases r with
          | exc c fs s' => exact ⟨1, .xc c fs σ s', by simp [whileN, ex, ht], h1⟩
          | ok c s1 =>
            cases c with
            | false =>
              refine ⟨1, .nx σ s1, by simp [whileN, ex, ht], ?_⟩
              simpa [wC] using h1
            | true =>
              simp only [w_some, if_true] at h1
              obtain ⟨m, rfl, h2⟩ := h1
              cases hb : b σ s1 with
              | none => rw [hb] at h2; exact h2.elim
              | some r =>
                rw [hb] at h2
                cases r with
                | nx e2 s2 =>
                  obtain ⟨k, r, h3, h4⟩ := ih m (Nat.lt_succ_self _) e2 s2 h2
                  exact ⟨k + 1, r, by simp [whileN, ex, ht, hb, h3], h4⟩
                | ct e2 s2 =>
                  obtain ⟨k, r, h3, h4⟩ := ih m (Nat.lt_succ_self _) e2 s2 h2
                  exact ⟨k + 1, r, by simp [whileN, ex, ht, hb, h3], h4⟩
                | bk e2 s2 => exact ⟨1, .nx e2 s2, by simp [whileN, ex, ht, hb], h2⟩
                | rt d2 s2 => exact ⟨1, .rt d2 s2, by simp [whileN, ex, ht, hb], h2⟩
                | xc c fs e2 s2 => exact ⟨1, .xc c fs e2 s2, by simp [whileN, ex, ht, hb], h2⟩
    obtain ⟨k, r, h1, h2⟩ := key n σ s h
    -- two ends of one loop are one
    have mono : ∀ k σ s r, whileN t b k σ s = some r → ∀ j, whileN t b (k + j) σ s = some r := by
      intro k
      induction k with
      | zero => intro σ s r h; simp [whileN] at h
      | succ k ih =>
        intro σ s r h j
        rw [show k + 1 + j = (k + j) + 1 by omega]
        unfold whileN ex at h ⊢
        cases ht : t σ s with
        | none => rw [ht] at h; simp at h
        | some q =>
          rw [ht] at h
          cases q with
          | exc c fs s' => exact h
          | ok c s1 =>
            cases c with
            | false => exact h
            | true =>
              simp only [if_true] at h ⊢
              cases hb : b σ s1 with
              | none => rw [hb] at h; simp at h
              | some q =>
                rw [hb] at h
                cases q with
                | nx e2 s2 => exact ih e2 s2 r h j
                | ct e2 s2 => exact ih e2 s2 r h j
                | bk e2 s2 => exact h
                | rt d2 s2 => exact h
                | xc c fs e2 s2 => exact h
    unfold cWhile
    have hx : ∃ r, ∃ n, whileN t b n σ s = some r := ⟨r, k, h1⟩
    rw [dif_pos hx]
    obtain ⟨k', hk'⟩ := Classical.choose_spec hx
    have e1 := mono k σ s r h1 k'
    have e2 := mono k' σ s _ hk' k
    rw [Nat.add_comm] at e2
    rw [e1] at e2
    rw [← Option.some.inj e2]
    exact h2
/-- the list that a comprehension over values makes: I by what is left, what is made -/
theorem w_lcV {D0 : Nat} {vs : List Nat} {g : G} {t : T} {e : E} (I : List D → List D → S → Prop) : ∀ (ds acc : List D) {s : S}, I ds acc s → s[D0]? = some (.lst acc) →
    (∀ d r acc s, I (d :: r) acc s → s[D0]? = some (.lst acc) → ∃ σ1, g d (wipe σ vs) s = some σ1 ∧ wE (t σ1 s) (fun c s1 => if c = true then wE (e σ1 s1) (fun y s2 => s2[D0]? = some (.lst acc) ∧ acc.length < 16777216 ∧ I r (acc ++ [y]) (s2.set D0 (.lst (acc ++ [y])))) (fun _ _ _ => False) else s1[D0]? = some (.lst acc) ∧ I r acc s1) (fun _ _ _ => False)) →
    ∃ s' acc', lcV D0 vs g t e ds σ s = some s' ∧ s'[D0]? = some (.lst acc') ∧ I [] acc' s'
  | [], acc, s, h, hD, _ => ⟨s, acc, rfl, hD, h⟩
  | d :: r, acc, s, h, hD, hs => by
    with_unfolding_all
      obtain ⟨σ1, h1, h2⟩ := hs d r acc s h hD
      unfold lcV
      rw [h1]
      dsimp only
      cases ht : t σ1 s with
      | none => rw [ht] at h2; exact h2.elim
      | some q =>
        rw [ht] at h2
        cases q with
        | exc c fs s' => exact h2.elim
        | ok c s1 =>
          cases c with
          | false =>
            simp only [w_some, Bool.false_eq_true, if_false] at h2
            exact w_lcV I r acc h2.2 h2.1 hs
          | true =>
            simp only [w_some, if_true] at h2
            dsimp only
            cases he : e σ1 s1 with
            | none => rw [he] at h2; exact h2.elim
            | some q =>
              rw [he] at h2
              cases q with
              | exc c fs s' => exact h2.elim
              | ok y s2 =>
                obtain ⟨h3, h4, h5⟩ := w_some.mp h2
                have hl : D0 < s2.length := (List.getElem?_eq_some_iff.mp h3).1
                dsimp only
                unfold lcStep
                rw [h3]
                dsimp only
                rw [if_pos h4]
                exact w_lcV I r (acc ++ [y]) h5 (by rw [List.getElem?_set_self hl]) hs
theorem w_lc {vs : List Nat} {src : SrcE} {g : G} {t : T} {e : E} {Q : D → S → Prop} : wE (eLc vs src g t e σ s) Q X ↔ wE (src σ s) (fun sk s1 => wE (match sk with
    | .vals ds => lcNew s1 fun D0 s2 => lcV D0 vs g t e ds σ s2
    | .list n k => lcNew s1 fun D0 s2 => lcL D0 n vs g t e k 0 σ s2
    | .dict n ds => lcDict n s1 fun s2 => lcNew s2 fun D0 s3 => lcV D0 vs g t e ds σ s3) Q X) X := by
  with_unfolding_all
    exact w_bnd
theorem w_lcNew {f : Nat → S → Option S} {Q : D → S → Prop} : wE (lcNew s f) Q X ↔ ∃ s', f s.length (s ++ [.lst []]) = some s' ∧ Q (.ref s.length) s' := by
  with_unfolding_all
    unfold lcNew
    rw [w_map]
    rfl
end
end Fc
namespace Fc
open PySem
section
variable {α β : Type} {s : S} {σ : Env} {X : Xc}
def onD (o : Option (Option D)) (k : D → Prop) : Prop := match o with
  | some (some d) => k d
  | _ => False
@[simp] theorem onD_some {d : D} {k : D → Prop} : onD (some (some d)) k ↔ k d := by
  with_unfolding_all
    exact Iff.rfl
def onO {α : Type} (o : Option α) (k : α → Prop) : Prop := match o with
  | some d => k d
  | none => False
@[simp] theorem onO_some {d : α} {k : α → Prop} : onO (some d) k ↔ k d := by
  with_unfolding_all
    exact Iff.rfl
@[simp] theorem onO_none {k : α → Prop} : onO none k ↔ False := by
  with_unfolding_all
    exact Iff.rfl
theorem onO_iff {o : Option α} {k : α → Prop} : onO o k ↔ ∃ d, o = some d ∧ k d := by
  with_unfolding_all
    cases o <;> simp
def onB (x : D) (k : Bool → Prop) : Prop := match x with
  | .bl c => k c
  | _ => False
@[simp] theorem onB_bl {c : Bool} {k : Bool → Prop} : onB (.bl c) k ↔ k c := by
  with_unfolding_all
    exact Iff.rfl
theorem onB_iff {x : D} {k : Bool → Prop} : onB x k ↔ ∃ c, x = .bl c ∧ k c := by
  with_unfolding_all
    cases x <;> simp [onB]
def onI (x : D) (k : Int → Prop) : Prop := match x with
  | .int c => k c
  | _ => False
@[simp] theorem onI_int {c : Int} {k : Int → Prop} : onI (.int c) k ↔ k c := by
  with_unfolding_all
    exact Iff.rfl
theorem onI_iff {x : D} {k : Int → Prop} : onI x k ↔ ∃ c, x = .int c ∧ k c := by
  with_unfolding_all
    cases x <;> simp [onI]
/-- by a truth value -/
def onT (c : Bool) (a b : Prop) : Prop := if c = true then a else b
@[simp] theorem onT_t {a b : Prop} : onT true a b ↔ a := by
  with_unfolding_all
    simp [onT]
@[simp] theorem onT_f {a b : Prop} : onT false a b ↔ b := by
  with_unfolding_all
    simp [onT]
theorem onT_iff {c : Bool} {a b : Prop} : onT c a b ↔ (c = true → a) ∧ (c = false → b) := by
  with_unfolding_all
    cases c <;> simp [onT]
theorem onT_by {c : Bool} {a b : Prop} (h1 : c = true → a) (h2 : c = false → b) : onT c a b := by
  with_unfolding_all
    exact onT_iff.mpr ⟨h1, h2⟩
@[simp ↓] theorem v_var {i : Nat} {Q : D → S → Prop} : wE (eVar i σ s) Q X ↔ onD σ[i]? fun d => Q d s := by
  with_unfolding_all
    rw [w_var]
    unfold onD
    cases h : σ[i]? with
    | none => simp
    | some o => cases o <;> simp
@[simp ↓] theorem v_c {d : D} {Q : D → S → Prop} : wE (eC d σ s) Q X ↔ Q d s := by
  with_unfolding_all
    exact Iff.rfl
@[simp ↓] theorem v_e1 {f : D → M D} {a : E} {Q : D → S → Prop} : wE (e1 f a σ s) Q X ↔ wE (a σ s) (fun x s' => wE (f x s') Q X) X := by
  with_unfolding_all
    exact w_e1
@[simp ↓] theorem v_e2 {f : D → D → M D} {a b : E} {Q : D → S → Prop} : wE (e2 f a b σ s) Q X ↔ wE (a σ s) (fun x s1 => wE (b σ s1) (fun y s2 => wE (f x y s2) Q X) X) X := by
  with_unfolding_all
    exact w_e2
@[simp ↓] theorem v_lnil {Q : List D → S → Prop} : wE (lNil σ s) Q X ↔ Q [] s := by
  with_unfolding_all
    exact Iff.rfl
@[simp ↓] theorem v_lcons {a : E} {r : EL} {Q : List D → S → Prop} : wE (lCons a r σ s) Q X ↔ wE (a σ s) (fun x s1 => wE (r σ s1) (fun xs s2 => Q (x :: xs) s2) X) X := by
  with_unfolding_all
    exact w_lcons
@[simp ↓] theorem v_eN {f : List D → M D} {es : EL} {Q : D → S → Prop} : wE (eN f es σ s) Q X ↔ wE (es σ s) (fun xs s' => wE (f xs s') Q X) X := by
  with_unfolding_all
    exact w_eN
@[simp ↓] theorem v_eM {f : D → List D → M D} {o : E} {es : EL} {Q : D → S → Prop} : wE (eM f o es σ s) Q X ↔ wE (o σ s) (fun x s1 => onT (isLst s1 x) (wE (es σ s1) (fun xs s2 => wE (f x xs s2) Q X) X) False) X := by
  with_unfolding_all
    rw [w_eM]
    constructor <;> (intro h; refine wE_mono h fun x s1 h => ?_; revert h; cases isLst s1 x <;> simp)
@[simp ↓] theorem v_if {t : T} {a b : E} {Q : D → S → Prop} : wE (eIf t a b σ s) Q X ↔ wE (t σ s) (fun c s1 => onT c (wE (a σ s1) Q X) (wE (b σ s1) Q X)) X := by
  with_unfolding_all
    exact w_if
@[simp ↓] theorem v_or {a b : E} {Q : D → S → Prop} : wE (eOr a b σ s) Q X ↔ wE (a σ s) (fun x s1 => onO (truth s1 x) fun c => onT c (Q x s1) (wE (b σ s1) Q X)) X := by
  with_unfolding_all
    rw [w_or]
    constructor <;> (intro h; refine wE_mono h fun x s1 h => ?_; revert h; simp [onO_iff, onT])
@[simp ↓] theorem v_and {a b : E} {Q : D → S → Prop} : wE (eAnd a b σ s) Q X ↔ wE (a σ s) (fun x s1 => onO (truth s1 x) fun c => onT c (wE (b σ s1) Q X) (Q x s1)) X := by
  with_unfolding_all
    rw [w_and]
    constructor <;> (intro h; refine wE_mono h fun x s1 h => ?_; revert h; simp [onO_iff, onT])
@[simp ↓] theorem v_tE {a : E} {Q : Bool → S → Prop} : wE (tE a σ s) Q X ↔ wE (a σ s) (fun x s1 => onO (truth s1 x) fun c => Q c s1) X := by
  with_unfolding_all
    rw [w_tE]
    constructor <;> (intro h; refine wE_mono h fun x s1 h => ?_; revert h; simp [onO_iff])
@[simp ↓] theorem v_tB {a : E} {Q : Bool → S → Prop} : wE (tB a σ s) Q X ↔ wE (a σ s) (fun x s1 => onB x fun c => Q c s1) X := by
  with_unfolding_all
    rw [w_tB]
    constructor <;> (intro h; refine wE_mono h fun x s1 h => ?_; revert h; simp [onB_iff])
@[simp ↓] theorem v_tNot {t : T} {Q : Bool → S → Prop} : wE (tNot t σ s) Q X ↔ wE (t σ s) (fun c s1 => Q (!c) s1) X := by
  with_unfolding_all
    exact w_tNot
@[simp ↓] theorem v_eNotT {t : T} {Q : D → S → Prop} : wE (eNotT t σ s) Q X ↔ wE (t σ s) (fun c s1 => Q (.bl (!c)) s1) X := by
  with_unfolding_all
    exact w_eNotT
@[simp ↓] theorem v_tAnd {t u : T} {Q : Bool → S → Prop} : wE (tAnd t u σ s) Q X ↔ wE (t σ s) (fun c s1 => onT c (wE (u σ s1) Q X) (Q false s1)) X := by
  with_unfolding_all
    exact w_tAnd
@[simp ↓] theorem v_tOr {t u : T} {Q : Bool → S → Prop} : wE (tOr t u σ s) Q X ↔ wE (t σ s) (fun c s1 => onT c (Q true s1) (wE (u σ s1) Q X)) X := by
  with_unfolding_all
    exact w_tOr
@[simp ↓] theorem v_tYes {Q : Bool → S → Prop} : wE (tYes σ s) Q X ↔ Q true s := by
  with_unfolding_all
    exact Iff.rfl
@[simp ↓] theorem v_chain {f g : D → D → M D} {a b c : E} {Q : D → S → Prop} : wE (eChain f g a b c σ s) Q X ↔ wE (a σ s) (fun x s1 => wE (b σ s1) (fun y s2 => wE (f x y s2) (fun r s3 => onB r fun k => onT k (wE (c σ s3) (fun z s4 => wE (g y z s4) Q X) X) (Q (.bl false) s3)) X) X) X := by
  with_unfolding_all
    rw [w_chain]
    constructor <;> (intro h; refine wE_mono h fun x s1 h => wE_mono h fun y s2 h => wE_mono h fun r s3 h => ?_; revert h; simp [onB_iff, onT])
@[simp ↓] theorem v_call {f : F} {dfl : List D} {es : EL} {Q : D → S → Prop} : wE (eCall f dfl es σ s) Q X ↔ wE (es σ s) (fun ds s1 => wE (f (ds ++ dfl) s1) Q X) X := by
  with_unfolding_all
    exact w_call
@[simp ↓] theorem v_cut {a : E} {lo hi : EO} {Q : D → S → Prop} : wE (eCut a lo hi σ s) Q X ↔ wE (a σ s) (fun x s1 => wE (lo σ s1) (fun l s2 => wE (hi σ s2) (fun h s3 => wE (oCut x l h s3) Q X) X) X) X := by
  with_unfolding_all
    exact w_cut
@[simp ↓] theorem v_pNo {Q : Option Int → S → Prop} : wE (pNo σ s) Q X ↔ Q none s := by
  with_unfolding_all
    exact Iff.rfl
@[simp ↓] theorem v_pYes {a : E} {Q : Option Int → S → Prop} : wE (pYes a σ s) Q X ↔ wE (a σ s) (fun x s1 => onI x fun i => Q (some i) s1) X := by
  with_unfolding_all
    rw [w_pYes]
    constructor <;> (intro h; refine wE_mono h fun x s1 h => ?_; revert h; simp [onI_iff])
@[simp ↓] theorem v_get2 {d k z : E} {Q : D → S → Prop} : wE (eGet2 d k z σ s) Q X ↔ wE (d σ s) (fun x s1 => onT (isDict s1 x) (wE (k σ s1) (fun y s2 => wE (z σ s2) (fun w s3 => onO (dgetAt s3 x y) fun o => Q (o.getD w) s3) X) X) False) X := by
  with_unfolding_all
    rw [w_get2]
    constructor
    · intro h
      refine wE_mono h fun x s1 h => ?_
      rw [h.1, onT_t]
      refine wE_mono h.2 fun y s2 h => wE_mono h fun w s3 h => ?_
      rw [onO_iff]; exact h
    · intro h
      refine wE_mono h fun x s1 h => ?_
      cases e : isDict s1 x with
      | false => rw [e] at h; simp at h
      | true =>
        rw [e, onT_t] at h
        refine ⟨rfl, wE_mono h fun y s2 h => wE_mono h fun w s3 h => ?_⟩
        rw [onO_iff] at h; exact h
@[simp ↓] theorem v_ite {α : Type} {c : Prop} [Decidable c] {m m' : Option (Res α)} {Q : α → S → Prop} : wE (if c then m else m') Q X ↔ onT (decide c) (wE m Q X) (wE m' Q X) := by
  with_unfolding_all
    by_cases h : c <;> simp [h]
@[simp ↓] theorem v_map {α : Type} {o : Option α} {f : α → Res β} {Q : β → S → Prop} : wE (o.map f) Q X ↔ onO o fun x => wE (some (f x)) Q X := by
  with_unfolding_all
    cases o <;> simp
@[simp ↓] theorem v_pur2 {f : S → D → D → Option D} {x y : D} {Q : D → S → Prop} : wE (pur2 f x y s) Q X ↔ onO (f s x y) fun d => Q d s := by
  with_unfolding_all
    rw [w_pur2, onO_iff]
@[simp ↓] theorem v_new {o : O} {Q : D → S → Prop} : wE (new o s) Q X ↔ Q (.ref s.length) (s ++ [o]) := by
  with_unfolding_all
    exact Iff.rfl
@[simp ↓] theorem v_ret {x : α} {Q : α → S → Prop} : wE (ret x s) Q X ↔ Q x s := by
  with_unfolding_all
    exact Iff.rfl
@[simp ↓] theorem k_nx {P : Pst} {e : Env} : wC (some (.nx e s)) P ↔ P.nx e s := by
  with_unfolding_all
    exact Iff.rfl
@[simp ↓] theorem k_none {P : Pst} : wC none P ↔ False := by
  with_unfolding_all
    exact Iff.rfl
@[simp ↓] theorem k_nil {P : Pst} : wC (cNil σ s) P ↔ P.nx σ s := by
  with_unfolding_all
    exact Iff.rfl
@[simp ↓] theorem k_never {P : Pst} : wC (cNever σ s) P ↔ False := by
  with_unfolding_all
    exact Iff.rfl
@[simp ↓] theorem k_seq {a b : C} {P : Pst} : wC (cSeq a b σ s) P ↔ wC (a σ s) { P with nx := fun e s => wC (b e s) P } := by
  with_unfolding_all
    exact wC_seq
@[simp ↓] theorem k_expr {e : E} {P : Pst} : wC (cExpr e σ s) P ↔ wE (e σ s) (fun _ s' => P.nx σ s') P.xc := by
  with_unfolding_all
    exact wC_ex
@[simp ↓] theorem k_ret {e : E} {P : Pst} : wC (cRet e σ s) P ↔ wE (e σ s) (fun d s' => P.rt d s') P.xc := by
  with_unfolding_all
    exact wC_ex
@[simp ↓] theorem k_brk {P : Pst} : wC (cBrk σ s) P ↔ P.bk σ s := by
  with_unfolding_all
    exact Iff.rfl
@[simp ↓] theorem k_cnt {P : Pst} : wC (cCnt σ s) P ↔ P.ct σ s := by
  with_unfolding_all
    exact Iff.rfl
@[simp ↓] theorem k_if {t : T} {a b : C} {P : Pst} : wC (cIf t a b σ s) P ↔ wE (t σ s) (fun c s1 => onT c (wC (a σ s1) P) (wC (b σ s1) P)) P.xc := by
  with_unfolding_all
    exact wC_if
@[simp ↓] theorem k_set {e : E} {g : G} {P : Pst} : wC (cSet e g σ s) P ↔ wE (e σ s) (fun d s1 => onO (g d σ s1) fun σ' => P.nx σ' s1) P.xc := by
  with_unfolding_all
    rw [wC_set]
    constructor <;> (intro h; refine wE_mono h fun x s1 h => ?_; revert h; simp [onO_iff])
@[simp ↓] theorem k_par {i j : Nat} {es : EL} {P : Pst} : wC (cPar i j es σ s) P ↔ wE (es σ s) (fun ds s1 => match ds with
    | [x, y] => P.nx ((σ.set i (some x)).set j (some y)) s1
    | _ => False) P.xc := by
  with_unfolding_all
    rw [wC_par]
    constructor
    · intro h
      refine wE_mono h fun ds s1 h => ?_
      obtain ⟨x, y, rfl, h⟩ := h
      exact h
    · intro h
      refine wE_mono h fun ds s1 h => ?_
      split at h
      · exact ⟨_, _, rfl, h⟩
      · exact h.elim
@[simp ↓] theorem k_par3 {i j l : Nat} {es : EL} {P : Pst} : wC (cPar3 i j l es σ s) P ↔ wE (es σ s) (fun ds s1 => match ds with
    | [x, y, z] => P.nx (((σ.set i (some x)).set j (some y)).set l (some z)) s1
    | _ => False) P.xc := by
  with_unfolding_all
    rw [wC_par3]
    constructor
    · intro h
      refine wE_mono h fun ds s1 h => ?_
      obtain ⟨x, y, z, rfl, h⟩ := h
      exact h
    · intro h
      refine wE_mono h fun ds s1 h => ?_
      split at h
      · exact ⟨_, _, _, rfl, h⟩
      · exact h.elim
@[simp ↓] theorem k_aug {i : Nat} {f : D → D → M D} {e : E} {P : Pst} : wC (cAug i f e σ s) P ↔ onD σ[i]? fun x => wE (e σ s) (fun y s1 => wE (f x y s1) (fun z s2 => P.nx (σ.set i (some z)) s2) P.xc) P.xc := by
  with_unfolding_all
    rw [wC_aug]
    unfold onD
    cases h : σ[i]? with
    | none => simp
    | some o => cases o <;> simp
/-- what a[i] = v does to the store -/
def putAt (s : S) (x y v : D) : Option S := match x with
  | .ref n => match s[n]? with
    | some (.lst ds) => match y with
      | .int k => (L2.ixN ds.length k).map fun j => s.set n (.lst (ds.set j v))
      | _ => none
    | some ob => (dput ob y v).map fun o' => s.set n o'
    | none => none
  | _ => none
@[simp ↓] theorem k_sub {o i e : E} {P : Pst} : wC (cSub o i e σ s) P ↔ wE (e σ s) (fun v s1 => wE (o σ s1) (fun x s2 => wE (i σ s2) (fun y s3 => onO (putAt s3 x y v) fun s4 => P.nx σ s4) P.xc) P.xc) P.xc := by
  with_unfolding_all
    rw [wC_sub]
    have key : ∀ (v x y : D) (s3 : S), onO (putAt s3 x y v) (fun s4 => P.nx σ s4) ↔ ∃ n ob, x = .ref n ∧ s3[n]? = some ob ∧
      ((∃ ds k j, ob = .lst ds ∧ y = .int k ∧ L2.ixN ds.length k = some j ∧ P.nx σ (s3.set n (.lst (ds.set j v)))) ∨ ((∀ ds, ob ≠ .lst ds) ∧ ∃ o', dput ob y v = some o' ∧ P.nx σ (s3.set n o'))) := by
      intro v x y s3
      unfold putAt
      cases x with
      | ref n =>
        dsimp only
        cases hn : s3[n]? with
        | none => simp [hn]
        | some ob =>
          cases ob with
          | lst ds =>
            cases y with
            | int k =>
              dsimp only
              cases hj : L2.ixN ds.length k with
              | none => simp [hn, hj]
              | some j => simp [hn, hj]
            | _ => simp [hn]
          | _ =>
            dsimp only
            cases hj : dput _ y v with
            | none => simp [hn, hj]
            | some j => simp [hn, hj]
      | _ => simp
    constructor
    · intro h
      exact wE_mono h fun v s1 h => wE_mono h fun x s2 h => wE_mono h fun y s3 h => (key v x y s3).mpr h
    · intro h
      exact wE_mono h fun v s1 h => wE_mono h fun x s2 h => wE_mono h fun y s3 h => (key v x y s3).mp h
/-- what a def does -/
theorem v_def {np nn : Nat} {b : C} {ds : List D} {Q : D → S → Prop} (h : ds.length = np) : wE (defF np nn b ds s) Q X ↔ wC (b (ds.map some ++ List.replicate (nn - np) none) s) { nx := fun _ s' => Q .non s', rt := Q, xc := X } := by
  with_unfolding_all
    rw [w_def]
    simp [h]
@[simp ↓] theorem v_for {src : SrcE} {g : G} {b : C} {P : Pst} : wC (cFor src g b σ s) P ↔ wE (src σ s) (fun sk s1 => match sk with
    | .vals ds => wC (forV g b ds σ s1) P
    | .list n k => wC (forL n g b k 0 σ s1) P
    | .dict n ds => wC (lockV n s1 fun s2 => forV g b ds σ s2) P) P.xc := by
  with_unfolding_all
    rw [wC_for]
    constructor <;> (intro h; refine wE_mono h fun x s1 h => ?_; cases x <;> exact h)
@[simp ↓] theorem v_iSrc {k : Src} {e : E} {Q : SK → S → Prop} : wE (iSrc k e σ s) Q X ↔ wE (e σ s) (fun x s1 => onO (srcOf k x s1) fun sk => Q sk s1) X := by
  with_unfolding_all
    rw [w_iSrc]
    constructor <;> (intro h; refine wE_mono h fun x s1 h => ?_; revert h; simp [onO_iff])
@[simp ↓] theorem v_iRange {a b : E} {Q : SK → S → Prop} : wE (iRange a b σ s) Q X ↔ wE (a σ s) (fun x s1 => wE (b σ s1) (fun y s2 => onI x fun i => onI y fun j => onT (small i && small j) (Q (.vals (rangeL i j)) s2) False) X) X := by
  with_unfolding_all
    rw [w_iRange]
    constructor <;> (intro h; refine wE_mono h fun x s1 h => wE_mono h fun y s2 h => ?_; revert h; simp only [onI_iff, onT])
    · rintro ⟨i, j, rfl, rfl, h, q⟩
      exact ⟨i, rfl, j, rfl, by rw [if_pos h]; exact q⟩
    · rintro ⟨i, rfl, j, rfl, q⟩
      by_cases h : (small i && small j) = true
      · rw [if_pos h] at q; exact ⟨i, j, rfl, rfl, h, q⟩
      · rw [if_neg h] at q; exact q.elim
@[simp ↓] theorem v_lc {vs : List Nat} {src : SrcE} {g : G} {t : T} {e : E} {Q : D → S → Prop} : wE (eLc vs src g t e σ s) Q X ↔ wE (src σ s) (fun sk s1 => match sk with
    | .vals ds => wE (lcNew s1 fun D0 s2 => lcV D0 vs g t e ds σ s2) Q X
    | .list n k => wE (lcNew s1 fun D0 s2 => lcL D0 n vs g t e k 0 σ s2) Q X
    | .dict n ds => wE (lcDict n s1 fun s2 => lcNew s2 fun D0 s3 => lcV D0 vs g t e ds σ s3) Q X) X := by
  with_unfolding_all
    rw [w_lc]
    constructor <;> (intro h; refine wE_mono h fun x s1 h => ?_; cases x <;> exact h)
end
end Fc
namespace Fc
open PySem
section
variable {s : S} {σ : Env} {X : Xc} {Q : D → S → Prop}
@[simp ↓] theorem o_add_i {i j : Int} : wE (oAdd (.int i) (.int j) s) Q X ↔ Q (.int (i + j)) s := by
  with_unfolding_all
    exact Iff.rfl
@[simp ↓] theorem o_add_s {a b : Str} : wE (oAdd (.str a) (.str b) s) Q X ↔ onT (sz (a.length + b.length)) (Q (.str (a ++ b)) s) False := by
  with_unfolding_all
    unfold oAdd; by_cases h : sz (a.length + b.length) = true <;> simp [h]
@[simp ↓] theorem o_add_t {a b : List D} : wE (oAdd (.tup a) (.tup b) s) Q X ↔ onT (sz (a.length + b.length)) (Q (.tup (a ++ b)) s) False := by
  with_unfolding_all
    unfold oAdd; by_cases h : sz (a.length + b.length) = true <;> simp [h]
@[simp ↓] theorem o_sub_i {i j : Int} : wE (oSub (.int i) (.int j) s) Q X ↔ Q (.int (i - j)) s := by
  with_unfolding_all
    exact Iff.rfl
@[simp ↓] theorem o_mul_i {i j : Int} : wE (oMul (.int i) (.int j) s) Q X ↔ onT (decide (bits i + bits j < 900000)) (Q (.int (i * j)) s) False := by
  with_unfolding_all
    unfold oMul; by_cases h : bits i + bits j < 900000 <;> simp [h]
@[simp ↓] theorem o_mod_i {i j : Int} : wE (oMod (.int i) (.int j) s) Q X ↔ onT (decide (0 < j)) (Q (.int (i % j)) s) False := by
  with_unfolding_all
    unfold oMod pur2; by_cases h : 0 < j <;> simp [h]
@[simp ↓] theorem o_div_i {i j : Int} : wE (oDiv (.int i) (.int j) s) Q X ↔ onT (decide (0 < j) && decide (bits j < 8000)) (Q (.int (i / j)) s) False := by
  with_unfolding_all
    unfold oDiv pur2
    by_cases h : (decide (0 < j) && decide (bits j < 8000)) = true
    · rw [h]; simp only [if_pos h]; simp
    · have h' := Bool.eq_false_iff.mpr h
      rw [h']; simp only [if_neg h]; simp
@[simp ↓] theorem o_pow_i {i j : Int} : wE (oPow (.int i) (.int j) s) Q X ↔ onT (decide (0 ≤ j) && decide ((bits i + 1) * j.toNat ≤ 100000)) (Q (.int (i ^ j.toNat)) s) False := by
  with_unfolding_all
    unfold oPow pur2
    by_cases h : (decide (0 ≤ j) && decide ((bits i + 1) * j.toNat ≤ 100000)) = true
    · rw [h]; simp only [if_pos h]; simp
    · have h' := Bool.eq_false_iff.mpr h
      rw [h']; simp only [if_neg h]; simp
@[simp ↓] theorem o_neg_i {i : Int} : wE (oNeg (.int i) s) Q X ↔ Q (.int (-i)) s := by
  with_unfolding_all
    exact Iff.rfl
@[simp ↓] theorem o_lt_i {i j : Int} : wE (oLt (.int i) (.int j) s) Q X ↔ Q (.bl (decide (i < j))) s := by
  with_unfolding_all
    exact Iff.rfl
@[simp ↓] theorem o_le_i {i j : Int} : wE (oLe (.int i) (.int j) s) Q X ↔ Q (.bl (decide (i ≤ j))) s := by
  with_unfolding_all
    exact Iff.rfl
@[simp ↓] theorem o_gt_i {i j : Int} : wE (oGt (.int i) (.int j) s) Q X ↔ Q (.bl (decide (j < i))) s := by
  with_unfolding_all
    exact Iff.rfl
@[simp ↓] theorem o_ge_i {i j : Int} : wE (oGe (.int i) (.int j) s) Q X ↔ Q (.bl (decide (j ≤ i))) s := by
  with_unfolding_all
    exact Iff.rfl
@[simp ↓] theorem o_eq {x y : D} : wE (oEq x y s) Q X ↔ onO (eqD s x y) fun b => Q (.bl b) s := by
  with_unfolding_all
    unfold oEq pur2; cases h : eqD s x y <;> simp [h]
@[simp ↓] theorem o_ne {x y : D} : wE (oNe x y s) Q X ↔ onO (eqD s x y) fun b => Q (.bl (!b)) s := by
  with_unfolding_all
    unfold oNe pur2; cases h : eqD s x y <;> simp [h]
@[simp ↓] theorem o_in {x y : D} : wE (oIn x y s) Q X ↔ onO (isIn s x y) fun b => Q (.bl b) s := by
  with_unfolding_all
    unfold oIn pur2; cases h : isIn s x y <;> simp [h]
@[simp ↓] theorem o_notin {x y : D} : wE (oNotIn x y s) Q X ↔ onO (isIn s x y) fun b => Q (.bl (!b)) s := by
  with_unfolding_all
    unfold oNotIn pur2; cases h : isIn s x y <;> simp [h]
@[simp ↓] theorem o_at {x y : D} : wE (oAt x y s) Q X ↔ onO (atD s x y) fun b => Q b s := by
  with_unfolding_all
    unfold oAt pur2; cases h : atD s x y <;> simp [h]
def isNon : D → Bool
  | .non => true
  | _ => false
@[simp] theorem isNon_non : isNon .non = true := by
  with_unfolding_all
    exact rfl
@[simp] theorem isNon_bl {b : Bool} : isNon (.bl b) = false := by
  with_unfolding_all
    exact rfl
@[simp] theorem isNon_int {b : Int} : isNon (.int b) = false := by
  with_unfolding_all
    exact rfl
@[simp] theorem isNon_str {b : Str} : isNon (.str b) = false := by
  with_unfolding_all
    exact rfl
@[simp] theorem isNon_tup {b : List D} : isNon (.tup b) = false := by
  with_unfolding_all
    exact rfl
@[simp] theorem isNon_ref {b : Nat} : isNon (.ref b) = false := by
  with_unfolding_all
    exact rfl
@[simp ↓] theorem o_isN {x : D} : wE (oIsN x s) Q X ↔ Q (.bl (isNon x)) s := by
  with_unfolding_all
    cases x <;> rfl
@[simp ↓] theorem o_notN {x : D} : wE (oNotN x s) Q X ↔ Q (.bl (!isNon x)) s := by
  with_unfolding_all
    cases x <;> rfl
@[simp ↓] theorem o_len {x : D} : wE (fLen [x] s) Q X ↔ onO (lenD s x) fun n => Q (.int n) s := by
  with_unfolding_all
    unfold fLen; cases h : lenD s x <;> simp [h]
@[simp ↓] theorem o_int_i {i : Int} : wE (fInt [.int i] s) Q X ↔ Q (.int i) s := by
  with_unfolding_all
    exact Iff.rfl
@[simp ↓] theorem o_int_b {b : Bool} : wE (fInt [.bl b] s) Q X ↔ Q (.int (if b then 1 else 0)) s := by
  with_unfolding_all
    exact Iff.rfl
@[simp ↓] theorem o_max {i j : Int} : wE (fMax [.int i, .int j] s) Q X ↔ Q (.int (max i j)) s := by
  with_unfolding_all
    have e : maxI i [j] = max i j := by
      simp only [maxI]; split <;> omega
    unfold fMax mm
    simp [e]
@[simp ↓] theorem o_min {i j : Int} : wE (fMin [.int i, .int j] s) Q X ↔ Q (.int (min i j)) s := by
  with_unfolding_all
    have e : minI i [j] = min i j := by
      simp only [minI]; split <;> omega
    unfold fMin mm
    simp [e]
@[simp ↓] theorem o_tup {ds : List D} : wE (mTup ds s) Q X ↔ onT (sz ds.length) (Q (.tup ds) s) False := by
  with_unfolding_all
    unfold mTup; cases sz ds.length <;> simp [stuck]
@[simp ↓] theorem o_lst {ds : List D} : wE (mLst ds s) Q X ↔ onT (sz ds.length) (Q (.ref s.length) (s ++ [.lst ds])) False := by
  with_unfolding_all
    unfold mLst; cases sz ds.length <;> simp [stuck]
@[simp ↓] theorem o_dK {Q : D → S → Prop} : wE (mDK s) Q X ↔ Q (.ref s.length) (s ++ [.dK []]) := by
  with_unfolding_all
    exact Iff.rfl
@[simp ↓] theorem o_dT {Q : D → S → Prop} : wE (mDT s) Q X ↔ Q (.ref s.length) (s ++ [.dT []]) := by
  with_unfolding_all
    exact Iff.rfl
@[simp ↓] theorem o_is {t : Ty} {x : D} : wE (oIs t x s) Q X ↔ onO (isTy s x t) fun b => Q (.bl b) s := by
  with_unfolding_all
    unfold oIs; cases isTy s x t <;> simp
@[simp ↓] theorem o_bitlen {i : Int} : wE (oBitLen (.int i) s) Q X ↔ Q (.int (Builtin.Int.intBits i : Nat)) s := by
  with_unfolding_all
    exact Iff.rfl
@[simp ↓] theorem o_tuple_t {ds : List D} : wE (fTuple [.tup ds] s) Q X ↔ Q (.tup ds) s := by
  with_unfolding_all
    exact Iff.rfl
@[simp ↓] theorem o_tuple_l {n : Nat} : wE (fTuple [.ref n] s) Q X ↔ onO (lstAt s n) fun ds => Q (.tup ds) s := by
  with_unfolding_all
    unfold fTuple lstAt
    cases h : s[n]? with
    | none => simp [h]
    | some o => cases o <;> simp [h]
@[simp ↓] theorem o_app {n : Nat} {y : D} : wE (mAppend (.ref n) [y] s) Q X ↔ onO (lstAt s n) fun ds => onT (decide (ds.length < 16777216)) (Q .non (s.set n (.lst (ds ++ [y])))) False := by
  with_unfolding_all
    unfold mAppend mutO lstAt
    cases h : s[n]? with
    | none => simp [h]
    | some o =>
      cases o <;> simp [h]
      rename_i ds
      by_cases h' : ds.length < 16777216 <;> simp [h']
@[simp ↓] theorem o_revL {n : Nat} : wE (oRevL (.ref n) s) Q X ↔ onO (lstAt s n) fun ds => Q (.ref s.length) (s ++ [.lst ds.reverse]) := by
  with_unfolding_all
    unfold oRevL lstAt
    cases h : s[n]? with
    | none => simp [h]
    | some o => cases o <;> simp [h]
@[simp ↓] theorem o_cut_t {ds : List D} {lo hi : Option Int} : wE (oCut (.tup ds) lo hi s) Q X ↔ Q (.tup (cutL ds lo hi)) s := by
  with_unfolding_all
    exact Iff.rfl
@[simp] theorem g_nm {i : Nat} {d : D} : gName i d σ s = some (σ.set i (some d)) := by
  with_unfolding_all
    exact rfl
@[simp] theorem g_tp {k : Nat} {r : GL} {ds : List D} : gTup k r (.tup ds) σ s = if ds.length = k then r ds σ s else none := by
  with_unfolding_all
    exact rfl
@[simp] theorem g_nl : gNil [] σ s = some σ := by
  with_unfolding_all
    exact rfl
@[simp] theorem g_cn {g : G} {r : GL} {d : D} {ds : List D} : gCons g r (d :: ds) σ s = (g d σ s).bind fun σ' => r ds σ' s := by
  with_unfolding_all
    exact rfl
@[simp] theorem sz_lit {n : Nat} (h : n ≤ 16777216) : sz n = true := by
  with_unfolding_all
    exact decide_eq_true h
@[simp] theorem at_tup {ds : List D} {i : Int} : atD s (.tup ds) (.int i) = L2.atI ds i := by
  with_unfolding_all
    exact rfl
@[simp] theorem at_rol {ds : List D} {i : Int} : atD s (.rol ds) (.int i) = L2.atI ds i := by
  with_unfolding_all
    exact rfl
theorem at_ref {n : Nat} {ds : List D} {i : Int} (h : s[n]? = some (.lst ds)) : atD s (.ref n) (.int i) = L2.atI ds i := by
  with_unfolding_all
    simp [atD, h]
theorem atI_nat {α : Type} {xs : List α} {i : Nat} : L2.atI xs (i : Int) = xs[i]? := by
  with_unfolding_all
    unfold L2.atI L2.ixN
    rw [if_pos (by omega)]
    by_cases h : i < xs.length
    · rw [if_pos (by omega)]; simp
    · rw [if_neg (by omega)]
      simp only [Option.bind_none]
      exact (List.getElem?_eq_none (by omega)).symm
@[simp] theorem atI_0 {α : Type} {xs : List α} : L2.atI xs 0 = xs[0]? := by
  with_unfolding_all
    exact atI_nat (i := 0)
@[simp] theorem atI_1 {α : Type} {xs : List α} : L2.atI xs 1 = xs[1]? := by
  with_unfolding_all
    exact atI_nat (i := 1)
@[simp] theorem atI_2 {α : Type} {xs : List α} : L2.atI xs 2 = xs[2]? := by
  with_unfolding_all
    exact atI_nat (i := 2)
@[simp] theorem atI_3 {α : Type} {xs : List α} : L2.atI xs 3 = xs[3]? := by
  with_unfolding_all
    exact atI_nat (i := 3)
@[simp] theorem len_tup {ds : List D} : lenD s (.tup ds) = some ds.length := by
  with_unfolding_all
    exact rfl
@[simp] theorem len_rol {ds : List D} : lenD s (.rol ds) = some ds.length := by
  with_unfolding_all
    exact rfl
@[simp] theorem tr_bl {b : Bool} : truth s (.bl b) = some b := by
  with_unfolding_all
    exact rfl
@[simp] theorem tr_int {b : Int} : truth s (.int b) = some (b != 0) := by
  with_unfolding_all
    exact rfl
@[simp] theorem tr_non : truth s .non = some false := by
  with_unfolding_all
    exact rfl
@[simp] theorem tr_tup {ds : List D} : truth s (.tup ds) = some (!ds.isEmpty) := by
  with_unfolding_all
    exact rfl
@[simp] theorem ty_non {t : Ty} : isTy s .non t = some false := by
  with_unfolding_all
    exact rfl
@[simp] theorem ty_bl {b : Bool} {t : Ty} : isTy s (.bl b) t = some (match t with | .int => true | .bool => true | _ => false) := by
  with_unfolding_all
    exact rfl
@[simp] theorem ty_int {b : Int} {t : Ty} : isTy s (.int b) t = some (match t with | .int => true | _ => false) := by
  with_unfolding_all
    exact rfl
@[simp] theorem ty_str {b : Str} {t : Ty} : isTy s (.str b) t = some (match t with | .str => true | _ => false) := by
  with_unfolding_all
    exact rfl
@[simp] theorem ty_tup {b : List D} {t : Ty} : isTy s (.tup b) t = some (match t with | .tuple => true | _ => false) := by
  with_unfolding_all
    exact rfl
theorem eq_of {a b : D} {x y : PyData} (h1 : dat s 60 a = some x) (h2 : dat s 60 b = some y) (h3 : SeqAt.shaped x = true) (h4 : SeqAt.shaped y = true) : eqD s a b = some (PyData.eqv x y) := by
  with_unfolding_all
    unfold eqD
    rw [h1, h2]
    simp [h3, h4]
@[simp] theorem dat_non {n : Nat} : dat s n .non = some .none := by
  with_unfolding_all
    cases n <;> simp [dat]
@[simp] theorem dat_bl {n : Nat} {b : Bool} : dat s n (.bl b) = some (.bool b) := by
  with_unfolding_all
    cases n <;> simp [dat]
@[simp] theorem dat_int {n : Nat} {b : Int} : dat s n (.int b) = some (.int b) := by
  with_unfolding_all
    cases n <;> simp [dat]
@[simp] theorem dat_str {n : Nat} {b : Str} : dat s n (.str b) = some (.str b) := by
  with_unfolding_all
    cases n <;> simp [dat]
@[simp] theorem dats_nil {n : Nat} : dats s n [] = some [] := by
  with_unfolding_all
    cases n <;> simp [dats]
theorem dat_tup {n : Nat} {ds : List D} : dat s (n + 1) (.tup ds) = (dats s n ds).map .tuple := by
  with_unfolding_all
    simp [dat]
theorem dats_cons {n : Nat} {d : D} {r : List D} {x : PyData} {xs : List PyData} (h1 : dat s n d = some x) (h2 : dats s n r = some xs) : dats s n (d :: r) = some (x :: xs) := by
  with_unfolding_all
    cases n <;> simp [dats, h1, h2]
theorem dat_ref {n a : Nat} {ds : List D} (h : s[a]? = some (.lst ds)) : dat s (n + 1) (.ref a) = (dats s n ds).map .list := by
  with_unfolding_all
    simp [dat, lstAt, h]
end
end Fc
namespace P1
open PySem Fc
noncomputable section
def b_law_cell : C :=
 (cSeq (cIf (tB (e2 oLt (eVar 1) (eN fLen (lCons (eVar 0) lNil))))
 (cRet (e2 oAt (eVar 0) (eVar 1)))
 cNil)
 (cRet (eC (.int 0))))
def d_law_cell : F := defF 2 2 b_law_cell
def b_law_generator : C :=
 (cSeq (cSet (eCall d_law_cell [] (lCons (eVar 0) (lCons (eVar 1) lNil))) (gName 2))
 (cRet (eN mLst (lCons (e2 oMod (eN fInt (lCons (eN fMax (lCons (e2 oSub (eVar 2) (e2 oPow (eC (.int 10)) (eC (.int 18)))) (lCons (eC (.int 0)) lNil))) lNil)) (e2 oPow (e2 oPow (eC (.int 10)) (eC (.int 60))) (eC (.int 10)))) (lCons (e2 oMod (eN fInt (lCons (eVar 2) lNil)) (eC (.int 2147483647))) (lCons (e2 oMul (eC (.int 1000)) (eVar 1)) lNil))))))
def d_law_generator : F := defF 2 3 b_law_generator
def b_law_hash : C :=
 (cSeq (cSet (e2 oMod (eN fInt (lCons (e2 oAdd (e2 oAdd (e2 oAdd (e2 oMul (eVar 0) (eC (.int 1103515245))) (e2 oMul (e2 oMul (eC (.int 7919)) (eVar 1)) (eVar 1))) (eVar 1)) (eC (.int 1))) lNil)) (eC (.int 2147483647))) (gName 2))
 (cSeq (cSet (e2 oMod (eN fInt (lCons (e2 oAdd (e2 oMul (eVar 2) (eVar 2)) (eC (.int 69621))) lNil)) (eC (.int 2147483629))) (gName 2))
 (cRet (e2 oMod (eN fInt (lCons (e2 oMul (eVar 2) (eC (.int 48271))) lNil)) (eC (.int 2147483587))))))
def d_law_hash : F := defF 2 3 b_law_hash
def b_law_random : C :=
 (cSeq (cIf (tB (e2 oGt (e2 oAt (eVar 0) (eC (.int 0))) (eC (.int 0))))
 (cSeq (cSet (e2 oMod (eN fInt (lCons (e2 oAt (eVar 0) (eC (.int 0))) lNil)) (eVar 1)) (gName 2))
 (cSeq (cSub (eVar 0) (eC (.int 0)) (e2 oDiv (e2 oAt (eVar 0) (eC (.int 0))) (eVar 1)))
 (cRet (eVar 2))))
 cNil)
 (cSeq (cSet (eC (.int 0)) (gName 2))
 (cSeq (cFor (iRange (eC (.int 0)) (e2 oAdd (eC (.int 1)) (e2 oDiv (e1 oBitLen (eVar 1)) (eC (.int 30))))) (gName 3)
 (cSeq (cSub (eVar 0) (eC (.int 2)) (e2 oAdd (e2 oAt (eVar 0) (eC (.int 2))) (eC (.int 1))))
 (cSet (e2 oAdd (e2 oMul (eVar 2) (eC (.int 2147483587))) (eCall d_law_hash [] (lCons (e2 oAt (eVar 0) (eC (.int 1))) (lCons (e2 oAt (eVar 0) (eC (.int 2))) lNil)))) (gName 2))))
 (cRet (e2 oMod (eN fInt (lCons (eVar 2) lNil)) (eVar 1))))))
def d_law_random : F := defF 2 4 b_law_random
def b_law_arcs : C :=
 (cSeq (cSet (eN mLst lNil) (gName 4))
 (cSeq (cFor (iRange (eC (.int 0)) (eVar 1)) (gName 5)
 (cFor (iRange (eC (.int 0)) (eVar 2)) (gName 6)
 (cIf (tB (e2 oEq (eCall d_law_random [] (lCons (eVar 0) (lCons (eVar 3) lNil))) (eC (.int 0))))
 (cExpr (eM mAppend (eVar 4) (lCons (eN mTup (lCons (eVar 5) (lCons (eVar 6) (lCons (e2 oEq (eCall d_law_random [] (lCons (eVar 0) (lCons (eC (.int 2)) lNil))) (eC (.int 0))) lNil)))) lNil)))
 cNil)))
 (cSeq (cIf (tAnd (tB (e2 oNe (eVar 4) (eN mLst lNil))) (tB (e2 oEq (eCall d_law_random [] (lCons (eVar 0) (lCons (eC (.int 4)) lNil))) (eC (.int 0)))))
 (cExpr (eM mAppend (eVar 4) (lCons (e2 oAdd (eCut (e2 oAt (eVar 4) (eC (.int 0))) pNo (pYes (eC (.int 2)))) (eN mTup (lCons (eNotT (tE (e2 oAt (e2 oAt (eVar 4) (eC (.int 0))) (eC (.int 2))))) lNil))) lNil)))
 cNil)
 (cRet (e2 oAt (eN mLst (lCons (eVar 4) (lCons (e1 oRevL (eVar 4)) lNil))) (eCall d_law_random [] (lCons (eVar 0) (lCons (eC (.int 2)) lNil))))))))
def d_law_arcs : F := defF 4 7 b_law_arcs
def b_law_grid : C :=
 (cSeq (cSet (eN mLst (lCons (eN mLst (lCons (eC (.int 0)) (lCons (eC (.int 0)) (lCons (eC (.int 0)) lNil)))) (lCons (eN mLst (lCons (eC (.int 0)) (lCons (eC (.int 0)) (lCons (eC (.int 0)) lNil)))) (lCons (eN mLst (lCons (eC (.int 0)) (lCons (eC (.int 0)) (lCons (eC (.int 0)) lNil)))) lNil)))) (gName 1))
 (cSeq (cFor (iSrc .seq (eVar 0)) (gTup 3 (gCons (gName 2) (gCons (gName 3) (gCons (gName 4) gNil))))
 (cSub (e2 oAt (eVar 1) (eVar 2)) (eVar 3) (eN fMax (lCons (eN fInt (lCons (e2 oAt (e2 oAt (eVar 1) (eVar 2)) (eVar 3)) lNil)) (lCons (e2 oAdd (eC (.int 1)) (eN fInt (lCons (eVar 4) lNil))) lNil)))))
 (cRet (eVar 1))))
def d_law_grid : F := defF 1 5 b_law_grid
def b_law_listed : C :=
 (cSeq (cSet (eN mLst lNil) (gName 1))
 (cSeq (cFor (iRange (eC (.int 0)) (eC (.int 3))) (gName 2)
 (cFor (iRange (eC (.int 0)) (eC (.int 3))) (gName 3)
 (cIf (tB (e2 oGt (e2 oAt (e2 oAt (eVar 0) (eVar 2)) (eVar 3)) (eC (.int 0))))
 (cExpr (eM mAppend (eVar 1) (lCons (eN mTup (lCons (eVar 2) (lCons (eVar 3) (lCons (e2 oEq (e2 oAt (e2 oAt (eVar 0) (eVar 2)) (eVar 3)) (eC (.int 2))) lNil)))) lNil)))
 cNil)))
 (cRet (eN fTuple (lCons (eVar 1) lNil)))))
def d_law_listed : F := defF 1 4 b_law_listed
def b_law_table : C :=
 (cRet (eN mTup (lCons (eVar 1) (lCons (eVar 2) (lCons (eCall d_law_listed [] (lCons (eCall d_law_grid [] (lCons (eCall d_law_arcs [] (lCons (eVar 0) (lCons (eC (.int 3)) (lCons (eC (.int 3)) (lCons (e2 oAdd (eC (.int 1)) (eCall d_law_random [] (lCons (eVar 0) (lCons (eC (.int 4)) lNil)))) lNil))))) lNil)) lNil)) lNil)))))
def d_law_table : F := defF 3 3 b_law_table
def b_is_name : C :=
 (cSeq (cIf (tOr (tNot (tE (e1 (oIs .str) (eVar 0)))) (tNot (tB (eChain oLe oLe (eC (.int 1)) (eN fLen (lCons (eVar 0) lNil)) (eC (.int 12))))))
 (cRet (eC (.bl false)))
 cNil)
 (cRet (e2 oEq (eLc [1] (iSrc .seq (eVar 0)) (gName 1) (tB (e2 oNotIn (eVar 1) (eC (.str "abcdefghijklmnopqrstuvwxyz")))) (eVar 1)) (eN mLst lNil))))
def d_is_name : F := defF 1 2 b_is_name
def b_is_whole : C :=
 (cRet (eAnd (e1 (oIs .int) (eVar 0)) (eNotT (tE (e1 (oIs .bool) (eVar 0))))))
def d_is_whole : F := defF 1 1 b_is_whole
def b_is_arc : C :=
 (cSeq (cIf (tOr (tNot (tE (e1 (oIs .tuple) (eVar 0)))) (tOr (tB (e2 oNe (eN fLen (lCons (eVar 0) lNil)) (eC (.int 3)))) (tOr (tNot (tE (eCall d_is_whole [] (lCons (e2 oAt (eVar 0) (eC (.int 0))) lNil)))) (tNot (tE (eCall d_is_whole [] (lCons (e2 oAt (eVar 0) (eC (.int 1))) lNil)))))))
 (cRet (eC (.bl false)))
 cNil)
 (cRet (eAnd (eChain oLe oLt (eC (.int 0)) (e2 oAt (eVar 0) (eC (.int 0))) (eVar 1)) (eAnd (eChain oLe oLt (eC (.int 0)) (e2 oAt (eVar 0) (eC (.int 1))) (eVar 2)) (e1 (oIs .bool) (e2 oAt (eVar 0) (eC (.int 2))))))))
def d_is_arc : F := defF 3 3 b_is_arc
def b_is_table : C :=
 (cSeq (cIf (tOr (tNot (tE (e1 (oIs .tuple) (eVar 0)))) (tOr (tB (e2 oNe (eN fLen (lCons (eVar 0) lNil)) (eC (.int 3)))) (tOr (tNot (tE (eCall d_is_name [] (lCons (e2 oAt (eVar 0) (eC (.int 0))) lNil)))) (tNot (tE (eCall d_is_name [] (lCons (e2 oAt (eVar 0) (eC (.int 1))) lNil)))))))
 (cRet (eC (.bl false)))
 cNil)
 (cSeq (cSet (e2 oAt (eVar 0) (eC (.int 2))) (gName 1))
 (cSeq (cIf (tOr (tNot (tE (e1 (oIs .tuple) (eVar 1)))) (tB (e2 oNe (eLc [2] (iSrc .seq (eVar 1)) (gName 2) (tNot (tE (eCall d_is_arc [] (lCons (eVar 2) (lCons (eC (.int 3)) (lCons (eC (.int 3)) lNil)))))) (eVar 2)) (eN mLst lNil))))
 (cRet (eC (.bl false)))
 cNil)
 (cSeq (cSet (eLc [4, 5, 6] (iSrc .seq (eVar 1)) (gTup 3 (gCons (gName 4) (gCons (gName 5) (gCons (gName 6) gNil)))) tYes (eN mTup (lCons (eN fInt (lCons (eVar 4) lNil)) (lCons (eN fInt (lCons (eVar 5) lNil)) lNil)))) (gName 3))
 (cRet (e2 oEq (eVar 3) (eN fSortSet (lCons (eVar 3) lNil))))))))
def d_is_table : F := defF 1 7 b_is_table
def b_check_table : C :=
 (cIf (tNot (tE (eCall d_is_table [] (lCons (eVar 0) lNil))))
 cNever
 cNil)
def d_check_table : F := defF 1 1 b_check_table
def b_arcs_of : C :=
 (cRet (eN fTuple (lCons (eLc [1, 2] (iSrc .seq (eN fSorted (lCons (eLc [1, 2] (iSrc .seq (eVar 0)) (gTup 2 (gCons (gName 1) (gCons (gName 2) gNil))) tYes (eN mTup (lCons (eN fInt (lCons (eVar 1) lNil)) (lCons (eN fInt (lCons (eVar 2) lNil)) lNil)))) lNil))) (gTup 2 (gCons (gName 1) (gCons (gName 2) gNil))) tYes (eN mTup (lCons (eVar 1) (lCons (eVar 2) (lCons (e2 oAt (eVar 0) (eN mTup (lCons (eVar 1) (lCons (eVar 2) lNil)))) lNil))))) lNil)))
def d_arcs_of : F := defF 1 3 b_arcs_of
def b_joined : C :=
 (cSeq (cSet (eN (fun _ => mDT) lNil) (gName 2))
 (cSeq (cFor (iSrc .seq (e2 oAt (eVar 0) (eC (.int 2)))) (gTup 3 (gCons (gName 3) (gCons (gName 4) (gCons (gName 5) gNil))))
 (cFor (iSrc .seq (e2 oAt (eVar 1) (eC (.int 2)))) (gTup 3 (gCons (gName 6) (gCons (gName 7) (gCons (gName 8) gNil))))
 (cIf (tB (e2 oEq (eVar 6) (eVar 4)))
 (cSub (eVar 2) (eN mTup (lCons (eVar 3) (lCons (eVar 7) lNil))) (eOr (eGet2 (eVar 2) (eN mTup (lCons (eVar 3) (lCons (eVar 7) lNil))) (eC (.bl false))) (eOr (eVar 5) (eVar 8))))
 cNil)))
 (cRet (eN mTup (lCons (e2 oAt (eVar 0) (eC (.int 0))) (lCons (e2 oAt (eVar 1) (eC (.int 1))) (lCons (eCall d_arcs_of [] (lCons (eVar 2) lNil)) lNil)))))))
def d_joined : F := defF 2 9 b_joined
def b_product : C :=
 (cSeq (cExpr (eCall d_check_table [] (lCons (eVar 0) lNil)))
 (cSeq (cExpr (eCall d_check_table [] (lCons (eVar 1) lNil)))
 (cSeq (cIf (tB (e2 oNe (e2 oAt (eVar 0) (eC (.int 1))) (e2 oAt (eVar 1) (eC (.int 0)))))
 cNever
 cNil)
 (cRet (eCall d_joined [] (lCons (eVar 0) (lCons (eVar 1) lNil)))))))
def d_product : F := defF 2 2 b_product
def b_falls_around : C :=
 (cSeq (cSet (eVar 0) (gName 1))
 (cSeq (cFor (iRange (eC (.int 0)) (eC (.int 3))) (gName 2)
 (cSeq (cIf (tB (e2 oNe (eLc [3] (iSrc .seq (e2 oAt (eVar 1) (eC (.int 2)))) (gName 3) (tAnd (tB (e2 oEq (e2 oAt (eVar 3) (eC (.int 0))) (e2 oAt (eVar 3) (eC (.int 1))))) (tE (e2 oAt (eVar 3) (eC (.int 2))))) (eVar 3)) (eN mLst lNil)))
 (cRet (eC (.bl true)))
 cNil)
 (cSet (eCall d_joined [] (lCons (eVar 1) (lCons (eVar 0) lNil))) (gName 1))))
 (cRet (eC (.bl false)))))
def d_falls_around : F := defF 1 4 b_falls_around
def b_has_fall : C :=
 (cSeq (cExpr (eCall d_check_table [] (lCons (eVar 0) lNil)))
 (cRet (eAnd (e2 oEq (e2 oAt (eVar 0) (eC (.int 0))) (e2 oAt (eVar 0) (eC (.int 1)))) (eCall d_falls_around [] (lCons (eVar 0) lNil)))))
def d_has_fall : F := defF 1 1 b_has_fall
def b_check_whole : C :=
 (cIf (tOr (tNot (tE (eCall d_is_whole [] (lCons (eVar 0) lNil)))) (tOr (tB (e2 oLt (eVar 0) (eVar 1))) (tAnd (tB (e1 oNotN (eVar 2))) (tB (e2 oGt (eVar 0) (eVar 2))))))
 cNever
 cNil)
def d_check_whole : F := defF 3 3 b_check_whole
def b_power : C :=
 (cSeq (cExpr (eCall d_check_table [] (lCons (eVar 0) lNil)))
 (cSeq (cIf (tB (e2 oNe (e2 oAt (eVar 0) (eC (.int 0))) (e2 oAt (eVar 0) (eC (.int 1)))))
 cNever
 cNil)
 (cSeq (cExpr (eCall d_check_whole [.non] (lCons (eVar 1) (lCons (eC (.int 1)) lNil))))
 (cSeq (cPar3 2 3 4 (lCons (eC .non) (lCons (eVar 0) (lCons (eVar 1) lNil))))
 (cSeq (cWhile (tB (e2 oGt (eVar 4) (eC (.int 0))))
 (cSeq (cIf (tB (e2 oEq (e2 oMod (eVar 4) (eC (.int 2))) (eC (.int 1))))
 (cSet (eIf (tB (e1 oIsN (eVar 2))) (eVar 3) (eCall d_joined [] (lCons (eVar 2) (lCons (eVar 3) lNil)))) (gName 2))
 cNil)
 (cPar 3 4 (lCons (eCall d_joined [] (lCons (eVar 3) (lCons (eVar 3) lNil))) (lCons (e2 oDiv (eVar 4) (eC (.int 2))) lNil)))))
 (cRet (eVar 2)))))))
def d_power : F := defF 2 5 b_power
end
end P1
namespace Fc
open PySem
theorem bits_lt {i : Int} (h1 : -(2 ^ 2000) < i) (h2 : i < 2 ^ 2000) : bits i < 2000 := by
  unfold bits
  by_cases h : i.natAbs = 0
  · rw [h]; decide
  · refine (Nat.log2_lt h).mpr ?_
    omega
theorem mul_ok {i j : Int} (h1 : -(2 ^ 2000) < i) (h2 : i < 2 ^ 2000) (h3 : -(2 ^ 2000) < j) (h4 : j < 2 ^ 2000) : decide (bits i + bits j < 900000) = true := by
  have a := bits_lt h1 h2
  have b := bits_lt h3 h4
  exact decide_eq_true (by omega)
/-- generators: B draws are left -/
def Gen (s : S) (g : Nat) (B : Nat) : Prop := ∃ a b c : Int, s[g]? = some (.lst [.int a, .int b, .int c]) ∧ 0 ≤ a ∧ 0 ≤ b ∧ b < 2147483647 ∧ 0 ≤ c ∧ c + B ≤ 2 ^ 90
theorem Gen.mono {s : S} {g B B' : Nat} (h : Gen s g B) (k : B' ≤ B) : Gen s g B' := by
  obtain ⟨a, b, c, h1, h2, h3, h4, h5, h6⟩ := h
  exact ⟨a, b, c, h1, h2, h3, h4, h5, by omega⟩
/-- s' has all that s has, but for what stands at g -/
def Fr (g : Nat) (s s' : S) : Prop := s.length ≤ s'.length ∧ ∀ n : Nat, n ≠ g → ∀ o, s[n]? = some o → s'[n]? = some o
/-- .. all that s has -/
def Pf (s s' : S) : Prop := ∀ (n : Nat) (o : O), s[n]? = some o → s'[n]? = some o
theorem get_new {s : S} {o : O} : (s ++ [o])[s.length]? = some o := by simp
theorem pow_mono {m n : Nat} (h : m ≤ n) : (2 : Int) ^ m ≤ 2 ^ n := by
  have : (2 ^ m : Nat) ≤ 2 ^ n := Nat.pow_le_pow_right (by omega) h
  exact_mod_cast this
theorem set_same {s : S} {n : Nat} {o : O} (h : s[n]? = some o) : s.set n o = s := by
  apply List.ext_getElem?
  intro i
  rw [List.getElem?_set]
  split
  · rename_i e; subst e; rw [h]; simp [(List.getElem?_eq_some_iff.mp h).1]
  · rfl
theorem Pf.refl {s : S} : Pf s s := fun _ _ h => h
theorem Pf.trans {s s1 s2 : S} (a : Pf s s1) (b : Pf s1 s2) : Pf s s2 := fun n o h => b n o (a n o h)
theorem Pf.app {s t : S} : Pf s (s ++ t) := fun n o h => by
  rw [List.getElem?_append_left (List.getElem?_eq_some_iff.mp h).1]; exact h
theorem Pf.len {s s' : S} (h : Pf s s') : s.length ≤ s'.length := by
  cases hs : s.length with
  | zero => omega
  | succ n =>
    have e : s[n]? = some (s[n]'(by omega)) := by simp
    have := (List.getElem?_eq_some_iff.mp (h n _ e)).1
    omega
theorem Pf.fr {g : Nat} {s s' : S} (h : Pf s s') : Fr g s s' := ⟨h.len, fun n _ o e => h n o e⟩
theorem Pf.gen {s s' : S} {g B : Nat} (h : Pf s s') (k : Gen s g B) : Gen s' g B := by
  obtain ⟨a, b, c, h1, h2⟩ := k
  exact ⟨a, b, c, h _ _ h1, h2⟩
theorem Fr.refl {g : Nat} {s : S} : Fr g s s := Pf.refl.fr
theorem Fr.trans {g : Nat} {s s1 s2 : S} (a : Fr g s s1) (b : Fr g s1 s2) : Fr g s s2 := ⟨Nat.le_trans a.1 b.1, fun n hn o h => b.2 n hn o (a.2 n hn o h)⟩
theorem Fr.set {g : Nat} {s : S} {o : O} : Fr g s (s.set g o) := ⟨by simp, fun n hn o' h => by rw [List.getElem?_set_ne (Ne.symm hn)]; exact h⟩
end Fc
namespace P1
open PySem Fc
theorem sp_cell {ns : List Int} {i : Nat} {s : S} {X : Xc} {Q : D → S → Prop} (hQ : ∀ z, Q (.int z) s) : wE (d_law_cell [.rol (ns.map .int), .int i] s) Q X := by
  unfold d_law_cell
  refine (v_def (by rfl)).mpr ?_
  unfold b_law_cell
  simp
  refine onT_by (fun h => ?_) fun _ => hQ 0
  have h : i < ns.length := of_decide_eq_true h
  rw [atI_nat, List.getElem?_map, List.getElem?_eq_getElem h]
  exact hQ _
theorem sp_hash {b c : Int} {s : S} {X : Xc} {Q : D → S → Prop} (h1 : 0 ≤ b) (h2 : b < 2147483647) (h3 : 0 ≤ c) (h4 : c < 2 ^ 100) (hQ : ∀ z, 0 ≤ z → z < 2147483587 → Q (.int z) s) : wE (d_law_hash [.int b, .int c] s) Q X := by
  unfold d_law_hash
  refine (v_def (by rfl)).mpr ?_
  unfold b_law_hash
  have k1 : ∀ x : Int, 0 ≤ x % 2147483647 ∧ x % 2147483647 < 2147483647 := fun x => by omega
  have k2 : ∀ x : Int, 0 ≤ x % 2147483629 ∧ x % 2147483629 < 2147483629 := fun x => by omega
  simp
  rw [mul_ok (by omega) (by omega) (by omega) (by omega), mul_ok (by omega) (by omega) (by omega) (by omega), mul_ok (by omega) (by omega) (by omega) (by omega)]
  have a1 := k1 (b * 1103515245 + 7919 * c * c + c + 1)
  generalize (b * 1103515245 + 7919 * c * c + c + 1) % 2147483647 = u at *
  rw [mul_ok (by omega) (by omega) (by omega) (by omega)]
  have a2 := k2 (u * u + 69621)
  generalize (u * u + 69621) % 2147483629 = v at *
  rw [mul_ok (by omega) (by omega) (by omega) (by omega)]
  simp only [onT_t]
  exact hQ _ (by omega) (by omega)
theorem sp_generator {ns : List Int} {i : Nat} {s : S} {X : Xc} {Q : D → S → Prop} (hi : i < 1000000) (hQ : ∀ o, Gen (s ++ [o]) s.length (2 ^ 80) → Q (.ref s.length) (s ++ [o])) : wE (d_law_generator [.rol (ns.map .int), .int i] s) Q X := by
  unfold d_law_generator
  refine (v_def (by rfl)).mpr ?_
  unfold b_law_generator
  simp
  refine sp_cell fun z => ?_
  simp
  rw [show decide ((bits 10 + 1) * 18 ≤ 100000) = true by decide +kernel, show decide ((bits 10 + 1) * 60 ≤ 100000) = true by decide +kernel, show decide ((bits 1000000000000000000000000000000000000000000000000000000000000 + 1) * 10 ≤ 100000) = true by decide +kernel, mul_ok (by omega) (by omega) (by omega) (by omega)]
  simp only [onT_t]
  refine hQ _ ⟨_, _, _, get_new, ?_, ?_, ?_, ?_, ?_⟩
  · exact Int.emod_nonneg _ (by omega)
  · omega
  · omega
  · omega
  · omega
theorem bl_le {b : Int} {n : Nat} (h1 : 0 < b) (h2 : b < 2 ^ n) : Builtin.Int.intBits b ≤ n := by
  unfold Builtin.Int.intBits
  split
  · omega
  · rename_i h
    have e : ((2 ^ n : Nat) : Int) = 2 ^ n := by simp
    have k : b.natAbs < 2 ^ n := by
      have : (b.natAbs : Int) < ((2 ^ n : Nat) : Int) := by rw [e]; omega
      omega
    have : b.natAbs.log2 < n := (Nat.log2_lt (by omega)).mpr k
    omega
theorem sp_random {g B : Nat} {b : Int} {s : S} {X : Xc} {Q : D → S → Prop} (hg : Gen s g (B + 40)) (h1 : 0 < b) (h2 : b < 2 ^ 1000) (hQ : ∀ (z : Int) (o : O), 0 ≤ z → z < b → Gen (s.set g o) g B → Q (.int z) (s.set g o)) : wE (d_law_random [.ref g, .int b] s) Q X := by
  unfold d_law_random
  refine (v_def (by rfl)).mpr ?_
  unfold b_law_random
  obtain ⟨a0, b0, c0, e, ha, hb, hb2, hc, hB⟩ := hg
  have hl : g < s.length := (List.getElem?_eq_some_iff.mp e).1
  simp [at_ref e]
  refine onT_by (fun h => ?_) fun h => ?_
  · have h := of_decide_eq_true h
    have hb' : decide (bits b < 8000) = true := decide_eq_true (by have := bits_lt (i := b) (by omega) (by omega); omega)
    rw [decide_eq_true h1, hb']
    simp [Fc.putAt, e, L2.ixN]
    refine hQ _ _ (Int.emod_nonneg _ (by omega)) (Int.emod_lt_of_pos _ h1) ⟨a0 / b, b0, c0, by rw [List.getElem?_set_self hl], Int.ediv_nonneg ha (by omega), hb, hb2, hc, by omega⟩
  · have hn : Builtin.Int.intBits b ≤ 1000 := bl_le h1 h2
    generalize Builtin.Int.intBits b = nb at hn
    rw [show decide (bits 30 < 8000) = true by decide +kernel, onT_t, show small 0 = true by decide, show small (1 + (nb : Int) / 30) = true by unfold small; simp; omega, Bool.and_self, onT_t]
    have hlen : (rangeL 0 (1 + (nb : Int) / 30)).length ≤ 35 := by
      simp only [rangeL, List.length_map, List.length_range]
      omega
    generalize rangeL 0 (1 + (nb : Int) / 30) = ds at hlen
    refine wC_forV (fun (ds : List D) (σ : Fc.Env) (s' : S) => ds.length ≤ 35 ∧ ∃ c z t, s' = s.set g (.lst [.int a0, .int b0, .int c]) ∧ σ = [some (.ref g), some (.int b), some (.int z), t] ∧ 0 ≤ c ∧ c + ds.length + B ≤ 2 ^ 90 ∧ 0 ≤ z ∧ z < 2 ^ (32 * (40 - ds.length))) ds ⟨hlen, c0, 0, none, ?_, rfl, hc, by omega, by omega, ?_⟩ ?_ ?_
    · exact (set_same e).symm
    · exact Int.pow_pos (by omega)
    · rintro d r σ s' ⟨hl2, c, z, t, rfl, rfl, k1, k2, k3, k4⟩
      have hl3 : r.length + 1 ≤ 35 := hl2
      have k2 : c + (r.length + 1) + B ≤ 2 ^ 90 := by simpa using k2
      refine ⟨_, rfl, ?_⟩
      have e2 : ∀ o, (s.set g o)[g]? = some o := fun o => by rw [List.getElem?_set_self hl]
      have zb : z < 2 ^ 1300 := by
        refine Int.lt_of_lt_of_le k4 ?_
        exact pow_mono (by simp; omega)
      simp [at_ref (e2 _), Fc.putAt, e2, L2.ixN]
      rw [mul_ok (by omega) (by omega) (by omega) (by omega), onT_t]
      refine sp_hash hb hb2 (by omega) (by omega) fun h h0 h3 => ?_
      simp
      refine ⟨by omega, c + 1, rfl, by omega, by omega, by omega, ?_⟩
      have e40 : 32 * (40 - r.length) = 32 * (40 - (d :: r).length) + 32 := by
        simp; omega
      rw [e40, Int.pow_add]
      generalize (2 : Int) ^ (32 * (40 - (d :: r).length)) = P at k4
      omega
    · rintro σ s' ⟨_, c, z, t, rfl, rfl, k1, k2, k3, k4⟩
      simp
      rw [decide_eq_true h1, onT_t]
      exact hQ _ _ (Int.emod_nonneg _ (by omega)) (Int.emod_lt_of_pos _ h1) ⟨a0, b0, c, by rw [List.getElem?_set_self hl], ha, hb, hb2, k1, by simpa using k2⟩
end P1
namespace Fc
open PySem
/-- a loop over a list that the body leaves as it is -/
theorem wC_forL {g : G} {b : C} {P : Pst} {n : Nat} {ds : List D} (I : List D → Fc.Env → S → Prop) (hk : ∀ r σ s, I r σ s → s[n]? = some (.lst ds))
    (hs : ∀ d r σ s, I (d :: r) σ s → ∃ σ1, g d σ s = some σ1 ∧ wC (b σ1 s) { P with nx := fun e s => I r e s, ct := fun e s => I r e s, bk := P.nx }) (hd : ∀ σ s, I [] σ s → P.nx σ s) :
    ∀ (k i : Nat) {σ : Fc.Env} {s : S}, ds.length = i + k → I (ds.drop i) σ s → wC (forL n g b k i σ s) P
  | 0, i, σ, s, hl, h => by
    with_unfolding_all
      have e := hk _ _ _ h
      unfold forL lstAt
      rw [e]
      dsimp only
      rw [if_pos (by omega)]
      rw [List.drop_eq_nil_of_le (by omega)] at h
      exact hd σ s h
  | k + 1, i, σ, s, hl, h => by
    with_unfolding_all
      have e := hk _ _ _ h
      have hi : i < ds.length := by omega
      rw [List.drop_eq_getElem_cons hi] at h
      obtain ⟨σ1, h1, h2⟩ := hs _ _ σ s h
      unfold forL lstAt
      rw [e]
      dsimp only
      rw [if_pos (by omega), List.getElem?_eq_getElem hi]
      dsimp only
      rw [h1]
      dsimp only
      cases hb : b σ1 s with
      | none => rw [hb] at h2; exact h2.elim
      | some r =>
        rw [hb] at h2
        cases r with
        | nx e2 s2 => exact wC_forL I hk hs hd k (i + 1) (by omega) h2
        | ct e2 s2 => exact wC_forL I hk hs hd k (i + 1) (by omega) h2
        | bk e2 s2 => exact h2
        | rt d2 s2 => exact h2
        | xc c fs e2 s2 => exact h2
@[simp] theorem range03 : rangeL 0 3 = [.int 0, .int 1, .int 2] := rfl
@[simp] theorem small0 : small 0 = true := by decide
@[simp] theorem small3 : small 3 = true := by decide
theorem set_get {s : S} {n : Nat} {o : O} (h : n < s.length) : (s.set n o)[n]? = some o := by rw [List.getElem?_set_self h]
theorem set_ne {s : S} {n m : Nat} {o : O} (h : n ≠ m) : (s.set n o)[m]? = s[m]? := by rw [List.getElem?_set_ne h]
theorem lt_of_get {s : S} {n : Nat} {o : O} (h : s[n]? = some o) : n < s.length := (List.getElem?_eq_some_iff.mp h).1
theorem lstAt_of {s : S} {n : Nat} {ds : List D} (h : s[n]? = some (.lst ds)) : lstAt s n = some ds := by simp [lstAt, h]
end Fc
namespace P1
open PySem Fc
abbrev Mt := Nat → Nat → Nat
abbrev Arc := Nat × Nat × Bool
def aD (a : Arc) : D := .tup [.int a.1, .int a.2.1, .bl a.2.2]
def cellA (M : Mt) (i j : Nat) : List Arc := if 0 < M i j then [(i, j, M i j == 2)] else []
def rowA (M : Mt) (i : Nat) : List Arc := [0, 1, 2].flatMap fun j => cellA M i j
def arcsA (M : Mt) : List Arc := [0, 1, 2].flatMap fun i => rowA M i
def tabD (b e : Str) (M : Mt) : D := .tup [.str b, .str e, .tup ((arcsA M).map aD)]
def Row (s : S) (r : Nat) (m : Nat → Nat) : Prop := s[r]? = some (.lst [.int (m 0), .int (m 1), .int (m 2)])
structure GridAt (s : S) (n r0 r1 r2 : Nat) (M : Mt) : Prop where
  at_ : s[n]? = some (.lst [.ref r0, .ref r1, .ref r2])
  h0 : Row s r0 (M 0)
  h1 : Row s r1 (M 1)
  h2 : Row s r2 (M 2)
theorem GridAt.pf {s s' : S} {n r0 r1 r2 : Nat} {M : Mt} (h : GridAt s n r0 r1 r2 M) (k : Pf s s') : GridAt s' n r0 r1 r2 M := ⟨k _ _ h.at_, k _ _ h.h0, k _ _ h.h1, k _ _ h.h2⟩
theorem GridAt.get {s : S} {n r0 r1 r2 : Nat} {M : Mt} (h : GridAt s n r0 r1 r2 M) {i j : Nat} (hi : i < 3) (hj : j < 3) : ∃ r, atD s (.ref n) (.int i) = some (.ref r) ∧ atD s (.ref r) (.int j) = some (.int (M i j)) := by
  have e1 : ∀ i : Nat, atD s (.ref n) (.int i) = [D.ref r0, D.ref r1, D.ref r2][i]? := fun i => by rw [at_ref h.at_, atI_nat]
  have e2 : ∀ (r : Nat) (m : Nat → Nat), Row s r m → ∀ j : Nat, atD s (.ref r) (.int j) = [D.int (m 0), D.int (m 1), D.int (m 2)][j]? := fun r m hr j => by rw [at_ref hr, atI_nat]
  match i, hi with
  | 0, _ => exact ⟨r0, e1 0, by rw [e2 _ _ h.h0]; match j, hj with | 0, _ => rfl | 1, _ => rfl | 2, _ => rfl⟩
  | 1, _ => exact ⟨r1, e1 1, by rw [e2 _ _ h.h1]; match j, hj with | 0, _ => rfl | 1, _ => rfl | 2, _ => rfl⟩
  | 2, _ => exact ⟨r2, e1 2, by rw [e2 _ _ h.h2]; match j, hj with | 0, _ => rfl | 1, _ => rfl | 2, _ => rfl⟩
theorem eqD_int {s : S} {i j : Int} : eqD s (.int i) (.int j) = some (i == j) := by
  rw [eq_of (dat_int) (dat_int) (by simp [SeqAt.shaped, PyData.canLay0, PyData.depth]) (by simp [SeqAt.shaped, PyData.canLay0, PyData.depth])]
  simp [PyData.eqv]
/-- one cell is told -/
theorem st_cell {s : S} {n r0 r1 r2 i j : Nat} {M : Mt} {pre : List D} {P : Pst} (h : GridAt s n r0 r1 r2 M) (hi : i < 3) (hj : j < 3) (hp : pre.length < 16777216)
    (hQ : P.nx [some (.ref n), some (.ref s.length), some (.int i), some (.int j)] (s ++ [.lst (pre ++ (cellA M i j).map aD)])) :
    wC (cIf (tB (e2 oGt (e2 oAt (e2 oAt (eVar 0) (eVar 2)) (eVar 3)) (eC (.int 0))))
      (cExpr (eM mAppend (eVar 1) (lCons (eN mTup (lCons (eVar 2) (lCons (eVar 3) (lCons (e2 oEq (e2 oAt (e2 oAt (eVar 0) (eVar 2)) (eVar 3)) (eC (.int 2))) lNil)))) lNil)))
      cNil [some (.ref n), some (.ref s.length), some (.int i), some (.int j)] (s ++ [.lst pre])) P := by
  obtain ⟨r, g1, g2⟩ := (h.pf (Pf.app (t := [.lst pre]))).get hi hj
  simp [g1, g2]
  unfold cellA at hQ
  refine onT_by (fun hc => ?_) fun hc => ?_
  · have hc := of_decide_eq_true hc
    rw [if_pos (by omega)] at hQ
    simp [isLst, eqD_int, lstAt, hp]
    have e : ((M i j : Int) == 2) = (M i j == 2) := by
      by_cases z : M i j = 2
      · simp [z]
      · have : (M i j : Int) ≠ 2 := by omega
        rw [beq_eq_false_iff_ne.mpr z, beq_eq_false_iff_ne.mpr this]
    rw [e]
    simpa [aD] using hQ
  · have hc := of_decide_eq_false hc
    rw [if_neg (by omega)] at hQ
    simpa using hQ
theorem cell_len {M : Mt} {i j : Nat} : (cellA M i j).length ≤ 1 := by
  unfold cellA; split <;> simp
theorem row_len {M : Mt} {i : Nat} : (rowA M i).length ≤ 3 := by
  have h0 := cell_len (M := M) (i := i) (j := 0)
  have h1 := cell_len (M := M) (i := i) (j := 1)
  have h2 := cell_len (M := M) (i := i) (j := 2)
  simp only [rowA, List.flatMap_cons, List.flatMap_nil, List.length_append, List.length_nil]
  omega
theorem arcs_len {M : Mt} : (arcsA M).length ≤ 9 := by
  have h0 := row_len (M := M) (i := 0)
  have h1 := row_len (M := M) (i := 1)
  have h2 := row_len (M := M) (i := 2)
  simp only [arcsA, List.flatMap_cons, List.flatMap_nil, List.length_append, List.length_nil]
  omega
/-- listed: the arcs of a grid -/
theorem sp_listed {s : S} {n r0 r1 r2 : Nat} {M : Mt} {X : Xc} {Q : D → S → Prop} (h : GridAt s n r0 r1 r2 M) (hQ : ∀ o, Q (.tup ((arcsA M).map aD)) (s ++ [o])) : wE (d_law_listed [.ref n] s) Q X := by
  unfold d_law_listed
  refine (v_def (by rfl)).mpr ?_
  unfold b_law_listed
  simp
  have inner : ∀ (i : Nat) (hi : i < 3) (u : Option D) (pre : List D) (hp : pre.length < 100) (P : Pst), (P.nx [some (.ref n), some (.ref s.length), some (.int i), some (.int 2)] (s ++ [.lst (pre ++ (rowA M i).map aD)])) →
      wC (forV (gName 3) (cIf (tB (e2 oGt (e2 oAt (e2 oAt (eVar 0) (eVar 2)) (eVar 3)) (eC (.int 0))))
      (cExpr (eM mAppend (eVar 1) (lCons (eN mTup (lCons (eVar 2) (lCons (eVar 3) (lCons (e2 oEq (e2 oAt (e2 oAt (eVar 0) (eVar 2)) (eVar 3)) (eC (.int 2))) lNil)))) lNil)))
      cNil) [.int 0, .int 1, .int 2] [some (.ref n), some (.ref s.length), some (.int i), u] (s ++ [.lst pre])) P := by
    intro i hi u pre hp P hP
    have h0 := cell_len (M := M) (i := i) (j := 0)
    have h1 := cell_len (M := M) (i := i) (j := 1)
    refine wC_forV_cons.mpr ⟨_, rfl, st_cell (j := 0) h hi (by omega) (by omega) ?_⟩
    refine wC_forV_cons.mpr ⟨_, rfl, st_cell (j := 1) h hi (by omega) (by simp; omega) ?_⟩
    refine wC_forV_cons.mpr ⟨_, rfl, st_cell (j := 2) h hi (by omega) (by simp; omega) ?_⟩
    simpa [wC_forV_nil, rowA] using hP
  have h0 := row_len (M := M) (i := 0)
  have h1 := row_len (M := M) (i := 1)
  refine wC_forV_cons.mpr ⟨_, rfl, ?_⟩
  simp
  refine inner 0 (by omega) _ [] (by simp) _ ?_
  refine wC_forV_cons.mpr ⟨_, rfl, ?_⟩
  simp
  refine inner 1 (by omega) _ _ (by simp; omega) _ ?_
  refine wC_forV_cons.mpr ⟨_, rfl, ?_⟩
  simp
  refine inner 2 (by omega) _ _ (by simp; omega) _ ?_
  simp [wC_forV_nil, lstAt]
  simpa [arcsA] using hQ (.lst ((arcsA M).map aD))
def rw3 (m : Nat → Nat) : List D := [.int (m 0), .int (m 1), .int (m 2)]
def gridO (L : Nat) (M : Mt) : List O := [.lst (rw3 (M 0)), .lst (rw3 (M 1)), .lst (rw3 (M 2)), .lst [.ref L, .ref (L + 1), .ref (L + 2)]]
def updM (M : Mt) (i j v : Nat) : Mt := fun a b => if a = i ∧ b = j then v else M a b
def addG (M : Mt) (a : Arc) : Mt := updM M a.1 a.2.1 (max (M a.1 a.2.1) (1 + a.2.2.toNat))
def foldG (M : Mt) (A : List Arc) : Mt := A.foldl addG M
def In3 (A : List Arc) : Prop := ∀ a ∈ A, a.1 < 3 ∧ a.2.1 < 3
theorem gridO_at {s : S} {M : Mt} : GridAt (s ++ gridO s.length M) (s.length + 3) s.length (s.length + 1) (s.length + 2) M := by
  have g : ∀ k, (s ++ gridO s.length M)[s.length + k]? = (gridO s.length M)[k]? := fun k => by
    rw [List.getElem?_append_right (by omega)]
    congr 1
    omega
  exact ⟨g 3, g 0, g 1, g 2⟩
theorem gridO_set {s : S} {M : Mt} {i j v : Nat} (hi : i < 3) (hj : j < 3) : (s ++ gridO s.length M).set (s.length + i) (.lst ((rw3 (M i)).set j (.int v))) = s ++ gridO s.length (updM M i j v) := by
  rw [List.set_append_right _ _ (by omega)]
  congr 1
  rw [show s.length + i - s.length = i by omega]
  match i, hi with
  | 0, _ => match j, hj with
    | 0, _ => simp [gridO, rw3, updM]
    | 1, _ => simp [gridO, rw3, updM]
    | 2, _ => simp [gridO, rw3, updM]
  | 1, _ => match j, hj with
    | 0, _ => simp [gridO, rw3, updM]
    | 1, _ => simp [gridO, rw3, updM]
    | 2, _ => simp [gridO, rw3, updM]
  | 2, _ => match j, hj with
    | 0, _ => simp [gridO, rw3, updM]
    | 1, _ => simp [gridO, rw3, updM]
    | 2, _ => simp [gridO, rw3, updM]
theorem gridO_row {s : S} {M : Mt} {i : Nat} (hi : i < 3) : atD (s ++ gridO s.length M) (.ref (s.length + 3)) (.int i) = some (.ref (s.length + i)) ∧ (s ++ gridO s.length M)[s.length + i]? = some (.lst (rw3 (M i))) := by
  have g := gridO_at (s := s) (M := M)
  refine ⟨?_, ?_⟩
  · rw [at_ref g.at_, atI_nat]
    match i, hi with
    | 0, _ => rfl
    | 1, _ => rfl
    | 2, _ => rfl
  · match i, hi with
    | 0, _ => exact g.h0
    | 1, _ => exact g.h1
    | 2, _ => exact g.h2
theorem rw3_at {m : Nat → Nat} {j : Nat} (hj : j < 3) : (rw3 m)[j]? = some (.int (m j)) := by
  match j, hj with
  | 0, _ => rfl
  | 1, _ => rfl
  | 2, _ => rfl
/-- grid[i][j] = v -/
theorem grid_put {s : S} {M : Mt} {i j v : Nat} (hi : i < 3) (hj : j < 3) : Fc.putAt (s ++ gridO s.length M) (.ref (s.length + i)) (.int j) (.int v) = some (s ++ gridO s.length (updM M i j v)) := by
  unfold Fc.putAt
  dsimp only
  rw [(gridO_row hi).2]
  dsimp only
  have : L2.ixN (rw3 (M i)).length (j : Int) = some j := by
    unfold L2.ixN
    rw [if_pos (by omega), if_pos (by simp [rw3]; omega)]
    simp
  rw [this]
  simp only [Option.map_some]
  rw [gridO_set hi hj]
theorem grid_get {s : S} {M : Mt} {i j : Nat} (hi : i < 3) (hj : j < 3) : atD (s ++ gridO s.length M) (.ref (s.length + i)) (.int j) = some (.int (M i j)) := by
  rw [at_ref (gridO_row hi).2, atI_nat, rw3_at hj]
theorem st_grid {s : S} {M : Mt} {a : Arc} {d : D} {P : Pst} (hi : a.1 < 3) (hj : a.2.1 < 3) (hP : P.nx [some d, some (.ref (s.length + 3)), some (.int a.1), some (.int a.2.1), some (.bl a.2.2)] (s ++ gridO s.length (addG M a))) :
    wC (cSub (e2 oAt (eVar 1) (eVar 2)) (eVar 3) (eN fMax (lCons (eN fInt (lCons (e2 oAt (e2 oAt (eVar 1) (eVar 2)) (eVar 3)) lNil)) (lCons (e2 oAdd (eC (.int 1)) (eN fInt (lCons (eVar 4) lNil))) lNil)))
      [some d, some (.ref (s.length + 3)), some (.int a.1), some (.int a.2.1), some (.bl a.2.2)] (s ++ gridO s.length M)) P := by
  simp [(gridO_row (s := s) (M := M) hi).1, grid_get hi hj]
  have e : max (M a.1 a.2.1 : Int) (1 + if a.2.2 = true then 1 else 0) = ((max (M a.1 a.2.1) (1 + a.2.2.toNat) : Nat) : Int) := by
    cases a.2.2 <;> simp <;> omega
  rw [e, grid_put hi hj]
  exact hP
/-- where arcs come from: a tuple, a list -/
def ArcSrc (s : S) (d : D) (A : List Arc) : Prop := d = .tup (A.map aD) ∨ ∃ n, d = .ref n ∧ s[n]? = some (.lst (A.map aD))
theorem sp_grid {s : S} {d : D} {A : List Arc} {X : Xc} {Q : D → S → Prop} (hd : ArcSrc s d A) (hA : In3 A) (hQ : Q (.ref (s.length + 3)) (s ++ gridO s.length (foldG (fun _ _ => 0) A))) : wE (d_law_grid [d] s) Q X := by
  unfold d_law_grid
  refine (v_def (by rfl)).mpr ?_
  unfold b_law_grid
  simp
  have e0 : s ++ [O.lst [.int 0, .int 0, .int 0], .lst [.int 0, .int 0, .int 0], .lst [.int 0, .int 0, .int 0], .lst [.ref s.length, .ref (s.length + 1), .ref (s.length + 2)]] = s ++ gridO s.length (fun _ _ => 0) := rfl
  rw [e0]
  let I : List D → Fc.Env → S → Prop := fun ds σ s' => ∃ (B C : List Arc) (t u v : Option D), A = B ++ C ∧ ds = C.map aD ∧ σ = [some d, some (.ref (s.length + 3)), t, u, v] ∧ s' = s ++ gridO s.length (foldG (fun _ _ => 0) B)
  have start : I (A.map aD) [some d, some (.ref (s.length + 3)), none, none, none] (s ++ gridO s.length fun _ _ => 0) := ⟨[], A, none, none, none, rfl, rfl, rfl, rfl⟩
  have hs : ∀ (P : Pst) (d' : D) (r : List D) (σ : Fc.Env) (s' : S), I (d' :: r) σ s' → ∃ σ1, gTup 3 (gCons (gName 2) (gCons (gName 3) (gCons (gName 4) gNil))) d' σ s' = some σ1 ∧ wC (cSub (e2 oAt (eVar 1) (eVar 2)) (eVar 3) (eN fMax (lCons (eN fInt (lCons (e2 oAt (e2 oAt (eVar 1) (eVar 2)) (eVar 3)) lNil)) (lCons (e2 oAdd (eC (.int 1)) (eN fInt (lCons (eVar 4) lNil))) lNil))) σ1 s') { P with nx := fun e s => I r e s, ct := fun e s => I r e s, bk := P.nx } := by
    rintro P d' r σ s' ⟨B, C, t, u, v, e, ed, rfl, rfl⟩
    cases C with
    | nil => cases ed
    | cons a C =>
      cases ed
      have ha := hA a (by rw [e]; simp)
      refine ⟨_, rfl, st_grid ha.1 ha.2 ⟨B ++ [a], C, _, _, _, by simp [e], rfl, rfl, ?_⟩⟩
      simp [foldG]
  have fin : ∀ (P : Pst) (σ : Fc.Env) (s' : S), P.nx = (fun e s => onD e[1]? fun d => Q d s) → I [] σ s' → P.nx σ s' := by
    rintro P σ s' hP ⟨B, C, t, u, v, e, ed, rfl, rfl⟩
    cases C with
    | cons a C => cases ed
    | nil =>
      rw [hP]
      simp at e
      subst e
      exact hQ
  rcases hd with rfl | ⟨n, rfl, hn⟩
  · simp [srcOf]
    exact wC_forV I _ start (hs _) (fun σ s' => fin _ σ s' rfl)
  · have hn' := Pf.app (t := gridO s.length fun _ _ => 0) _ _ hn
    simp [srcOf, hn']
    refine wC_forL I ?_ (hs _) (fun σ s' => fin _ σ s' rfl) _ 0 (by simp) start
    rintro r σ s' ⟨B, C, t, u, v, e, ed, rfl, rfl⟩
    exact Pf.app _ _ hn
end P1
namespace P1
open PySem Fc
/-- in the midst of the drawing: the list at L holds A -/
structure Drw (s : S) (g p q : Nat) (s' : S) (A : List Arc) (B : Nat) : Prop where
  at_ : s'[s.length]? = some (.lst (A.map aD))
  fr : Fr g s s'
  gen : Gen s' g B
  bd : ∀ a ∈ A, a.1 < p ∧ a.2.1 < q
theorem Drw.mono {s : S} {g p q : Nat} {s' : S} {A : List Arc} {B B' : Nat} (h : Drw s g p q s' A B) (k : B' ≤ B) : Drw s g p q s' A B' := ⟨h.at_, h.fr, h.gen.mono k, h.bd⟩
theorem Drw.draw {s : S} {g p q : Nat} {s' : S} {A : List Arc} {B B' : Nat} {o : O} (h : Drw s g p q s' A B) (hg : g < s.length) (k : Gen (s'.set g o) g B') : Drw s g p q (s'.set g o) A B' :=
  ⟨by rw [set_ne (by omega)]; exact h.at_, h.fr.trans Fr.set, k, h.bd⟩
theorem Drw.put {s : S} {g p q : Nat} {s' : S} {A : List Arc} {B : Nat} {a : Arc} (h : Drw s g p q s' A B) (hg : g < s.length) (ha : a.1 < p ∧ a.2.1 < q) : Drw s g p q (s'.set s.length (.lst (A.map aD ++ [aD a]))) (A ++ [a]) B := by
  have hl := lt_of_get h.at_
  refine ⟨by rw [set_get hl]; simp, ⟨?_, fun n hn o e => ?_⟩, ?_, ?_⟩
  · simpa using h.fr.1
  · have := lt_of_get e
    rw [set_ne (by omega)]
    exact h.fr.2 n hn o e
  · obtain ⟨a0, b0, c0, e, r⟩ := h.gen
    exact ⟨a0, b0, c0, by rw [set_ne (by omega)]; exact e, r⟩
  · intro x hx
    rcases List.mem_append.mp hx with hx | hx
    · exact h.bd x hx
    · simp at hx; subst hx; exact ha
theorem shaped_list0 : SeqAt.shaped (.list []) = true := by decide
theorem dats_map {s : S} {n : Nat} (f : Arc → PyData) (h : ∀ a, dat s n (aD a) = some (f a)) : ∀ A : List Arc, dats s n (A.map aD) = some (A.map f)
  | [] => by simp
  | a :: A => dats_cons (h a) (dats_map f h A)
def arcP (a : Arc) : PyData := .tuple [.int a.1, .int a.2.1, .bool a.2.2]
theorem dat_arc {s : S} {n : Nat} (a : Arc) : dat s (n + 1) (aD a) = some (arcP a) := by
  unfold aD
  rw [dat_tup, dats_cons dat_int (dats_cons dat_int (dats_cons dat_bl dats_nil))]
  rfl
theorem arcP_ok (a : Arc) : (arcP a).canLay0 = true ∧ (arcP a).depth = 1 := by
  simp [arcP, PyData.canLay0, PyData.canLayAll0, PyData.depth, PyData.depthAll]
theorem arcsP_ok : ∀ A : List Arc, PyData.canLayAll0 (A.map arcP) = true ∧ PyData.depthAll (A.map arcP) ≤ 1
  | [] => by simp [PyData.canLayAll0, PyData.depthAll]
  | a :: A => by
    have h1 := arcP_ok a
    have h2 := arcsP_ok A
    simp [PyData.canLayAll0, PyData.depthAll, h1.1, h1.2, h2.1, h2.2]
theorem shaped_arcs (A : List Arc) : SeqAt.shaped (.list (A.map arcP)) = true := by
  have h := arcsP_ok A
  refine Bool.and_eq_true_iff.mpr ⟨by simp only [PyData.canLay0, h.1], decide_eq_true ?_⟩
  simp only [PyData.depth]
  omega
/-- a list of arcs against [] -/
theorem eq_nil {s : S} {n m : Nat} {A : List Arc} (h : s[n]? = some (.lst (A.map aD))) (h2 : s[m]? = some (.lst [])) : eqD s (.ref n) (.ref m) = some A.isEmpty := by
  have e1 : dat s 60 (.ref n) = some (.list (A.map arcP)) := by rw [dat_ref h, dats_map arcP (fun a => dat_arc a)]; rfl
  have e2 : dat s 60 (.ref m) = some (.list []) := by rw [dat_ref h2]; simp
  rw [eq_of e1 e2 (shaped_arcs A) shaped_list0]
  cases A <;> simp [PyData.eqv, PyData.eqvAll]
/-- one place -/
theorem st_arc {s : S} {g p q B : Nat} {dn : Int} {s' : S} {A : List Arc} {i j : Nat} {P : Pst} {e : Fc.Env} (hg : g < s.length) (hd : 0 < dn) (hd2 : dn < 2 ^ 1000) (h : Drw s g p q s' A (B + 80)) (hi : i < p) (hj : j < q) (hA : A.length < 16777216)
    (e1 : e = [some (.ref g), some (.int p), some (.int q), some (.int dn), some (.ref s.length), some (.int i), some (.int j)])
    (hP : ∀ s2 A2, Drw s g p q s2 A2 B → A2.length ≤ A.length + 1 → P.nx e s2) :
    wC (cIf (tB (e2 oEq (eCall d_law_random [] (lCons (eVar 0) (lCons (eVar 3) lNil))) (eC (.int 0))))
      (cExpr (eM mAppend (eVar 4) (lCons (eN mTup (lCons (eVar 5) (lCons (eVar 6) (lCons (e2 oEq (eCall d_law_random [] (lCons (eVar 0) (lCons (eC (.int 2)) lNil))) (eC (.int 0))) lNil)))) lNil)))
      cNil e s') P := by
  subst e1
  simp
  refine sp_random (B := B + 40) (h.gen.mono (by omega)) hd hd2 fun z o z0 z1 k => ?_
  have h2 := h.draw hg k
  simp [eqD_int]
  refine onT_by (fun _ => ?_) fun _ => ?_
  · simp [isLst, h2.at_]
    refine sp_random (B := B) h2.gen (by omega) (by omega) fun z' o' z0' z1' k' => ?_
    have h3 := h2.draw hg k'
    rw [List.set_set] at h3
    simp [eqD_int, lstAt_of h3.at_, hA]
    exact hP _ _ (h3.put hg (a := (i, j, z' == 0)) ⟨hi, hj⟩) (by simp)
  · exact hP _ _ (h2.mono (by omega)) (by omega)
/-- what is drawn: a list of arcs, somewhere -/
theorem sp_arcsF {s : S} {g p q B : Nat} {dn : Int} {X : Xc} {Q : D → S → Prop} (hgen : Gen s g (B + 1200)) (hp : p ≤ 3) (hq : q ≤ 3) (hd : 0 < dn) (hd2 : dn < 2 ^ 1000)
    (hQ : ∀ (n : Nat) (s' : S) (A : List Arc), Fr g s s' → Gen s' g B → s'[n]? = some (.lst (A.map aD)) → (∀ a ∈ A, a.1 < p ∧ a.2.1 < q) → A.length ≤ 10 → s.length ≤ n → Q (.ref n) s') : wE (d_law_arcs [.ref g, .int p, .int q, .int dn] s) Q X := by
  unfold d_law_arcs
  refine (v_def (by rfl)).mpr ?_
  unfold b_law_arcs
  have hg : g < s.length := by obtain ⟨_, _, _, e, _⟩ := hgen; exact lt_of_get e
  have sm : ∀ n : Nat, n ≤ 3 → small (n : Int) = true := fun n h => by unfold small; simp; omega
  simp [sm p hp]
  have rng : ∀ n : Nat, n ≤ 3 → (rangeL 0 (n : Int)).length ≤ 3 ∧ ∀ d ∈ rangeL 0 (n : Int), ∃ i : Nat, d = .int i ∧ i < n := fun n h => by
    refine ⟨by simp [rangeL]; omega, fun d hd => ?_⟩
    simp only [rangeL, List.mem_map, List.mem_range] at hd
    obtain ⟨i, h1, rfl⟩ := hd
    exact ⟨i, by simp, by omega⟩
  have start : Drw s g p q (s ++ [.lst []]) [] (B + 1200) := ⟨by simp, Pf.app.fr, Pf.app.gen hgen, by simp⟩
  refine wC_forV (fun (ds : List D) (σ : Fc.Env) (s' : S) => ds.length ≤ 3 ∧ (∀ d ∈ ds, ∃ i : Nat, d = .int i ∧ i < p) ∧ ∃ A t u, Drw s g p q s' A (B + 200 + 300 * ds.length) ∧ A.length + 3 * ds.length ≤ 9 ∧ σ = [some (.ref g), some (.int p), some (.int q), some (.int dn), some (.ref s.length), t, u]) _ ⟨(rng p hp).1, (rng p hp).2, [], none, none, start.mono (by have := (rng p hp).1; omega), by have := (rng p hp).1; simp; omega, rfl⟩ ?_ ?_
  · rintro d r σ s' ⟨l1, hm, A, t, u, h, hl, rfl⟩
    obtain ⟨i, rfl, hi⟩ := hm _ (List.mem_cons_self ..)
    have l1' : r.length + 1 ≤ 3 := l1
    have h : Drw s g p q s' A (B + 200 + 300 * (r.length + 1)) := h
    have hl : A.length + 3 * (r.length + 1) ≤ 9 := hl
    refine ⟨_, rfl, ?_⟩
    simp [sm q hq]
    refine wC_forV (fun (ds : List D) (σ : Fc.Env) (s' : S) => ds.length ≤ 3 ∧ (∀ d ∈ ds, ∃ i : Nat, d = .int i ∧ i < q) ∧ ∃ A u, Drw s g p q s' A (B + 200 + 300 * r.length + 80 * ds.length) ∧ A.length + 3 * r.length + ds.length ≤ 9 ∧ σ = [some (.ref g), some (.int p), some (.int q), some (.int dn), some (.ref s.length), some (.int i), u]) _ ⟨(rng q hq).1, (rng q hq).2, A, u, h.mono (by have := (rng q hq).1; omega), by have := (rng q hq).1; omega, rfl⟩ ?_ ?_
    · rintro d r' σ s' ⟨l2, hm', A, u, h, hl, rfl⟩
      obtain ⟨j, rfl, hj⟩ := hm' _ (List.mem_cons_self ..)
      have l2' : r'.length + 1 ≤ 3 := l2
      have h : Drw s g p q s' A (B + 200 + 300 * r.length + 80 * (r'.length + 1)) := h
      have hl : A.length + 3 * r.length + (r'.length + 1) ≤ 9 := hl
      refine ⟨_, rfl, st_arc (B := B + 200 + 300 * r.length + 80 * r'.length) hg hd hd2 (h.mono (by omega)) hi hj (by omega) rfl fun s2 A2 h2 hl2 => ?_⟩
      exact ⟨by omega, fun d hd => hm' d (List.mem_cons_of_mem _ hd), A2, _, h2, by omega, rfl⟩
    · rintro σ s' ⟨_, _, A, u, h, hl, rfl⟩
      exact ⟨by omega, fun d hd => hm d (List.mem_cons_of_mem _ hd), A, h.mono (by simp), by simpa using hl, _, _, rfl⟩
  · rintro σ s' ⟨_, _, A, t, u, h, hl, rfl⟩
    have h : Drw s g p q s' A (B + 200) := h
    have hl : A.length ≤ 9 := by simpa using hl
    have fin : ∀ (s2 : S) (A2 : List Arc), Drw s g p q s2 A2 (B + 40) → A2.length ≤ 10 → wC (cRet (e2 oAt (eN mLst (lCons (eVar 4) (lCons (e1 oRevL (eVar 4)) lNil))) (eCall d_law_random [] (lCons (eVar 0) (lCons (eC (.int 2)) lNil)))) [some (.ref g), some (.int p), some (.int q), some (.int dn), some (.ref s.length), t, u] s2) { nx := fun _ s' => Q .non s', rt := Q, xc := X } := by
      intro s2 A2 h2 hl2
      simp [lstAt_of h2.at_]
      have k1 : Pf s2 (s2 ++ [O.lst (A2.map aD).reverse, O.lst [D.ref s.length, D.ref s2.length]]) := Pf.app
      refine sp_random (B := B) (k1.gen h2.gen) (by omega) (by omega) fun z o z0 z1 k => ?_
      have hL := lt_of_get h2.at_
      have hlen := h2.fr.1
      have g0 : ∀ (m : Nat) (w : O), m ≠ g → (s2 ++ [O.lst (A2.map aD).reverse, O.lst [D.ref s.length, D.ref s2.length]])[m]? = some w → ((s2 ++ [O.lst (A2.map aD).reverse, O.lst [D.ref s.length, D.ref s2.length]]).set g o)[m]? = some w := fun m w hm hw => by rw [set_ne (Ne.symm hm)]; exact hw
      have e1 := g0 (s2.length + 1) _ (by omega) (by rw [List.getElem?_append_right (by omega)]; simp; rfl)
      have e2 := g0 s2.length _ (by omega) (by rw [List.getElem?_append_right (by omega)]; simp; rfl)
      have e3 := g0 s.length _ (by omega) (k1 _ _ h2.at_)
      have fr : Fr g s ((s2 ++ [O.lst (A2.map aD).reverse, O.lst [D.ref s.length, D.ref s2.length]]).set g o) := (h2.fr.trans k1.fr).trans Fr.set
      rw [at_ref e1]
      have hz : z = 0 ∨ z = 1 := by omega
      rcases hz with rfl | rfl
      · simp
        exact hQ _ _ A2 fr k e3 h2.bd hl2 (Nat.le_refl _)
      · simp
        refine hQ _ _ A2.reverse fr k (by rw [e2]; simp) (fun a ha => h2.bd a (by simpa using ha)) (by simpa using hl2) (by omega)
    have h1 : Drw s g p q (s' ++ [.lst []]) A (B + 200) := ⟨Pf.app _ _ h.at_, h.fr.trans Pf.app.fr, Pf.app.gen h.gen, h.bd⟩
    have en := eq_nil (s := s' ++ [.lst []]) h1.at_ (get_new (s := s') (o := .lst []))
    simp only [onD_some, List.getElem?_cons_succ, List.getElem?_cons_zero]
    rw [en]
    cases A with
    | nil =>
      simp only [List.isEmpty_nil, onO_some, Bool.not_true, onT_f]
      simpa using fin _ [] (h1.mono (by omega)) (by simp)
    | cons a A =>
      simp only [List.isEmpty_cons, onO_some, Bool.not_false, onT_t]
      refine sp_random (B := B + 160) (h1.gen.mono (by omega)) (by omega) (by omega) fun z o z0 z1 k => ?_
      have h2 := h1.draw hg k
      simp only [eqD_int, onO_some]
      refine onT_by (fun _ => ?_) fun _ => ?_
      · have ha := h2.bd a (List.mem_cons_self ..)
        have h3 := h2.put hg (a := (a.1, a.2.1, !a.2.2)) ha
        have e0 : atD ((s' ++ [O.lst []]).set g o) (.ref s.length) (.int 0) = some (aD a) := by rw [at_ref h2.at_]; simp
        have il : isLst ((s' ++ [O.lst []]).set g o) (.ref s.length) = true := by simp [isLst, h2.at_]
        rw [il, onT_t, e0]
        have f := fin _ _ (h3.mono (by omega)) (by simp at hl ⊢; omega)
        have hl' : ((a :: A).map aD).length < 16777216 := by simp at hl ⊢; omega
        have hd := decide_eq_true hl'
        simp [aD, cutL, HT.sIx]
        rw [e0]
        simp only [onO_some, aD]
        simp
        rw [lstAt_of h2.at_]
        simp only [onO_some]
        rw [hd, onT_t]
        simpa [aD] using f
      · simpa using fin _ _ (h2.mono (by omega)) (by simp at hl ⊢; omega)
theorem sp_arcs {s : S} {g p q B : Nat} {dn : Int} {X : Xc} {Q : D → S → Prop} (hgen : Gen s g (B + 1200)) (hp : p ≤ 3) (hq : q ≤ 3) (hd : 0 < dn) (hd2 : dn < 2 ^ 1000)
    (hQ : ∀ (n : Nat) (s' : S) (A : List Arc), Fr g s s' → Gen s' g B → s'[n]? = some (.lst (A.map aD)) → (∀ a ∈ A, a.1 < p ∧ a.2.1 < q) → A.length ≤ 10 → Q (.ref n) s') : wE (d_law_arcs [.ref g, .int p, .int q, .int dn] s) Q X :=
  sp_arcsF hgen hp hq hd hd2 fun n s' A h1 h2 h3 h4 h5 _ => hQ n s' A h1 h2 h3 h4 h5
def Bd2 (M : Mt) : Prop := ∀ i j, M i j ≤ 2
theorem Pf.app2 {s t u : S} : Pf s (s ++ t ++ u) := Pf.app.trans Pf.app
end P1
open PySem
namespace Fc
/-- a comprehension over values: what each item gives, if anything -/
theorem w_lcP {s0 : S} {vs : List Nat} {g : G} {t : T} {e : E} {ds : List D} {σ : Fc.Env} {Q : D → S → Prop} {X : Xc} (f : D → Option D) (hl : ds.length < 16777216)
    (hs : ∀ d ∈ ds, ∀ s, Pf s0 s → ∃ σ1, g d (wipe σ vs) s = some σ1 ∧ wE (t σ1 s) (fun c s1 => Pf s s1 ∧ if c = true then wE (e σ1 s1) (fun y s2 => Pf s1 s2 ∧ f d = some y) (fun _ _ _ => False) else f d = none) (fun _ _ _ => False))
    (hQ : ∀ s', Pf s0 s' → s'[s0.length]? = some (.lst (ds.filterMap f)) → Q (.ref s0.length) s') : wE (lcNew s0 fun D0 s2 => lcV D0 vs g t e ds σ s2) Q X := by
  rw [w_lcNew]
  have pset : ∀ {s : S} {o : O}, Pf s0 s → Pf s0 (s.set s0.length o) := fun {s o} h n w hw => by
    have := lt_of_get hw
    rw [set_ne (by omega)]
    exact h n w hw
  obtain ⟨s', acc', h1, h2, bs, h3, h4, h5⟩ := w_lcV (D0 := s0.length) (vs := vs) (g := g) (t := t) (e := e) (σ := σ) (fun r acc s => ∃ bs, ds = bs ++ r ∧ acc = bs.filterMap f ∧ Pf s0 s) ds [] (s := s0 ++ [.lst []]) ⟨[], rfl, rfl, Pf.app⟩ get_new (by
    rintro d r acc s ⟨bs, e1, rfl, pf⟩ hD
    obtain ⟨σ1, g1, g2⟩ := hs d (by rw [e1]; simp) s pf
    refine ⟨σ1, g1, wE_mono g2 fun c s1 ⟨p1, h⟩ => ?_⟩
    cases c with
    | false =>
      simp only [Bool.false_eq_true, if_false] at h ⊢
      exact ⟨p1 _ _ hD, bs ++ [d], by simp [e1], by simp [h], pf.trans p1⟩
    | true =>
      simp only [if_true] at h ⊢
      refine wE_mono h fun y s2 ⟨p2, h⟩ => ⟨p2 _ _ (p1 _ _ hD), ?_, bs ++ [d], by simp [e1], by simp [h], pset ((pf.trans p1).trans p2)⟩
      have : (bs.filterMap f).length ≤ bs.length := List.length_filterMap_le ..
      have : bs.length ≤ ds.length := by rw [e1]; simp
      omega)
  refine ⟨s', h1, hQ s' h5 ?_⟩
  rw [h2, h4]
  simp at h3
  rw [h3]
end Fc
namespace P1
open PySem Fc
theorem sp_whole {s : S} {i : Int} {X : Xc} {Q : D → S → Prop} (hQ : Q (.bl true) s) : wE (d_is_whole [.int i] s) Q X := by
  unfold d_is_whole
  refine (v_def (by rfl)).mpr ?_
  unfold b_is_whole
  simp
  exact hQ
theorem sp_is_arc {s : S} {a : Arc} {X : Xc} {Q : D → S → Prop} (h1 : a.1 < 3) (h2 : a.2.1 < 3) (hQ : Q (.bl true) s) : wE (d_is_arc [aD a, .int 3, .int 3] s) Q X := by
  unfold d_is_arc
  refine (v_def (by rfl)).mpr ?_
  unfold b_is_arc
  simp [aD, eqD_int]
  refine sp_whole ?_
  simp
  refine sp_whole ?_
  have e1 : decide ((a.1 : Int) < 3) = true := decide_eq_true (by omega)
  have e2 : decide ((a.2.1 : Int) < 3) = true := decide_eq_true (by omega)
  simp [e1, e2]
  exact hQ
theorem fm_none {α β : Type} : ∀ l : List α, l.filterMap (fun _ => (none : Option β)) = []
  | [] => rfl
  | a :: l => by rw [List.filterMap_cons]; exact fm_none l
def letters : Str := "abcdefghijklmnopqrstuvwxyz"
/-- what is a name -/
def NameOk (x : Str) : Prop := 1 ≤ x.length ∧ x.length ≤ 12 ∧ ∀ c ∈ x.cps.toList, (Builtin.Str.occurrences letters ⟨#[c]⟩ 0 letters.length 1).isEmpty = false
theorem sp_is_name {s : S} {x : Str} {X : Xc} {Q : D → S → Prop} (h : NameOk x) (hQ : ∀ s', Pf s s' → Q (.bl true) s') : wE (d_is_name [.str x] s) Q X := by
  unfold d_is_name
  refine (v_def (by rfl)).mpr ?_
  unfold b_is_name
  obtain ⟨h1, h2, h3⟩ := h
  have hs : sz x.length = true := sz_lit (by omega)
  have e1 : decide (1 ≤ (x.length : Int)) = true := decide_eq_true (by omega)
  have e2 : decide ((x.length : Int) ≤ 12) = true := decide_eq_true (by omega)
  simp [lenD, hs, e1, e2, srcOf]
  have hlen : (signs x).length < 16777216 := by
    have : x.cps.size = x.length := rfl
    simp [signs]
    omega
  refine w_lcP (fun _ => none) hlen (fun d hd s' pf => ⟨_, rfl, ?_⟩) fun s' pf h => ?_
  · obtain ⟨c, hc, rfl⟩ := List.mem_map.mp hd
    have h4 := h3 c hc
    have e3 : isIn s' (.str ⟨#[c]⟩) (.str letters) = some true := by simp [isIn, h4]
    simp [Fc.wipe]
    rw [show (Str.ofString "abcdefghijklmnopqrstuvwxyz") = letters from rfl, e3]
    simp
    exact Pf.refl
  · have e4 : eqD (s' ++ [O.lst []]) (.ref s.length) (.ref s'.length) = some true := by
      have := eq_nil (s := s' ++ [.lst []]) (n := s.length) (m := s'.length) (A := []) (Pf.app _ _ (by rw [h, fm_none]; rfl)) get_new
      simpa using this
    rw [e4]
    exact hQ _ (pf.trans Pf.app)
theorem in3_cell {M : Mt} {i j : Nat} (hi : i < 3) (hj : j < 3) : In3 (cellA M i j) := by
  intro a ha
  unfold cellA at ha
  split at ha
  · simp at ha; subst ha; exact ⟨hi, hj⟩
  · simp at ha
theorem in3_arcs {M : Mt} : In3 (arcsA M) := by
  intro a ha
  simp only [arcsA, rowA, List.mem_flatMap] at ha
  obtain ⟨i, hi, j, hj, ha⟩ := ha
  simp at hi hj
  exact in3_cell (by omega) (by omega) a ha
/-- the places of arcs -/
def plc (a : Arc) : List Int := [(a.1 : Int), (a.2.1 : Int)]
def plD (a : Arc) : D := .tup [.int a.1, .int a.2.1]
def plP (a : Arc) : PyData := .tuple [.int a.1, .int a.2.1]
theorem tupI_plc : ∀ A : List Arc, tupI (A.map plD) = some (A.map plc)
  | [] => rfl
  | a :: A => by
    show (match intsD [.int a.1, .int a.2.1], tupI (A.map plD) with
      | some x, some xs => some (x :: xs)
      | _, _ => none) = _
    rw [tupI_plc A]
    rfl
theorem setOk_plc (A : List Arc) (h : A.length < 64) : setOk (A.map plc) = true := by
  unfold setOk
  rw [Bool.and_eq_true]
  refine ⟨decide_eq_true (by simpa using h), ?_⟩
  cases A with
  | nil => rfl
  | cons a A =>
    simp [plc]
theorem sortI_sorted : ∀ {l : List (List Int)}, l.Pairwise (fun a b => lexI a b = true) → sortI l = l
  | [], _ => rfl
  | x :: r, h => by
    obtain ⟨h1, h2⟩ := List.pairwise_cons.mp h
    unfold sortI
    rw [sortI_sorted h2]
    cases r with
    | nil => rfl
    | cons y r => simp [putI, h1 y (List.mem_cons_self ..)]
theorem sub_cell {M : Mt} {i j : Nat} : ((cellA M i j).map plc).Sublist [[(i : Int), (j : Int)]] := by
  unfold cellA; split <;> simp [plc]
theorem sub_row {M : Mt} {i : Nat} : ((rowA M i).map plc).Sublist [[(i : Int), 0], [(i : Int), 1], [(i : Int), 2]] := by
  have h := (sub_cell (M := M) (i := i) (j := 0)).append ((sub_cell (M := M) (i := i) (j := 1)).append (sub_cell (M := M) (i := i) (j := 2)))
  simpa [rowA] using h
theorem sub_arcs {M : Mt} : ((arcsA M).map plc).Sublist [[0, 0], [0, 1], [0, 2], [1, 0], [1, 1], [1, 2], [2, 0], [2, 1], [2, 2]] := by
  have h := (sub_row (M := M) (i := 0)).append ((sub_row (M := M) (i := 1)).append (sub_row (M := M) (i := 2)))
  simpa [arcsA] using h
theorem plc_srt {M : Mt} : ((arcsA M).map plc).Pairwise (fun a b => lexI a b = true) := List.Pairwise.sublist sub_arcs (by decide)
theorem plc_back : ∀ A : List Arc, (A.map plc).map (fun x => D.tup (x.map .int)) = A.map plD
  | [] => rfl
  | a :: A => by
    rw [List.map_cons, List.map_cons, plc_back A]
    rfl
theorem dat_pl {s : S} {n : Nat} (a : Arc) : dat s (n + 1) (plD a) = some (plP a) := by
  unfold plD
  rw [dat_tup, dats_cons dat_int (dats_cons dat_int dats_nil)]
  rfl
theorem datsG {s : S} {n : Nat} (g : Arc → D) (f : Arc → PyData) (h : ∀ a, dat s n (g a) = some (f a)) : ∀ A : List Arc, dats s n (A.map g) = some (A.map f)
  | [] => by simp
  | a :: A => dats_cons (h a) (datsG g f h A)
theorem plP_ok : ∀ A : List Arc, PyData.canLayAll0 (A.map plP) = true ∧ PyData.depthAll (A.map plP) ≤ 1 ∧ PyData.eqvAll (A.map plP) (A.map plP) = true
  | [] => by simp [PyData.canLayAll0, PyData.depthAll, PyData.eqvAll]
  | a :: A => by
    obtain ⟨h1, h2, h3⟩ := plP_ok A
    simp [plP, PyData.canLayAll0, PyData.canLay0, PyData.depthAll, PyData.depth, PyData.eqvAll, PyData.eqv] at h1 h2 h3 ⊢
    exact ⟨h1, by omega, h3⟩
/-- two lists of the same places -/
theorem eq_pl {s : S} {n m : Nat} {A : List Arc} (h : s[n]? = some (.lst (A.map plD))) (h2 : s[m]? = some (.lst (A.map plD))) : eqD s (.ref n) (.ref m) = some true := by
  obtain ⟨k1, k2, k3⟩ := plP_ok A
  have sh : SeqAt.shaped (.list (A.map plP)) = true := by
    refine Bool.and_eq_true_iff.mpr ⟨by simp only [PyData.canLay0, k1], decide_eq_true ?_⟩
    simp only [PyData.depth]
    omega
  have e1 : dat s 60 (.ref n) = some (.list (A.map plP)) := by rw [dat_ref h, datsG plD plP (fun a => dat_pl a)]; rfl
  have e2 : dat s 60 (.ref m) = some (.list (A.map plP)) := by rw [dat_ref h2, datsG plD plP (fun a => dat_pl a)]; rfl
  rw [eq_of e1 e2 sh sh]
  simp only [PyData.eqv, k3]
theorem fm_map {α β γ : Type} (g : α → β) (f : β → Option γ) (k : α → γ) (h : ∀ a, f (g a) = some (k a)) : ∀ l : List α, (l.map g).filterMap f = l.map k
  | [] => rfl
  | a :: l => by rw [List.map_cons, List.filterMap_cons, h a, List.map_cons, fm_map g f k h l]
/-- what (int(i), int(j)) is, of an arc -/
def plOf : D → Option D
  | .tup [.int i, .int j, _] => some (.tup [.int i, .int j])
  | _ => none
theorem sp_is_table {s : S} {b e : Str} {M : Mt} {X : Xc} {Q : D → S → Prop} (hb : NameOk b) (he : NameOk e) (hQ : ∀ s', Pf s s' → Q (.bl true) s') : wE (d_is_table [tabD b e M] s) Q X := by
  unfold d_is_table
  refine (v_def (by rfl)).mpr ?_
  unfold b_is_table
  have hal := arcs_len (M := M)
  simp [tabD, eqD_int]
  refine sp_is_name hb fun s1 p1 => ?_
  simp
  refine sp_is_name he fun s2 p2 => ?_
  simp [srcOf]
  refine w_lcP (fun _ => none) (by simp; omega) (fun d hd s' pf => ?_) fun s3 p3 h3 => ?_
  · obtain ⟨a, ha, rfl⟩ := List.mem_map.mp hd
    have h := in3_arcs a ha
    refine ⟨_, rfl, ?_⟩
    simp [Fc.wipe]
    refine sp_is_arc h.1 h.2 ?_
    simp
    exact Pf.refl
  · rw [fm_none] at h3
    have e4 : eqD (s3 ++ [O.lst []]) (.ref s2.length) (.ref s3.length) = some true := eq_nil (A := []) (Pf.app _ _ h3) get_new
    rw [e4]
    simp
    have p4 : Pf s2 (s3 ++ [O.lst []]) := p3.trans Pf.app
    refine w_lcP plOf (by simp; omega) (fun d hd s' pf => ?_) fun s5 p5 h5 => ?_
    · obtain ⟨a, ha, rfl⟩ := List.mem_map.mp hd
      refine ⟨_, rfl, ?_⟩
      simp [Fc.wipe, aD, plOf]
      exact Pf.refl
    · rw [fm_map aD plOf plD (fun a => rfl)] at h5
      have e5 : fSortSet [D.ref (List.length (s3 ++ [O.lst []]))] s5 = new (.lst ((arcsA M).map plD)) s5 := by
        unfold fSortSet
        simp only [h5, tupI_plc, setOk_plc _ (show (arcsA M).length < 64 by omega), if_true, sortI_sorted plc_srt, plc_back]
      rw [e5, v_new]
      rw [eq_pl (A := arcsA M) (Pf.app _ _ h5) get_new]
      exact hQ _ (p1.trans (p2.trans (p4.trans (p5.trans Pf.app))))
end P1
namespace P1
open PySem Fc
abbrev Pr := Nat × Nat
def kD (p : Pr) : List L2.Key := [.inl (p.1 : Int), .inl (p.2 : Int)]
theorem kD_inj {p q : Pr} : kD p = kD q ↔ p = q := by
  unfold kD
  constructor
  · intro h
    obtain ⟨a, b⟩ := p
    obtain ⟨c, d⟩ := q
    simp at h
    obtain ⟨h1, h2⟩ := h
    have h1 : (a : Int) = c := by simpa using h1
    have h2 : (b : Int) = d := by simpa using h2
    have e1 : a = c := by omega
    have e2 : b = d := by omega
    rw [e1, e2]
  · rintro rfl; rfl
def kvO (F : Mt) (ps : List Pr) : List (List L2.Key × D) := ps.map fun p => (kD p, .bl (F p.1 p.2 == 2))
/-- ps are the places of F, each once -/
structure Pls (F : Mt) (ps : List Pr) : Prop where
  nd : ps.Nodup
  mem : ∀ p, p ∈ ps ↔ p.1 < 3 ∧ p.2 < 3 ∧ 0 < F p.1 p.2
theorem kget_kvO {F : Mt} {p : Pr} : ∀ {ps : List Pr}, kget (kvO F ps) (kD p) = if p ∈ ps then some (.bl (F p.1 p.2 == 2)) else none
  | [] => rfl
  | q :: ps => by
    have ih := kget_kvO (F := F) (p := p) (ps := ps)
    unfold kget kvO at ih ⊢
    by_cases h : kD q = kD p
    · have e := kD_inj.mp h
      subst e
      simp
    · have ne : ¬ p = q := fun z => h (by rw [z])
      simp only [List.map_cons, List.find?_cons, h, decide_false, List.mem_cons, ne, false_or]
      exact ih
theorem kput_kvO {F : Mt} {p : Pr} {w : Nat} {ps : List Pr} : kput (kvO F ps) (kD p) (.bl (w == 2)) = kvO (updM F p.1 p.2 w) (if p ∈ ps then ps else ps ++ [p]) := by
  have any : ((kvO F ps).any fun kv => decide (kv.1 = kD p)) = true ↔ p ∈ ps := by
    simp [kvO, kD_inj]
  have upd : ∀ q : Pr, updM F p.1 p.2 w q.1 q.2 = if q = p then w else F q.1 q.2 := fun q => by
    unfold updM
    by_cases h : q = p
    · subst h; simp
    · rw [if_neg h, if_neg]
      rintro ⟨h1, h2⟩
      exact h (Prod.ext h1 h2)
  unfold kput
  by_cases h : p ∈ ps
  · rw [if_pos (any.mpr h), if_pos h]
    unfold kvO
    rw [List.map_map]
    refine List.map_congr_left fun q hq => ?_
    simp only [Function.comp, kD_inj, upd]
    by_cases e : q = p
    · simp [e]
    · simp [e]
  · rw [if_neg (fun z => h (any.mp z)), if_neg h]
    unfold kvO
    rw [List.map_append]
    congr 1
    · refine List.map_congr_left fun q hq => ?_
      have e : ¬ q = p := fun z => h (z ▸ hq)
      simp [upd, e]
    · simp [upd]
theorem Pls.put {F : Mt} {ps : List Pr} {p : Pr} {w : Nat} (h : Pls F ps) (h1 : p.1 < 3) (h2 : p.2 < 3) (hw : 0 < w) : Pls (updM F p.1 p.2 w) (if p ∈ ps then ps else ps ++ [p]) := by
  have upd : ∀ q : Pr, updM F p.1 p.2 w q.1 q.2 = if q = p then w else F q.1 q.2 := fun q => by
    unfold updM
    by_cases h : q = p
    · subst h; simp
    · rw [if_neg h, if_neg]
      rintro ⟨h1, h2⟩
      exact h (Prod.ext h1 h2)
  by_cases hp : p ∈ ps
  · rw [if_pos hp]
    refine ⟨h.nd, fun q => ?_⟩
    rw [h.mem, upd]
    by_cases e : q = p
    · subst e
      have := (h.mem q).mp hp
      simp [hw, this]
    · simp [e]
  · rw [if_neg hp]
    refine ⟨?_, fun q => ?_⟩
    · rw [List.nodup_append]
      refine ⟨h.nd, by simp, fun a ha b hb e => ?_⟩
      simp at hb
      subst hb; subst e
      exact hp ha
    · rw [List.mem_append, h.mem, upd]
      by_cases e : q = p
      · subst e; simp [hw, h1, h2]
      · simp [e]
theorem nodup_le {α : Type} [DecidableEq α] : ∀ {l m : List α}, l.Nodup → l ⊆ m → l.length ≤ m.length
  | [], _, _, _ => Nat.zero_le _
  | a :: l, m, h, hs => by
    obtain ⟨h1, h2⟩ := List.nodup_cons.mp h
    have ha : a ∈ m := hs (List.mem_cons_self ..)
    have hl : l ⊆ m.erase a := fun x hx => (List.mem_erase_of_ne (fun z => h1 (by rw [← z]; exact hx))).mpr (hs (List.mem_cons_of_mem _ hx))
    have := nodup_le h2 hl
    have e := List.length_erase_of_mem ha
    have : 0 < m.length := List.length_pos_of_mem ha
    simp only [List.length_cons]
    omega
theorem Pls.len {F : Mt} {ps : List Pr} (h : Pls F ps) : ps.length ≤ 9 := by
  have : ps ⊆ [(0, 0), (0, 1), (0, 2), (1, 0), (1, 1), (1, 2), (2, 0), (2, 1), (2, 2)] := fun p hp => by
    have := (h.mem p).mp hp
    obtain ⟨a, b⟩ := p
    obtain ⟨h1, h2, _⟩ := this
    simp only at h1 h2
    match a, b, h1, h2 with
    | 0, 0, _, _ => simp
    | 0, 1, _, _ => simp
    | 0, 2, _, _ => simp
    | 1, 0, _, _ => simp
    | 1, 1, _, _ => simp
    | 1, 2, _, _ => simp
    | 2, 0, _, _ => simp
    | 2, 1, _, _ => simp
    | 2, 2, _, _ => simp
  have k := nodup_le h.nd this
  simpa using k
/-- found[i, j] = found.get((i, j), False) or falls or more -/
theorem st_join {s : S} {n : Nat} {F : Mt} {ps : List Pr} {d1 d2 : D} {i k j k' : Nat} {f m : Bool} {P : Pst} (hn : s[n]? = some (.dT (kvO F ps))) (hp : Pls F ps) (hi : i < 3) (hj : j < 3) (hF : Bd2 F) (hf0 : ∀ a b, (a, b) ∉ ps → F a b = 0)
    (h1 : ¬ k' = k → P.nx [some d1, some d2, some (.ref n), some (.int i), some (.int k), some (.bl f), some (.int k'), some (.int j), some (.bl m)] s)
    (h2 : k' = k → ∀ ps', Pls (updM F i j (max (F i j) (1 + (f || m).toNat))) ps' → P.nx [some d1, some d2, some (.ref n), some (.int i), some (.int k), some (.bl f), some (.int k'), some (.int j), some (.bl m)] (s.set n (.dT (kvO (updM F i j (max (F i j) (1 + (f || m).toNat))) ps')))) :
    wC (cIf (tB (e2 oEq (eVar 6) (eVar 4)))
      (cSub (eVar 2) (eN mTup (lCons (eVar 3) (lCons (eVar 7) lNil))) (eOr (eGet2 (eVar 2) (eN mTup (lCons (eVar 3) (lCons (eVar 7) lNil))) (eC (.bl false))) (eOr (eVar 5) (eVar 8))))
      cNil [some d1, some d2, some (.ref n), some (.int i), some (.int k), some (.bl f), some (.int k'), some (.int j), some (.bl m)] s) P := by
  have hl := hp.len
  have g : dgetAt s (.ref n) (.tup [.int i, .int j]) = some (kget (kvO F ps) (kD (i, j))) := by
    unfold dgetAt rd
    simp [hn, unl, dget, keysOf, keyOf]
    rfl
  have isd : isDict s (.ref n) = true := by simp [isDict, rd, hn, unl]
  have key : ∀ w : Nat, 0 < w → Fc.putAt s (.ref n) (.tup [.int i, .int j]) (.bl (w == 2)) = some (s.set n (.dT (kvO (updM F i j w) (if (i, j) ∈ ps then ps else ps ++ [(i, j)])))) := fun w hw => by
    unfold Fc.putAt
    dsimp only
    rw [hn]
    dsimp only
    have hlen : (kvO F ps).length < 16777216 := by simp [kvO]; omega
    have e := kput_kvO (F := F) (p := (i, j)) (w := w) (ps := ps)
    unfold dput
    dsimp only
    rw [if_pos hlen]
    simp [keysOf, keyOf]
    unfold kD at e
    rw [e]
  have kgf : (kget (kvO F ps) (kD (i, j))).getD (.bl false) = .bl (F i j == 2) := by
    rw [kget_kvO]
    by_cases h : (i, j) ∈ ps
    · rw [if_pos h]; rfl
    · rw [if_neg h, hf0 i j h]; rfl
  simp [eqD_int]
  refine onT_by (fun h => ?_) fun h => ?_
  · have h : k' = k := by
      have : (k' : Int) = k := by simpa using h
      omega
    rw [isd, onT_t, g]
    simp only [onO_some]
    rw [kgf]
    simp
    have hb := hF i j
    have fin : ∀ c : Bool, c = (max (F i j) (1 + (f || m).toNat) == 2) → onO (Fc.putAt s (.ref n) (.tup [.int i, .int j]) (.bl c)) fun s4 => P.nx [some d1, some d2, some (.ref n), some (.int i), some (.int k), some (.bl f), some (.int k'), some (.int j), some (.bl m)] s4 := by
      rintro c rfl
      rw [key _ (by omega)]
      exact h2 h _ (hp.put (p := (i, j)) hi hj (by omega))
    refine onT_by (fun hc => ?_) fun hc => ?_
    · have hc : F i j = 2 := by simpa using hc
      rw [hc]
      refine fin _ ?_
      rw [hc]
      cases f <;> cases m <;> rfl
    · have hc : ¬ F i j = 2 := by simpa using hc
      have hv : F i j = 0 ∨ F i j = 1 := by omega
      cases f with
      | true =>
        simp
        refine fin _ ?_
        rcases hv with e | e <;> rw [e] <;> cases m <;> rfl
      | false =>
        simp
        refine fin _ ?_
        rcases hv with e | e <;> rw [e] <;> cases m <;> rfl
  · have h : ¬ k' = k := by
      have : ¬ (k' : Int) = k := by simpa using h
      omega
    simpa using h1 h
def leP (p q : Pr) : Bool := decide (p.1 < q.1 ∨ (p.1 = q.1 ∧ p.2 ≤ q.2))
def a2 (a : Arc) : Pr := (a.1, a.2.1)
theorem mem_arcs {F : Mt} {a : Arc} : a ∈ arcsA F ↔ a.1 < 3 ∧ a.2.1 < 3 ∧ 0 < F a.1 a.2.1 ∧ a.2.2 = (F a.1 a.2.1 == 2) := by
  simp only [arcsA, rowA, List.mem_flatMap, cellA]
  constructor
  · rintro ⟨i, hi, j, hj, h⟩
    split at h
    · rename_i hF
      simp at h
      subst h
      simp at hi hj
      exact ⟨by simp; omega, by simp; omega, hF, rfl⟩
    · simp at h
  · rintro ⟨h1, h2, h3, h4⟩
    refine ⟨a.1, by simp; omega, a.2.1, by simp; omega, ?_⟩
    rw [if_pos h3]
    obtain ⟨i, j, f⟩ := a
    simp at h4 ⊢
    exact h4
theorem pairs_srt {F : Mt} : ((arcsA F).map a2).Pairwise (fun p q => p.1 < q.1 ∨ (p.1 = q.1 ∧ p.2 < q.2)) := by
  have sc : ∀ i j : Nat, ((cellA F i j).map a2).Sublist [(i, j)] := fun i j => by unfold cellA; split <;> simp [a2]
  have sr : ∀ i : Nat, ((rowA F i).map a2).Sublist [(i, 0), (i, 1), (i, 2)] := fun i => by
    have h := (sc i 0).append ((sc i 1).append (sc i 2))
    simpa [rowA] using h
  have h := (sr 0).append ((sr 1).append (sr 2))
  refine List.Pairwise.sublist (l₂ := [(0, 0), (0, 1), (0, 2), (1, 0), (1, 1), (1, 2), (2, 0), (2, 1), (2, 2)]) (by simpa [arcsA] using h) (by decide)
theorem sort_ps {F : Mt} {ps : List Pr} (h : Pls F ps) : ps.mergeSort leP = (arcsA F).map a2 := by
  have hs := pairs_srt (F := F)
  have nd : ((arcsA F).map a2).Nodup := hs.imp fun {a b} h e => by subst e; omega
  refine List.Perm.eq_of_pairwise (le := fun p q => leP p q = true) (fun a b _ _ h1 h2 => ?_) (List.pairwise_mergeSort (fun a b c h1 h2 => ?_) (fun a b => ?_) ps) (hs.imp fun {a b} h => ?_) ((List.mergeSort_perm ps leP).trans ((List.perm_ext_iff_of_nodup h.nd nd).mpr fun p => ?_))
  · simp only [leP, decide_eq_true_eq] at h1 h2
    exact Prod.ext (by omega) (by omega)
  · simp only [leP, decide_eq_true_eq] at h1 h2 ⊢
    omega
  · simp only [leP, Bool.or_eq_true, decide_eq_true_eq]
    omega
  · simp only [leP, decide_eq_true_eq]
    omega
  · rw [h.mem, List.mem_map]
    constructor
    · rintro ⟨h1, h2, h3⟩
      exact ⟨(p.1, p.2, F p.1 p.2 == 2), mem_arcs.mpr ⟨h1, h2, h3, rfl⟩, rfl⟩
    · rintro ⟨a, ha, rfl⟩
      obtain ⟨h1, h2, h3, _⟩ := mem_arcs.mp ha
      exact ⟨h1, h2, h3⟩
def pQ (p : Pr) : D := .tup [.int p.1, .int p.2]
def pP (p : Pr) : PyData := .tuple [.int p.1, .int p.2]
theorem dat_pQ {s : S} {n : Nat} (p : Pr) : dat s (n + 1) (pQ p) = some (pP p) := by
  unfold pQ
  rw [dat_tup, dats_cons dat_int (dats_cons dat_int dats_nil)]
  rfl
theorem enc_pQ {s : S} (p : Pr) : enc s (pQ p) = pP p := by unfold enc; rw [dat_pQ]; rfl
theorem datsP {s : S} {n : Nat} : ∀ ps : List Pr, dats s (n + 1) (ps.map pQ) = some (ps.map pP)
  | [] => by simp
  | p :: ps => dats_cons (dat_pQ p) (datsP ps)
theorem sortOk_ps {s : S} {ps : List Pr} (h : ps.length ≤ 9) : sortOk s (ps.map pQ) = true := by
  unfold sortOk
  have e : (ps.map pQ).map (enc s) = ps.map pP := by
    rw [List.map_map]
    exact List.map_congr_left fun p _ => enc_pQ p
  rw [datsP, e]
  have h1 : sz (ps.map pQ).length = true := sz_lit (by simp; omega)
  rw [h1]
  simp [List.all_map, sortKind, pP, PySem.W.alike, PySem.W.alikeAll]
theorem sortD_ps {s : S} {ps : List Pr} : sortD s (ps.map pQ) = (ps.mergeSort leP).map pQ := by
  unfold sortD
  refine (List.map_mergeSort fun a _ b _ => ?_).symm
  have e := congrFun (congrFun (PySem.W.dataLe_ii (β := Pr) (fun p => (p.1 : Int)) (fun p => (p.2 : Int))) a) b
  have e2 : PySem.W.dataLe false (enc s) (pQ a) (pQ b) = PySem.W.dataLe false (fun p : Pr => .tuple [.int (p.1 : Int), .int (p.2 : Int)]) a b := by
    simp only [PySem.W.dataLe_eq, enc_pQ, pP]
  rw [e2, e]
  unfold leP
  by_cases h : a.1 < b.1 ∨ (a.1 = b.1 ∧ a.2 ≤ b.2)
  · rw [decide_eq_true h, decide_eq_true (by omega)]
  · rw [decide_eq_false h, decide_eq_false (by omega)]
end P1
namespace Fc
open PySem
theorem w_lcL {D0 n : Nat} {dsA : List D} {vs : List Nat} {g : G} {t : T} {e : E} {σ : Fc.Env} (I : List D → List D → S → Prop) (hk : ∀ r acc s, I r acc s → s[n]? = some (.lst dsA)) : ∀ (k i : Nat) (acc : List D) {s : S}, dsA.length = i + k → I (dsA.drop i) acc s → s[D0]? = some (.lst acc) →
    (∀ d r acc s, I (d :: r) acc s → s[D0]? = some (.lst acc) → ∃ σ1, g d (wipe σ vs) s = some σ1 ∧ wE (t σ1 s) (fun c s1 => if c = true then wE (e σ1 s1) (fun y s2 => s2[D0]? = some (.lst acc) ∧ acc.length < 16777216 ∧ I r (acc ++ [y]) (s2.set D0 (.lst (acc ++ [y])))) (fun _ _ _ => False) else s1[D0]? = some (.lst acc) ∧ I r acc s1) (fun _ _ _ => False)) →
    ∃ s' acc', lcL D0 n vs g t e k i σ s = some s' ∧ s'[D0]? = some (.lst acc') ∧ I [] acc' s'
  | 0, i, acc, s, hl, h, hD, _ => by
    have e1 := hk _ _ _ h
    rw [List.drop_eq_nil_of_le (by omega)] at h
    refine ⟨s, acc, ?_, hD, h⟩
    unfold lcL lstAt
    rw [e1]
    simp [hl]
  | k + 1, i, acc, s, hl, h, hD, hs => by
    with_unfolding_all
      have e1 := hk _ _ _ h
      have hi : i < dsA.length := by omega
      rw [List.drop_eq_getElem_cons hi] at h
      obtain ⟨σ1, h1, h2⟩ := hs _ _ acc s h hD
      unfold lcL lstAt
      rw [e1]
      dsimp only
      rw [if_pos (by omega), List.getElem?_eq_getElem hi]
      dsimp only
      rw [h1]
      dsimp only
      cases ht : t σ1 s with
      | none => rw [ht] at h2; exact h2.elim
      | some q =>
        rw [ht] at h2
        cases q with
        | exc c fs s' => exact h2.elim
        | ok c s1 =>
          cases c with
          | false =>
            simp only [w_some, Bool.false_eq_true, if_false] at h2
            exact w_lcL I hk k (i + 1) acc (by omega) h2.2 h2.1 hs
          | true =>
            simp only [w_some, if_true] at h2
            dsimp only
            cases he : e σ1 s1 with
            | none => rw [he] at h2; exact h2.elim
            | some q =>
              rw [he] at h2
              cases q with
              | exc c fs s' => exact h2.elim
              | ok y s2 =>
                obtain ⟨h3, h4, h5⟩ := w_some.mp h2
                have hl' : D0 < s2.length := (List.getElem?_eq_some_iff.mp h3).1
                dsimp only
                unfold lcStep
                rw [h3]
                dsimp only
                rw [if_pos h4]
                exact w_lcL I hk k (i + 1) (acc ++ [y]) (by omega) h5 (by rw [List.getElem?_set_self hl']) hs
/-- a comprehension over a list -/
theorem w_lcPL {s0 : S} {n : Nat} {vs : List Nat} {g : G} {t : T} {e : E} {ds : List D} {σ : Fc.Env} {Q : D → S → Prop} {X : Xc} (f : D → Option D) (hn : s0[n]? = some (.lst ds)) (hl : ds.length < 16777216)
    (hs : ∀ d ∈ ds, ∀ s, Pf s0 s → ∃ σ1, g d (wipe σ vs) s = some σ1 ∧ wE (t σ1 s) (fun c s1 => Pf s s1 ∧ if c = true then wE (e σ1 s1) (fun y s2 => Pf s1 s2 ∧ f d = some y) (fun _ _ _ => False) else f d = none) (fun _ _ _ => False))
    (hQ : ∀ s', Pf s0 s' → s'[s0.length]? = some (.lst (ds.filterMap f)) → Q (.ref s0.length) s') : wE (lcNew s0 fun D0 s2 => lcL D0 n vs g t e ds.length 0 σ s2) Q X := by
  rw [w_lcNew]
  have pset : ∀ {s : S} {o : O}, Pf s0 s → Pf s0 (s.set s0.length o) := fun {s o} h n w hw => by
    have := lt_of_get hw
    rw [set_ne (by omega)]
    exact h n w hw
  obtain ⟨s', acc', h1, h2, bs, h3, h4, h5⟩ := w_lcL (D0 := s0.length) (n := n) (dsA := ds) (vs := vs) (g := g) (t := t) (e := e) (σ := σ) (fun r acc s => ∃ bs, ds = bs ++ r ∧ acc = bs.filterMap f ∧ Pf s0 s) (fun r acc s ⟨_, _, _, pf⟩ => pf _ _ hn) ds.length 0 [] (s := s0 ++ [.lst []]) (by omega) ⟨[], rfl, rfl, Pf.app⟩ get_new (by
    rintro d r acc s ⟨bs, e1, rfl, pf⟩ hD
    obtain ⟨σ1, g1, g2⟩ := hs d (by rw [e1]; simp) s pf
    refine ⟨σ1, g1, wE_mono g2 fun c s1 ⟨p1, h⟩ => ?_⟩
    cases c with
    | false =>
      simp only [Bool.false_eq_true, if_false] at h ⊢
      exact ⟨p1 _ _ hD, bs ++ [d], by simp [e1], by simp [h], pf.trans p1⟩
    | true =>
      simp only [if_true] at h ⊢
      refine wE_mono h fun y s2 ⟨p2, h⟩ => ⟨p2 _ _ (p1 _ _ hD), ?_, bs ++ [d], by simp [e1], by simp [h], pset ((pf.trans p1).trans p2)⟩
      have : (bs.filterMap f).length ≤ bs.length := List.length_filterMap_le ..
      have : bs.length ≤ ds.length := by rw [e1]; simp
      omega)
  refine ⟨s', h1, hQ s' h5 ?_⟩
  rw [h2, h4]
  simp at h3
  rw [h3]
/-- over a dict: locked meanwhile -/
theorem w_lcDict {s : S} {n : Nat} {o : O} {f : S → Option (Res D)} {Q : D → S → Prop} {X : Xc} (h : s[n]? = some o) (hn : ∀ o', o ≠ .lck o') : wE (lcDict n s f) Q X ↔ wE (f (s.set n (.lck o))) (fun d s' => Q d (s'.set n o)) X := by
  with_unfolding_all
    unfold lcDict
    rw [h]
    cases o with
    | lck o' => exact absurd rfl (hn o')
    | _ =>
      dsimp only
      split
      · rename_i e; rw [e]; rfl
      · rename_i r e
        cases hr : f (s.set n _) with
        | none => rfl
        | some q =>
          cases q with
          | ok d s' => exact absurd hr (e d s')
          | exc c fs s' => rfl
/-- a dict locked, something made, the dict open again -/
theorem Pf.unlock {s s' : S} {n : Nat} {o o' : O} (h : s[n]? = some o) (p : Pf (s.set n o') s') : Pf s (s'.set n o) := fun m w hw => by
  have hl : n < s.length := lt_of_get h
  by_cases e : n = m
  · subst e
    rw [h] at hw; cases hw
    have : n < s'.length := by have := p.len; simp at this; omega
    rw [set_get this]
  · rw [set_ne e]
    exact p _ _ (by rw [set_ne e]; exact hw)
end Fc
namespace P1
open PySem Fc
def pOf : D → Option D
  | .tup [.int i, .int j] => some (.tup [.int i, .int j])
  | _ => none
theorem fm_map2 {α β γ : Type} (g : α → β) (f : β → Option γ) (k : α → γ) : ∀ l : List α, (∀ a ∈ l, f (g a) = some (k a)) → (l.map g).filterMap f = l.map k
  | [], _ => rfl
  | a :: l, h => by rw [List.map_cons, List.filterMap_cons, h a (List.mem_cons_self ..), List.map_cons, fm_map2 g f k l fun b hb => h b (List.mem_cons_of_mem _ hb)]
/-- the arcs of a dict of places -/
theorem sp_arcs_of {s : S} {n : Nat} {F : Mt} {ps : List Pr} {X : Xc} {Q : D → S → Prop} (hn : s[n]? = some (.dT (kvO F ps))) (hp : Pls F ps) (hQ : ∀ s', Pf s s' → Q (.tup ((arcsA F).map aD)) s') : wE (d_arcs_of [.ref n] s) Q X := by
  unfold d_arcs_of
  refine (v_def (by rfl)).mpr ?_
  unfold b_arcs_of
  have hl := hp.len
  have hal := arcs_len (M := F)
  have src1 : srcOf .seq (.ref n) s = some (.dict n (ps.map pQ)) := by
    simp [srcOf, hn, unl, dSrc, kvO, List.map_map]
    intro a b _
    simp [kD, dOf, pQ]
  simp
  rw [src1]
  simp only [onO_some]
  rw [w_lcDict hn (fun o' z => by cases z)]
  refine w_lcP pOf (by simp; omega) (fun d hd s' pf => ?_) fun s1 p1 h1 => ?_
  · obtain ⟨p, hp', rfl⟩ := List.mem_map.mp hd
    refine ⟨_, rfl, ?_⟩
    simp [Fc.wipe, pQ, pOf]
    exact Pf.refl
  · rw [fm_map pQ pOf pQ (fun p => rfl)] at h1
    have hlt := lt_of_get hn
    have q1 : Pf s (s1.set n (.dT (kvO F ps))) := Pf.unlock hn p1
    have g1 : (s1.set n (.dT (kvO F ps)))[(s.set n (.lck (.dT (kvO F ps)))).length]? = some (.lst (ps.map pQ)) := by
      rw [set_ne (by simp; omega)]; exact h1
    generalize s1.set n (.dT (kvO F ps)) = s2 at q1 g1
    generalize (s.set n (.lck (.dT (kvO F ps)))).length = m at g1
    have e5 : fSorted [.ref m] s2 = new (.lst (((arcsA F).map a2).map pQ)) s2 := by
      unfold fSorted
      simp only [g1, sortOk_ps hl, if_true, sortD_ps, sort_ps hp]
    rw [e5, v_new]
    generalize hL : ((arcsA F).map a2).map pQ = L
    have hLl : L.length < 16777216 := by rw [← hL]; simp; omega
    have src2 : srcOf .seq (.ref s2.length) (s2 ++ [.lst L]) = some (.list s2.length L.length) := by simp [srcOf]
    rw [src2]
    simp only [onO_some]
    let f : D → Option D := fun d => match d with
      | .tup [.int i, .int j] => some (.tup [.int i, .int j, .bl (F i.toNat j.toNat == 2)])
      | _ => none
    refine w_lcPL (n := s2.length) (ds := L) f get_new hLl (fun d hd s' pf => ?_) fun s3 p3 h3 => ?_
    · rw [← hL] at hd
      obtain ⟨p, hp', rfl⟩ := List.mem_map.mp hd
      obtain ⟨a, ha, rfl⟩ := List.mem_map.mp hp'
      obtain ⟨k1, k2, k3, k4⟩ := mem_arcs.mp ha
      have en := pf _ _ (Pf.app (t := [.lst L]) _ _ (q1 _ _ hn))
      have e6 : atD s' (.ref n) (.tup [.int a.1, .int a.2.1]) = some (.bl (F a.1 a.2.1 == 2)) := by
        have g := kget_kvO (F := F) (p := (a.1, a.2.1)) (ps := ps)
        rw [if_pos ((hp.mem _).mpr ⟨k1, k2, k3⟩)] at g
        unfold kD at g
        simp [atD, en, unl, dget, keysOf, keyOf]
        rw [g]
      refine ⟨_, rfl, ?_⟩
      simp [Fc.wipe, pQ, a2]
      refine ⟨Pf.refl, ?_⟩
      rw [e6]
      simp [f]
      exact Pf.refl
    · have ef : L.filterMap f = (arcsA F).map aD := by
        rw [← hL, List.map_map]
        refine fm_map2 _ f aD _ fun a ha => ?_
        obtain ⟨k1, k2, k3, k4⟩ := mem_arcs.mp ha
        simp [f, pQ, a2, aD, k4]
      rw [ef] at h3
      rw [o_tuple_l, lstAt_of h3]
      exact hQ _ (q1.trans (Pf.app.trans p3))
end P1
namespace P1
open PySem Fc
def stepJ (a b : Arc) (F : Mt) : Mt := if b.1 = a.2.1 then updM F a.1 b.2.1 (max (F a.1 b.2.1) (1 + (a.2.2 || b.2.2).toNat)) else F
def inJ (F : Mt) (a : Arc) (Bs : List Arc) : Mt := Bs.foldl (fun F b => stepJ a b F) F
def outJ (F : Mt) (As Bs : List Arc) : Mt := As.foldl (fun F a => inJ F a Bs) F
/-- the dict in the midst: F, its places -/
structure DJ (F : Mt) (ps : List Pr) : Prop where
  pl : Pls F ps
  bd : Bd2 F
  z : ∀ a b, ¬ (a < 3 ∧ b < 3) → F a b = 0
theorem DJ.out {F : Mt} {ps : List Pr} (h : DJ F ps) : ∀ a b, (a, b) ∉ ps → F a b = 0 := fun a b hn => by
  by_cases k : a < 3 ∧ b < 3
  · have : ¬ 0 < F a b := fun w => hn ((h.pl.mem (a, b)).mpr ⟨k.1, k.2, w⟩)
    omega
  · exact h.z a b k
theorem DJ.put {F : Mt} {ps ps' : List Pr} {i j : Nat} {f : Bool} (h : DJ F ps) (hi : i < 3) (hj : j < 3) (k : Pls (updM F i j (max (F i j) (1 + f.toNat))) ps') : DJ (updM F i j (max (F i j) (1 + f.toNat))) ps' := by
  refine ⟨k, fun a b => ?_, fun a b hab => ?_⟩
  · unfold updM
    have := h.bd i j
    have := h.bd a b
    cases f <;> simp <;> split <;> omega
  · unfold updM
    rw [if_neg (by rintro ⟨rfl, rfl⟩; exact hab ⟨hi, hj⟩)]
    exact h.z a b hab
theorem sp_joined {s : S} {b1 e1 b2 e2 : Str} {M N : Mt} {X : Xc} {Q : D → S → Prop} (hQ : ∀ s', Pf s s' → Q (tabD b1 e2 (outJ (fun _ _ => 0) (arcsA M) (arcsA N))) s') : wE (d_joined [tabD b1 e1 M, tabD b2 e2 N] s) Q X := by
  unfold d_joined
  refine (v_def (by rfl)).mpr ?_
  unfold b_joined
  have hM := in3_arcs (M := M)
  have hN := in3_arcs (M := N)
  have eM : tabD b1 e1 M = .tup [.str b1, .str e1, .tup ((arcsA M).map aD)] := rfl
  have eN' : tabD b2 e2 N = .tup [.str b2, .str e2, .tup ((arcsA N).map aD)] := rfl
  generalize hdM : tabD b1 e1 M = dM at *
  generalize hdN : tabD b2 e2 N = dN at *
  generalize hA : arcsA M = As at *
  generalize hB : arcsA N = Bs at *
  have z0 : DJ (fun _ _ => 0) [] := ⟨⟨List.nodup_nil, fun p => by simp⟩, fun _ _ => by omega, fun _ _ _ => rfl⟩
  have at1 : ∀ s', atD s' dM (.int 2) = some (.tup (As.map aD)) := fun s' => by rw [eM]; simp
  have at2 : ∀ s', atD s' dN (.int 2) = some (.tup (Bs.map aD)) := fun s' => by rw [eN']; simp
  simp
  rw [at1]
  simp [srcOf]
  refine wC_forV (fun (ds : List D) (σ : Fc.Env) (s' : S) => ∃ (A1 A2 : List Arc) (F : Mt) (ps : List Pr) (t1 t2 t3 t4 t5 t6 : Option D), As = A1 ++ A2 ∧ ds = A2.map aD ∧ σ = [some dM, some dN, some (.ref s.length), t1, t2, t3, t4, t5, t6] ∧ s' = s ++ [.dT (kvO F ps)] ∧ DJ F ps ∧ F = outJ (fun _ _ => 0) A1 Bs) _ ⟨[], As, _, [], none, none, none, none, none, none, rfl, rfl, rfl, rfl, z0, rfl⟩ ?_ ?_
  · rintro d r σ s' ⟨A1, A2, F, ps, t1, t2, t3, t4, t5, t6, ea, ed, rfl, rfl, dj, eF⟩
    cases A2 with
    | nil => cases ed
    | cons a A2 =>
      cases ed
      have ha := hM a (by rw [ea]; simp)
      refine ⟨_, rfl, ?_⟩
      simp
      rw [at2]
      simp [srcOf]
      refine wC_forV (fun (ds : List D) (σ : Fc.Env) (s' : S) => ∃ (B1 B2 : List Arc) (F' : Mt) (ps : List Pr) (t4 t5 t6 : Option D), Bs = B1 ++ B2 ∧ ds = B2.map aD ∧ σ = [some dM, some dN, some (.ref s.length), some (.int a.1), some (.int a.2.1), some (.bl a.2.2), t4, t5, t6] ∧ s' = s ++ [.dT (kvO F' ps)] ∧ DJ F' ps ∧ F' = inJ F a B1) _ ⟨[], Bs, F, ps, t4, t5, t6, rfl, rfl, rfl, rfl, dj, rfl⟩ ?_ ?_
      · rintro d r' σ s' ⟨B1, B2, F', ps', t4, t5, t6, eb, ed, rfl, rfl, dj', eF'⟩
        cases B2 with
        | nil => cases ed
        | cons b B2 =>
          cases ed
          have hb := hN b (by rw [eb]; simp)
          refine ⟨_, rfl, st_join (F := F') (ps := ps') get_new dj'.pl ha.1 hb.2 dj'.bd dj'.out (fun h => ?_) fun h ps2 k => ?_⟩
          · refine ⟨B1 ++ [b], B2, F', ps', _, _, _, by simp [eb], rfl, rfl, rfl, dj', ?_⟩
            rw [eF']
            simp only [inJ, List.foldl_append, List.foldl_cons, List.foldl_nil]
            exact (if_neg h).symm
          · refine ⟨B1 ++ [b], B2, _, ps2, _, _, _, by simp [eb], rfl, rfl, by simp, dj'.put ha.1 hb.2 k, ?_⟩
            rw [eF']
            simp only [inJ, List.foldl_append, List.foldl_cons, List.foldl_nil]
            exact (if_pos h).symm
      · rintro σ s' ⟨B1, B2, F', ps', t4, t5, t6, eb, ed, rfl, rfl, dj', eF'⟩
        cases B2 with
        | cons b B2 => cases ed
        | nil =>
          simp at eb
          subst eb
          refine ⟨A1 ++ [a], A2, by simp [ea], rfl, ?_⟩
          refine ⟨⟨_, _, _, _, _, _, rfl⟩, F', ps', rfl, dj', ?_⟩
          rw [eF', eF]
          simp [outJ]
  · rintro σ s' ⟨A1, A2, F, ps, t1, t2, t3, t4, t5, t6, ea, ed, rfl, rfl, dj, eF⟩
    cases A2 with
    | cons a A2 => cases ed
    | nil =>
      simp at ea
      subst ea
      have g0 : ∀ s', atD s' dM (.int 0) = some (.str b1) := fun s' => by rw [eM]; simp
      have g1 : ∀ s', atD s' dN (.int 1) = some (.str e2) := fun s' => by rw [eN']; simp
      simp
      rw [g0]
      simp
      rw [g1]
      simp
      refine sp_arcs_of get_new dj.pl fun s2 p2 => ?_
      have h := hQ s2 (Pf.app.trans p2)
      rw [← eF] at h
      exact h
theorem eqD_str {s : S} {x y : Str} (h1 : PyData.strOk x = true) (h2 : PyData.strOk y = true) : eqD s (.str x) (.str y) = some (x == y) := by
  rw [eq_of (dat_str) (dat_str) (by simp [SeqAt.shaped, PyData.canLay0, PyData.depth, h1]) (by simp [SeqAt.shaped, PyData.canLay0, PyData.depth, h2])]
  simp [PyData.eqv]
def mulJ (M N : Mt) : Mt := outJ (fun _ _ => 0) (arcsA M) (arcsA N)
end P1
namespace P1
open PySem Fc
def sup : List Nat → Nat
  | [] => 0
  | a :: r => max a (sup r)
theorem sup_app : ∀ l m : List Nat, sup (l ++ m) = max (sup l) (sup m)
  | [], m => by simp [sup]
  | a :: l, m => by
    simp only [List.cons_append, sup, sup_app l m]
    omega
def vl (a b : Arc) (i j : Nat) : Nat := if b.1 = a.2.1 ∧ a.1 = i ∧ b.2.1 = j then 1 + (a.2.2 || b.2.2).toNat else 0
theorem stepJ_at {a b : Arc} {F : Mt} {i j : Nat} : stepJ a b F i j = max (F i j) (vl a b i j) := by
  unfold stepJ vl
  by_cases h : b.1 = a.2.1
  · rw [if_pos h]
    unfold updM
    by_cases h2 : i = a.1 ∧ j = b.2.1
    · obtain ⟨rfl, rfl⟩ := h2
      simp [h]
    · rw [if_neg h2, if_neg (fun z => h2 ⟨z.2.1.symm, z.2.2.symm⟩)]
      omega
  · rw [if_neg h, if_neg (fun z => h z.1)]
    omega
theorem inJ_at {a : Arc} {i j : Nat} : ∀ {Bs : List Arc} {F : Mt}, inJ F a Bs i j = max (F i j) (sup (Bs.map fun b => vl a b i j))
  | [], F => by simp [inJ, sup]
  | b :: Bs, F => by
    have ih := inJ_at (a := a) (i := i) (j := j) (Bs := Bs) (F := stepJ a b F)
    show inJ (stepJ a b F) a Bs i j = _
    rw [ih, stepJ_at]
    simp only [List.map_cons, sup]
    omega
theorem outJ_at {i j : Nat} {Bs : List Arc} : ∀ {As : List Arc} {F : Mt}, outJ F As Bs i j = max (F i j) (sup (As.map fun a => sup (Bs.map fun b => vl a b i j)))
  | [], F => by simp [outJ, sup]
  | a :: As, F => by
    have ih := outJ_at (i := i) (j := j) (Bs := Bs) (As := As) (F := inJ F a Bs)
    show outJ (inJ F a Bs) As Bs i j = _
    rw [ih, inJ_at]
    simp only [List.map_cons, sup]
    omega
def cel (M : Mt) (g : Arc → Nat) (i k : Nat) : Nat := if 0 < M i k then g (i, k, M i k == 2) else 0
theorem sup_cell {M : Mt} {g : Arc → Nat} {i k : Nat} : sup ((cellA M i k).map g) = cel M g i k := by
  unfold cellA cel
  split <;> simp [sup]
theorem sup_row {M : Mt} {g : Arc → Nat} {i : Nat} : sup ((rowA M i).map g) = max (cel M g i 0) (max (cel M g i 1) (cel M g i 2)) := by
  simp only [rowA, List.flatMap_cons, List.flatMap_nil, List.append_nil, List.map_append, sup_app, sup_cell]
theorem sup_arcs {M : Mt} {g : Arc → Nat} : sup ((arcsA M).map g) = max (max (cel M g 0 0) (max (cel M g 0 1) (cel M g 0 2))) (max (max (cel M g 1 0) (max (cel M g 1 1) (cel M g 1 2))) (max (cel M g 2 0) (max (cel M g 2 1) (cel M g 2 2)))) := by
  simp only [arcsA, List.flatMap_cons, List.flatMap_nil, List.append_nil, List.map_append, sup_app, sup_row]
def tm (x y : Nat) : Nat := if 0 < x ∧ 0 < y then max x y else 0
def mulM (M N : Mt) : Mt := fun i j => if i < 3 ∧ j < 3 then max (tm (M i 0) (N 0 j)) (max (tm (M i 1) (N 1 j)) (tm (M i 2) (N 2 j))) else 0
theorem vl_tm {x y : Nat} (hx : x ≤ 2) (hy : y ≤ 2) : (if 0 < x then (if 0 < y then 1 + ((x == 2) || (y == 2)).toNat else 0) else 0) = tm x y := by
  match x, y, hx, hy with
  | 0, _, _, _ => simp [tm]
  | 1, 0, _, _ => rfl
  | 1, 1, _, _ => rfl
  | 1, 2, _, _ => rfl
  | 2, 0, _, _ => rfl
  | 2, 1, _, _ => rfl
  | 2, 2, _, _ => rfl
theorem mulJ_eq {M N : Mt} (hM : Bd2 M) (hN : Bd2 N) : mulJ M N = mulM M N := by
  funext i j
  unfold mulJ
  rw [outJ_at, sup_arcs]
  simp only [sup_arcs]
  have t : ∀ k, (if 0 < M i k then (if 0 < N k j then 1 + ((M i k == 2) || (N k j == 2)).toNat else 0) else 0) = tm (M i k) (N k j) := fun k => vl_tm (hM i k) (hN k j)
  unfold mulM
  have hi : i = 0 ∨ i = 1 ∨ i = 2 ∨ ¬ i < 3 := by omega
  have hj : j = 0 ∨ j = 1 ∨ j = 2 ∨ ¬ j < 3 := by omega
  have t0 := t 0
  have t1 := t 1
  have t2 := t 2
  rcases hi with rfl | rfl | rfl | hi <;> rcases hj with rfl | rfl | rfl | hj
  all_goals first
    | (rw [if_pos (by omega), ← t0, ← t1, ← t2]; simp [cel, vl]; done)
    | (rw [if_neg (by omega)]
       have a0 : ¬ 0 = j := by omega
       have a1 : ¬ 1 = j := by omega
       have a2 : ¬ 2 = j := by omega
       simp [cel, vl, a0, a1, a2]; done)
    | (rw [if_neg (by omega)]
       have a0 : ¬ 0 = i := by omega
       have a1 : ¬ 1 = i := by omega
       have a2 : ¬ 2 = i := by omega
       simp [cel, vl, a0, a1, a2]; done)
end P1
namespace P1
open PySem Fc
theorem tm_bd {x y n : Nat} (h1 : x ≤ n) (h2 : y ≤ n) : tm x y ≤ n := by
  unfold tm
  split <;> omega
theorem mul_at {M N : Mt} {i j : Nat} (hi : i < 3) (hj : j < 3) : mulM M N i j = max (tm (M i 0) (N 0 j)) (max (tm (M i 1) (N 1 j)) (tm (M i 2) (N 2 j))) := if_pos ⟨hi, hj⟩
theorem mul_out {M N : Mt} {i j : Nat} (h : ¬ (i < 3 ∧ j < 3)) : mulM M N i j = 0 := if_neg h
theorem mul_bd {M N : Mt} (hM : Bd2 M) (hN : Bd2 N) : Bd2 (mulM M N) := by
  intro i j
  by_cases h : i < 3 ∧ j < 3
  · rw [mul_at h.1 h.2]
    have := tm_bd (hM i 0) (hN 0 j)
    have := tm_bd (hM i 1) (hN 1 j)
    have := tm_bd (hM i 2) (hN 2 j)
    omega
  · rw [mul_out h]; omega
/-- pw M n: M by itself n + 1 times -/
def pw (M : Mt) : Nat → Mt
  | 0 => M
  | n + 1 => mulM (pw M n) M
end P1
namespace P1
open PySem Fc
def dg (M : Mt) : Bool := M 0 0 == 2 || M 1 1 == 2 || M 2 2 == 2
def hf (M : Mt) : Bool := dg M || (dg (pw M 1) || dg (pw M 2))
end P1
namespace P1
open PySem Fc
end P1
namespace P1
open PySem Fc
namespace K23
def b_law_more : C :=
 (cSeq (cSet (eCall d_law_grid [] (lCons (e2 oAt (eVar 1) (eC (.int 2))) lNil)) (gName 2))
 (cSeq (cFor (iRange (eC (.int 0)) (e2 oAdd (eC (.int 1)) (eCall d_law_random [] (lCons (eVar 0) (lCons (eC (.int 4)) lNil))))) (gName 3)
 (cSeq (cPar 4 5 (lCons (eCall d_law_random [] (lCons (eVar 0) (lCons (eC (.int 3)) lNil))) (lCons (eCall d_law_random [] (lCons (eVar 0) (lCons (eC (.int 3)) lNil))) lNil)))
 (cSub (e2 oAt (eVar 2) (eVar 4)) (eVar 5) (eN fMax (lCons (eN fInt (lCons (e2 oAt (e2 oAt (eVar 2) (eVar 4)) (eVar 5)) lNil)) (lCons (e2 oAdd (eC (.int 1)) (eCall d_law_random [] (lCons (eVar 0) (lCons (eC (.int 2)) lNil)))) lNil))))))
 (cRet (eN mTup (lCons (e2 oAt (eVar 1) (eC (.int 0))) (lCons (e2 oAt (eVar 1) (eC (.int 1))) (lCons (eCall d_law_listed [] (lCons (eVar 2) lNil)) lNil)))))))
def d_law_more : F := defF 2 6 b_law_more
def b_law_at_least : C :=
 (cSeq (cSet (eN mTup (lCons (eCall d_law_grid [] (lCons (e2 oAt (eVar 0) (eC (.int 2))) lNil)) (lCons (eCall d_law_grid [] (lCons (e2 oAt (eVar 1) (eC (.int 2))) lNil)) lNil))) (gTup 2 (gCons (gName 2) (gCons (gName 3) gNil))))
 (cSeq (cFor (iRange (eC (.int 0)) (eC (.int 3))) (gName 4)
 (cIf (tB (e2 oNe (eLc [5] (iRange (eC (.int 0)) (eC (.int 3))) (gName 5) (tB (e2 oLt (e2 oAt (e2 oAt (eVar 2) (eVar 4)) (eVar 5)) (e2 oAt (e2 oAt (eVar 3) (eVar 4)) (eVar 5)))) (eVar 5)) (eN mLst lNil)))
 (cRet (eC (.bl false)))
 cNil))
 (cRet (eC (.bl true)))))
def d_law_at_least : F := defF 2 6 b_law_at_least
end K23
open K23
end P1
namespace P1
open PySem Fc
namespace K23
noncomputable section
def b_law_around_right : C :=
 (cSeq (cPar 3 4 (lCons (eCall d_product [] (lCons (eVar 1) (lCons (eVar 2) lNil))) (lCons (eCall d_product [] (lCons (eVar 2) (lCons (eVar 1) lNil))) lNil)))
 (cSeq (cIf (tB (e2 oNe (eCall d_has_fall [] (lCons (eVar 3) lNil)) (eCall d_has_fall [] (lCons (eVar 4) lNil))))
 (cRet (eC (.bl false)))
 cNil)
 (cSeq (cPar 5 6 (lCons (e2 oAdd (eC (.int 1)) (eCall d_law_random [] (lCons (eVar 0) (lCons (e2 oPow (eC (.int 10)) (eC (.int 14))) lNil)))) (lCons (e2 oAdd (eC (.int 1)) (eCall d_law_random [] (lCons (eVar 0) (lCons (e2 oPow (eC (.int 10)) (eC (.int 14))) lNil)))) lNil)))
 (cSeq (cIf (tB (e2 oNe (eCall d_product [] (lCons (eCall d_power [] (lCons (eVar 3) (lCons (eVar 5) lNil))) (lCons (eCall d_power [] (lCons (eVar 3) (lCons (eVar 6) lNil))) lNil))) (eCall d_power [] (lCons (eVar 3) (lCons (e2 oAdd (eVar 5) (eVar 6)) lNil)))))
 (cRet (eC (.bl false)))
 cNil)
 (cSeq (cIf (tOr (tB (e2 oNe (eCall d_power [] (lCons (eCall d_power [] (lCons (eVar 3) (lCons (eVar 5) lNil))) (lCons (eVar 6) lNil))) (eCall d_power [] (lCons (eVar 3) (lCons (e2 oMul (eVar 5) (eVar 6)) lNil))))) (tB (e2 oNe (eCall d_has_fall [] (lCons (eCall d_power [] (lCons (eVar 3) (lCons (eVar 5) lNil))) lNil)) (eCall d_has_fall [] (lCons (eVar 3) lNil)))))
 (cRet (eC (.bl false)))
 cNil)
 (cRet (e2 oEq (eCall d_product [] (lCons (eCall d_product [] (lCons (eCall d_power [] (lCons (eVar 3) (lCons (eVar 5) lNil))) (lCons (eVar 1) lNil))) (lCons (eVar 2) lNil))) (eCall d_power [] (lCons (eVar 3) (lCons (e2 oAdd (eVar 5) (eC (.int 1))) lNil))))))))))
def d_law_around_right : F := defF 3 7 b_law_around_right
def b_law : C :=
 (cSeq (cSet (eN mTup (lCons (eN mTup (lCons (eC (.int 0)) (lCons (eC (.int 0)) (lCons (eC (.bl false)) lNil)))) (lCons (eN mTup (lCons (eC (.int 1)) (lCons (eC (.int 1)) (lCons (eC (.bl false)) lNil)))) (lCons (eN mTup (lCons (eC (.int 2)) (lCons (eC (.int 2)) (lCons (eC (.bl false)) lNil)))) lNil)))) (gName 1))
 (cSeq (cFor (iRange (eC (.int 0)) (eC (.int 4))) (gName 2)
 (cSeq (cSet (eCall d_law_generator [] (lCons (eVar 0) (lCons (eVar 2) lNil))) (gName 3))
 (cSeq (cPar 4 5 (lCons (eCall d_law_table [] (lCons (eVar 3) (lCons (eC (.str "f")) (lCons (eC (.str "g")) lNil)))) (lCons (eCall d_law_table [] (lCons (eVar 3) (lCons (eC (.str "g")) (lCons (eC (.str "f")) lNil)))) lNil)))
 (cSeq (cSet (eCall d_law_table [] (lCons (eVar 3) (lCons (eC (.str "f")) (lCons (eC (.str "zz")) lNil)))) (gName 6))
 (cSeq (cIf (tB (e2 oNe (eCall d_product [] (lCons (eCall d_product [] (lCons (eVar 4) (lCons (eVar 5) lNil))) (lCons (eVar 6) lNil))) (eCall d_product [] (lCons (eVar 4) (lCons (eCall d_product [] (lCons (eVar 5) (lCons (eVar 6) lNil))) lNil)))))
 (cRet (eC (.bl false)))
 cNil)
 (cSeq (cIf (tOr (tB (e2 oNe (eCall d_product [] (lCons (eN mTup (lCons (eC (.str "f")) (lCons (eC (.str "f")) (lCons (eVar 1) lNil)))) (lCons (eVar 4) lNil))) (eVar 4))) (tB (e2 oNe (eCall d_product [] (lCons (eVar 4) (lCons (eN mTup (lCons (eC (.str "g")) (lCons (eC (.str "g")) (lCons (eVar 1) lNil)))) lNil))) (eVar 4))))
 (cRet (eC (.bl false)))
 cNil)
 (cSeq (cPar 7 8 (lCons (eCall d_law_more [] (lCons (eVar 3) (lCons (eVar 4) lNil))) (lCons (eCall d_law_more [] (lCons (eVar 3) (lCons (eVar 5) lNil))) lNil)))
 (cSeq (cIf (tNot (tE (eCall d_law_at_least [] (lCons (eCall d_product [] (lCons (eVar 7) (lCons (eVar 8) lNil))) (lCons (eCall d_product [] (lCons (eVar 4) (lCons (eVar 5) lNil))) lNil)))))
 (cRet (eC (.bl false)))
 cNil)
 (cSeq (cIf (tAnd (tE (eCall d_has_fall [] (lCons (eCall d_product [] (lCons (eVar 4) (lCons (eVar 5) lNil))) lNil))) (tNot (tE (eCall d_has_fall [] (lCons (eCall d_product [] (lCons (eVar 7) (lCons (eVar 8) lNil))) lNil)))))
 (cRet (eC (.bl false)))
 cNil)
 (cIf (tOr (tNot (tE (eCall d_law_around_right [] (lCons (eVar 3) (lCons (eVar 4) (lCons (eVar 5) lNil)))))) (tNot (tE (eCall d_law_around_right [] (lCons (eVar 3) (lCons (eVar 5) (lCons (eVar 4) lNil)))))))
 (cRet (eC (.bl false)))
 cNil))))))))))
 (cRet (eC (.bl true)))))
def d_law : F := defF 1 9 b_law
end
end K23
open K23
end P1
namespace Fc
open PySem
section
variable {s : S} {σ : Env} {X : Xc} {Q : D → S → Prop}
def fldD (s : S) (x : D) (f : Str) : Option D := match x with
  | .ref n => match s[n]? with
    | some (.ins _ fs) => fs.lookup f
    | some (.err _ fs) => fs.lookup f
    | _ => none
  | _ => none
@[simp ↓] theorem v_fld {f : Str} {x : D} : wE (oFld f x s) Q X ↔ onO (fldD s x f) fun d => Q d s := by
  with_unfolding_all
    unfold oFld fldD
    cases x with
    | ref n =>
      dsimp only
      cases h : s[n]? with
      | none => simp
      | some o =>
        cases o with
        | ins c fs => dsimp only; cases fs.lookup f <;> simp
        | err c fs => dsimp only; cases fs.lookup f <;> simp
        | _ => simp
    | _ => simp
theorem fld_at {n : Nat} {c f : Str} {fs : List (Str × D)} (h : s[n]? = some (.ins c fs)) : fldD s (.ref n) f = fs.lookup f := by
  simp [fldD, h]
def setF (s : S) (x : D) (f : Str) (v : D) : Option S := match x with
  | .ref n => match s[n]? with
    | some (.ins c fs) => if fs.length < 900 then some (s.set n (.ins c (fput f v fs))) else none
    | _ => none
  | _ => none
@[simp ↓] theorem k_fld {f : Str} {o e : E} {P : Pst} : wC (cFld f o e σ s) P ↔ wE (e σ s) (fun v s1 => wE (o σ s1) (fun x s2 => onO (setF s2 x f v) fun s3 => P.nx σ s3) P.xc) P.xc := by
  with_unfolding_all
    show wC (ex σ (e σ s) _) P ↔ _
    rw [wC_ex]
    have key : ∀ (v x : D) (s2 : S), wC (match x with
        | .ref n => match s2[n]? with
          | some (.ins c fs) => if fs.length < 900 then some (R.nx σ (s2.set n (.ins c (fput f v fs)))) else none
          | _ => none
        | _ => none) P ↔ onO (setF s2 x f v) fun s3 => P.nx σ s3 := by
      intro v x s2
      unfold setF
      cases x with
      | ref n =>
        dsimp only
        cases h : s2[n]? with
        | none => simp
        | some o =>
          cases o with
          | ins c fs =>
            dsimp only
            by_cases z : fs.length < 900 <;> simp [z]
          | _ => simp
      | _ => simp
    constructor
    · intro h
      exact wE_mono h fun v s1 h => wE_mono (wC_ex.mp h) fun x s2 h => (key v x s2).mp h
    · intro h
      exact wE_mono h fun v s1 h => wC_ex.mpr (wE_mono h fun x s2 h => (key v x s2).mpr h)
def onN (d : D) (k : Prop) : Prop := match d with
  | .non => k
  | _ => False
@[simp] theorem onN_non {k : Prop} : onN .non k ↔ k := Iff.rfl
theorem made_iff {m : Option (Res D)} {r : D} : wE (match m with
    | some (.ok .non s') => some (.ok r s')
    | some (.exc x fs s') => some (.exc x fs s')
    | _ => none) Q X ↔ wE m (fun d s' => onN d (Q r s')) X := by
  with_unfolding_all
    cases m with
    | none => simp
    | some q =>
      cases q with
      | exc c fs s' => simp
      | ok d s' => cases d <;> simp [onN]
@[simp ↓] theorem v_make {c : Str} {init : F} {dfl : List D} {es : EL} : wE (eMake c init dfl es σ s) Q X ↔ wE (es σ s) (fun ds s1 => wE (init (.ref s1.length :: (ds ++ dfl)) (s1 ++ [.ins c []])) (fun d s' => onN d (Q (.ref s1.length) s')) X) X := by
  with_unfolding_all
    show wE (bnd (es σ) _ s) Q X ↔ _
    rw [w_bnd]
    constructor
    · intro h; exact wE_mono h fun ds s1 h => made_iff.mp h
    · intro h; exact wE_mono h fun ds s1 h => made_iff.mpr h
@[simp ↓] theorem v_makeK {c : Str} {init : F} {n : Nat} {ix : List Nat} {ks : EL} : wE (eMakeK c init n ix ks σ s) Q X ↔ wE (ks σ s) (fun ys s1 => onT (ys.length == n) (wE (init (permD ix (.ref s1.length :: ys)) (s1 ++ [.ins c []])) (fun d s' => onN d (Q (.ref s1.length) s')) X) False) X := by
  with_unfolding_all
    show wE (bnd (ks σ) _ s) Q X ↔ _
    rw [w_bnd]
    have key : ∀ (ys : List D) (s1 : S), wE (if ys.length = n then match init (permD ix (.ref s1.length :: ys)) (s1 ++ [.ins c []]) with
        | some (.ok .non s') => some (.ok (.ref s1.length) s')
        | some (.exc x fs s') => some (.exc x fs s')
        | _ => none else none) Q X ↔ onT (ys.length == n) (wE (init (permD ix (.ref s1.length :: ys)) (s1 ++ [.ins c []])) (fun d s' => onN d (Q (.ref s1.length) s')) X) False := by
      intro ys s1
      by_cases h : ys.length = n
      · simp only [h, if_true, beq_self_eq_true, onT_t]
        exact made_iff
      · simp [h, beq_eq_false_iff_ne.mpr h]
    constructor
    · intro h; exact wE_mono h fun ds s1 h => (key ds s1).mp h
    · intro h; exact wE_mono h fun ds s1 h => (key ds s1).mpr h
@[simp ↓] theorem v_kw {f : F} {n m : Nat} {ix : List Nat} {es ks : EL} : wE (eKw f n m ix es ks σ s) Q X ↔ wE (es σ s) (fun xs s1 => wE (ks σ s1) (fun ys s2 => onT (xs.length == n && ys.length == m) (wE (f (permD ix (xs ++ ys)) s2) Q X) False) X) X := by
  with_unfolding_all
    show wE (bnd (es σ) _ s) Q X ↔ _
    rw [w_bnd]
    have key : ∀ (xs ys : List D) (s2 : S), wE (if xs.length = n ∧ ys.length = m then f (permD ix (xs ++ ys)) s2 else none) Q X ↔ onT (xs.length == n && ys.length == m) (wE (f (permD ix (xs ++ ys)) s2) Q X) False := by
      intro xs ys s2
      by_cases h : xs.length = n ∧ ys.length = m
      · have e : (xs.length == n && ys.length == m) = true := by simp [h]
        rw [if_pos h, e]; exact onT_t.symm
      · have e : (xs.length == n && ys.length == m) = false := by
          cases hh : (xs.length == n && ys.length == m) with
          | false => rfl
          | true => simp at hh; exact absurd hh h
        rw [if_neg h, e]; exact onT_f.symm
    constructor
    · intro h; exact wE_mono h fun xs s1 h => wE_mono (w_bnd.mp h) fun ys s2 h => (key xs ys s2).mp h
    · intro h; exact wE_mono h fun xs s1 h => w_bnd.mpr (wE_mono h fun ys s2 h => (key xs ys s2).mpr h)
/-- x is of the class c, and none of its own fields is called m -/
def insM (s : S) (x : D) (c m : Str) : Bool := match x with
  | .ref n => match s[n]? with
    | some (.ins c' fs) => decide (c' = c) && (fs.lookup m).isNone
    | _ => false
  | _ => false
@[simp ↓] theorem v_meth {c m : Str} {f : F} {dfl : List D} {o : E} {es : EL} : wE (eMeth c m f dfl o es σ s) Q X ↔ wE (o σ s) (fun x s1 => onT (insM s1 x c m) (wE (es σ s1) (fun ds s2 => wE (f (x :: (ds ++ dfl)) s2) Q X) X) False) X := by
  with_unfolding_all
    show wE (bnd (o σ) _ s) Q X ↔ _
    rw [w_bnd]
    have key : ∀ (x : D) (s1 : S), wE (match x with
        | .ref n => match s1[n]? with
          | some (.ins c' fs) => if c' = c ∧ fs.lookup m = none then bnd (es σ) (fun ds => f (x :: (ds ++ dfl))) s1 else none
          | _ => none
        | _ => none) Q X ↔ onT (insM s1 x c m) (wE (es σ s1) (fun ds s2 => wE (f (x :: (ds ++ dfl)) s2) Q X) X) False := by
      intro x s1
      unfold insM
      cases x with
      | ref n =>
        dsimp only
        cases h : s1[n]? with
        | none => simp
        | some o =>
          cases o with
          | ins c' fs =>
            dsimp only
            by_cases z : c' = c
            · by_cases z2 : fs.lookup m = none
              · simp only [z, z2, and_self, if_true, decide_true, Option.isNone_none, Bool.and_self, onT_t]
                exact w_bnd
              · have z3 : (List.lookup m fs).isNone = false := by cases hh : List.lookup m fs with
                  | none => exact absurd hh z2
                  | some _ => rfl
                simp [z, z2, z3]
            · simp [z]
          | _ => simp
      | _ => simp
    constructor
    · intro h; exact wE_mono h fun x s1 h => (key x s1).mp h
    · intro h; exact wE_mono h fun x s1 h => (key x s1).mpr h
@[simp ↓] theorem v_methK {c m : Str} {f : F} {n : Nat} {ix : List Nat} {o : E} {ks : EL} : wE (eMethK c m f n ix o ks σ s) Q X ↔ wE (o σ s) (fun x s1 => onT (insM s1 x c m) (wE (ks σ s1) (fun ys s2 => onT (ys.length == n) (wE (f (permD ix (x :: ys)) s2) Q X) False) X) False) X := by
  with_unfolding_all
    show wE (bnd (o σ) _ s) Q X ↔ _
    rw [w_bnd]
    have key2 : ∀ (x : D) (ys : List D) (s2 : S), wE (if ys.length = n then f (permD ix (x :: ys)) s2 else none) Q X ↔ onT (ys.length == n) (wE (f (permD ix (x :: ys)) s2) Q X) False := by
      intro x ys s2
      by_cases h : ys.length = n
      · simp [h]
      · simp [h, beq_eq_false_iff_ne.mpr h]
    have key : ∀ (x : D) (s1 : S), wE (match x with
        | .ref a => match s1[a]? with
          | some (.ins c' fs) => if c' = c ∧ fs.lookup m = none then bnd (ks σ) (fun ys => fun s => if ys.length = n then f (permD ix (x :: ys)) s else none) s1 else none
          | _ => none
        | _ => none) Q X ↔ onT (insM s1 x c m) (wE (ks σ s1) (fun ys s2 => onT (ys.length == n) (wE (f (permD ix (x :: ys)) s2) Q X) False) X) False := by
      intro x s1
      unfold insM
      cases x with
      | ref a =>
        dsimp only
        cases h : s1[a]? with
        | none => simp
        | some o =>
          cases o with
          | ins c' fs =>
            dsimp only
            by_cases z : c' = c
            · by_cases z2 : fs.lookup m = none
              · simp only [z, z2, and_self, if_true, decide_true, Option.isNone_none, Bool.and_self, onT_t]
                rw [w_bnd]
                constructor
                · intro h; exact wE_mono h fun ys s2 h => (key2 _ ys s2).mp h
                · intro h; exact wE_mono h fun ys s2 h => (key2 _ ys s2).mpr h
              · have z3 : (List.lookup m fs).isNone = false := by cases hh : List.lookup m fs with
                  | none => exact absurd hh z2
                  | some _ => rfl
                simp [z, z2, z3]
            · simp [z]
          | _ => simp
      | _ => simp
    constructor
    · intro h; exact wE_mono h fun x s1 h => (key x s1).mp h
    · intro h; exact wE_mono h fun x s1 h => (key x s1).mpr h
def isI (s : S) (x : D) (sub : List Str) : Option Bool := match x with
  | .ref n => match s[n]? with
    | some (.ins c _) => some (sub.contains c)
    | some (.lst _) => some false
    | some (.dK _) => some false
    | some (.dT _) => some false
    | _ => none
  | .rol _ => none
  | _ => some false
@[simp ↓] theorem v_isI {sub : List Str} {x : D} : wE (oIsI sub x s) Q X ↔ onO (isI s x sub) fun b => Q (.bl b) s := by
  with_unfolding_all
    unfold oIsI isI
    cases x with
    | ref n =>
      dsimp only
      cases h : s[n]? with
      | none => simp
      | some o => cases o <;> simp
    | _ => simp
/-- x, y are of the class c -/
def two (s : S) (x y : D) (c : Str) : Bool := match x, y with
  | .ref m, .ref n => match s[m]?, s[n]? with
    | some (.ins c1 _), some (.ins c2 _) => decide (c1 = c ∧ c2 = c)
    | _, _ => false
  | _, _ => false
def itemsAt (s : S) (x : D) : Option (List D) := match x with
  | .ref n => match s[n]? with
    | some (.dK kvs) => some (kvs.map pairD)
    | _ => none
  | _ => none
@[simp ↓] theorem v_listIt {x : D} : wE (fListIt x s) Q X ↔ onO (itemsAt s x) fun ds => Q (.ref s.length) (s ++ [.lst ds]) := by
  with_unfolding_all
    unfold fListIt itemsAt
    cases x with
    | ref n =>
      dsimp only
      cases h : s[n]? with
      | none => simp
      | some o => cases o <;> simp
    | _ => simp
@[simp ↓] theorem v_list_t {ds : List D} : wE (fList [.tup ds] s) Q X ↔ Q (.ref s.length) (s ++ [.lst ds]) := by
  with_unfolding_all
    exact Iff.rfl
/-- [x] * k -/
theorem v_rep {n : Nat} {d : D} {k : Nat} (h : s[n]? = some (.lst [d])) (hk : k < 1000000) : wE (oMul (.ref n) (.int k) s) Q X ↔ Q (.ref s.length) (s ++ [.lst (List.replicate k d)]) := by
  with_unfolding_all
    have e : (List.replicate k [d]).flatten = List.replicate k d := by
      induction k with
      | zero => rfl
      | succ k ih => rw [List.replicate_succ, List.flatten_cons, ih (by omega)]; rfl
    unfold oMul
    dsimp only
    rw [h]
    dsimp only
    rw [if_pos (by simp [sz]; omega)]
    simp [e]
def itT (s : S) (x : D) : Option SK := match x with
  | .ref n => match s[n]? with
    | some (.dT kvs) => some (.dict n (kvs.map pairT))
    | some (.lck (.dT kvs)) => some (.dict n (kvs.map pairT))
    | _ => none
  | _ => none
@[simp ↓] theorem v_itT {e : E} {Q : SK → S → Prop} : wE (iItT e σ s) Q X ↔ wE (e σ s) (fun x s1 => onO (itT s1 x) fun sk => Q sk s1) X := by
  with_unfolding_all
    show wE (bnd (e σ) _ s) Q X ↔ _
    rw [w_bnd]
    have key : ∀ (x : D) (s1 : S), wE (match x with
        | .ref n => match s1[n]? with
          | some (.dT kvs) => some (Res.ok (SK.dict n (kvs.map pairT)) s1)
          | some (.lck (.dT kvs)) => some (.ok (.dict n (kvs.map pairT)) s1)
          | _ => none
        | _ => none) Q X ↔ onO (itT s1 x) fun sk => Q sk s1 := by
      intro x s1
      unfold itT
      cases x with
      | ref n =>
        dsimp only
        cases h : s1[n]? with
        | none => simp
        | some o =>
          cases o with
          | lck o' => cases o' <;> simp
          | _ => simp
      | _ => simp
    constructor
    · intro h; exact wE_mono h fun x s1 h => (key x s1).mp h
    · intro h; exact wE_mono h fun x s1 h => (key x s1).mpr h
end
end Fc
namespace Fc
open PySem
section
variable {s : S} {σ : Env} {X : Xc} {Q : D → S → Prop}
@[simp ↓] theorem k_raise {c f : Str} {e : E} {P : Pst} : wC (cRaise c f e σ s) P ↔ wE (e σ s) (fun v s' => P.xc c [(f, v)] s') P.xc := by
  with_unfolding_all
    exact wC_ex
/-- try: e except ..: the error kept -/
@[simp ↓] theorem k_tryE {sub : List Str} {i j : Nat} {e : E} {P : Pst} : wC (cTryE sub i j (cExpr e) σ s) P ↔ wE (e σ s) (fun _ s' => P.nx σ s') (fun c fs s' => onT (sub.contains c) (P.nx (((σ.set i (some (.ref s'.length))).set j (some (.ref s'.length))).set i none) (s' ++ [.err c fs])) (P.xc c fs s')) := by
  with_unfolding_all
    unfold cTryE cExpr ex
    cases h : e σ s with
    | none => rfl
    | some r =>
      cases r with
      | ok d s' => rfl
      | exc c fs s' =>
        dsimp only
        cases hc : sub.contains c with
        | true =>
          rw [if_pos rfl, w_exc, hc, onT_t]
          exact Iff.rfl
        | false =>
          rw [if_neg (by simp), w_exc, hc, onT_f]
          exact Iff.rfl
def isJ (s : S) (x : D) (sub : List Str) : Option Bool := match x with
  | .ref n => match s[n]? with
    | some (.ins c _) => some (sub.contains c)
    | some (.err c _) => some (sub.contains c)
    | some (.lst _) => some false
    | some (.dK _) => some false
    | some (.dT _) => some false
    | _ => none
  | .rol _ => none
  | _ => some false
@[simp ↓] theorem v_isJ {sub : List Str} {x : D} : wE (oIsJ sub x s) Q X ↔ onO (isJ s x sub) fun b => Q (.bl b) s := by
  with_unfolding_all
    unfold oIsJ isJ
    cases x with
    | ref n =>
      dsimp only
      cases h : s[n]? with
      | none => simp
      | some o => cases o <;> simp
    | _ => simp
theorem isJ_err {n : Nat} {c : Str} {sub : List Str} {fs : List (Str × D)} (h : s[n]? = some (.err c fs)) : isJ s (.ref n) sub = some (sub.contains c) := by
  simp [isJ, h]
theorem fld_err {n : Nat} {c f : Str} {fs : List (Str × D)} (h : s[n]? = some (.err c fs)) : fldD s (.ref n) f = fs.lookup f := by
  simp [fldD, h]
@[simp ↓] theorem v_err {c n : Str} {a : E} : wE (eErr c n a σ s) Q X ↔ wE (a σ s) (fun v s1 => Q (.ref s1.length) (s1 ++ [.err c [(n, v)]])) X := by
  with_unfolding_all
    exact w_bnd
@[simp ↓] theorem o_reprR {d : D} : wE (fReprR [d] s) Q X ↔ onO (datR s 60 d) fun x => onT (x.showable && sz x.shown.length) (Q (.str x.shown) s) False := by
  with_unfolding_all
    unfold fReprR
    dsimp only
    cases h : datR s 60 d with
    | none => simp [h]
    | some x =>
      cases hc : (x.showable && sz x.shown.length) <;> simp [h, hc]
@[simp ↓] theorem o_dictP {n : Nat} : wE (fDictP [.ref n] s) Q X ↔ onO (lstAt s n) fun ds => onO (pairsD ds) fun kvs => Q (.ref s.length) (s ++ [.dK (mergeD [] kvs)]) := by
  with_unfolding_all
    unfold fDictP
    dsimp only
    cases h : lstAt s n with
    | none => simp [h]
    | some ds =>
      dsimp only
      cases h2 : pairsD ds with
      | none => simp [h2]
      | some kvs => simp [h2]
@[simp ↓] theorem o_eqS {a b : Str} : wE (oEqS (.str a) (.str b) s) Q X ↔ Q (.bl (decide (a = b))) s := by
  with_unfolding_all
    exact Iff.rfl
@[simp ↓] theorem o_neS {a b : Str} : wE (oNeS (.str a) (.str b) s) Q X ↔ Q (.bl (!decide (a = b))) s := by
  with_unfolding_all
    exact Iff.rfl
end
end Fc
namespace Fc
open PySem
section
variable {s : S} {σ : Env} {X : Xc} {Q : D → S → Prop}
@[simp ↓] theorem v_atN {x y : D} : wE (oAtN x y s) Q X ↔ onD (ndGet s x y) fun d => Q d s := by
  with_unfolding_all
    unfold oAtN
    rw [v_pur2]
    cases h : ndGet s x y with
    | none => simp [h, onD]
    | some o => cases o <;> simp [h, onD]
@[simp ↓] theorem v_inN {x y : D} : wE (oInN y x s) Q X ↔ onO (ndGet s x y) fun o => Q (.bl o.isSome) s := by
  with_unfolding_all
    unfold oInN
    rw [v_pur2]
    cases h : ndGet s x y <;> simp [h]
@[simp ↓] theorem v_notInN {x y : D} : wE (oNotInN y x s) Q X ↔ onO (ndGet s x y) fun o => Q (.bl (!o.isSome)) s := by
  with_unfolding_all
    unfold oNotInN
    rw [v_pur2]
    cases h : ndGet s x y <;> simp [h]
@[simp ↓] theorem v_mDN : wE (mDN s) Q X ↔ Q (.ref s.length) (s ++ [.dN []]) := by
  with_unfolding_all
    exact v_new
@[simp ↓] theorem v_lenN {n : Nat} : wE (fLenN [.ref n] s) Q X ↔ onO (ndAt s n) fun kvs => Q (.int kvs.length) s := by
  with_unfolding_all
    unfold fLenN
    dsimp only
    cases h : ndAt s n <;> simp [h]
def putN (s : S) (x y v : D) : Option S := match x with
  | .ref n => match s[n]? with
    | some (.dN kvs) => if kvs.length < 16777216 then (nkT y).map fun k => s.set n (.dN (kputN kvs k y v)) else none
    | _ => none
  | _ => none
@[simp ↓] theorem k_subN {o i e : E} {P : Pst} : wC (cSubN o i e σ s) P ↔ wE (e σ s) (fun v s1 => wE (o σ s1) (fun x s2 => wE (i σ s2) (fun y s3 => onO (putN s3 x y v) fun s4 => P.nx σ s4) P.xc) P.xc) P.xc := by
  with_unfolding_all
    unfold cSubN
    rw [wC_ex]
    have key : ∀ (v x y : D) (s3 : S), wC (match x with
      | .ref n => match s3[n]? with
        | some (.dN kvs) => if kvs.length < 16777216 then (nkT y).map fun k => R.nx σ (s3.set n (.dN (kputN kvs k y v))) else none
        | _ => none
      | _ => none) P ↔ onO (putN s3 x y v) fun s4 => P.nx σ s4 := by
      intro v x y s3
      unfold putN
      cases x with
      | ref n =>
        dsimp only
        cases hn : s3[n]? with
        | none => simp
        | some ob =>
          cases ob with
          | dN kvs =>
            dsimp only
            by_cases hl : kvs.length < 16777216
            · rw [if_pos hl, if_pos hl]
              cases nkT y <;> simp
            · rw [if_neg hl, if_neg hl]
              simp
          | _ => simp
      | _ => simp
    constructor
    · intro h
      refine wE_mono h fun v s1 h => ?_
      rw [wC_ex] at h
      refine wE_mono h fun x s2 h => ?_
      rw [wC_ex] at h
      exact wE_mono h fun y s3 h => (key v x y s3).mp h
    · intro h
      refine wE_mono h fun v s1 h => ?_
      rw [wC_ex]
      refine wE_mono h fun x s2 h => ?_
      rw [wC_ex]
      exact wE_mono h fun y s3 h => (key v x y s3).mpr h
@[simp ↓] theorem v_sum {n : Nat} : wE (fSum [.ref n] s) Q X ↔ onO (lstAt s n) fun ds => onO (intsD ds) fun ns => Q (.int ns.sum) s := by
  with_unfolding_all
    unfold fSum
    dsimp only
    cases h : lstAt s n with
    | none => simp
    | some ds =>
      dsimp only
      cases h2 : intsD ds <;> simp [h2]
@[simp ↓] theorem v_strI {i : Int} : wE (fStr [.int i] s) Q X ↔ onT (decide (i.natAbs.log2 < 1920)) (Q (.str (toString i : String)) s) False := by
  with_unfolding_all
    unfold fStr
    dsimp only
    by_cases h : i.natAbs.log2 < 1920
    · simp [h]
    · simp [h]
@[simp ↓] theorem v_strS {x : Str} : wE (fStr [.str x] s) Q X ↔ Q (.str x) s := by
  with_unfolding_all
    exact Iff.rfl
/-- the parts that are joined -/
def joinD (s : S) (sep : Str) (y : D) : Option Str := match y with
  | .ref n => match lstAt s n with
    | some ds => match strsD ds with
      | some ys => if (ys.map (·.length)).sum + ys.length * sep.length ≤ 16777216 then some (Txt.join sep ys) else none
      | none => none
    | none => none
  | _ => none
@[simp ↓] theorem v_join {sep : Str} {b : E} : wE (eJoin (eC (.str sep)) b σ s) Q X ↔ wE (b σ s) (fun y s1 => onO (joinD s1 sep y) fun x => Q (.str x) s1) X := by
  with_unfolding_all
    have key : ∀ (y : D) (s : S), wE (match y with
      | .ref n => match lstAt s n with
        | some ds => match strsD ds with
          | some ys => if (ys.map (·.length)).sum + ys.length * sep.length ≤ 16777216 then some (Res.ok (D.str (Txt.join sep ys)) s) else none
          | none => none
        | none => none
      | _ => none) Q X ↔ onO (joinD s sep y) fun x => Q (.str x) s := by
      intro y s
      unfold joinD
      cases y with
      | ref n =>
        dsimp only
        cases lstAt s n with
        | none => simp
        | some ds =>
          dsimp only
          cases strsD ds with
          | none => simp
          | some ys =>
            dsimp only
            by_cases h : (ys.map (·.length)).sum + ys.length * sep.length ≤ 16777216
            · simp [h]
            · simp [h]
      | _ => simp
    show wE (bnd (b σ) _ s) Q X ↔ _
    rw [w_bnd]
    constructor
    · intro h
      exact wE_mono h fun y s1 h => (key y s1).mp h
    · intro h
      exact wE_mono h fun y s1 h => (key y s1).mpr h
@[simp ↓] theorem v_cutR {a : E} {lo hi : EO} : wE (eCutR a lo hi σ s) Q X ↔ wE (a σ s) (fun x s1 => wE (lo σ s1) (fun l s2 => wE (hi σ s2) (fun h s3 => wE (oCutR x l h s3) Q X) X) X) X := by
  with_unfolding_all
    unfold eCutR
    rw [w_bnd]
    constructor
    · intro h
      refine wE_mono h fun x s1 h => ?_
      rw [w_bnd] at h
      refine wE_mono h fun l s2 h => ?_
      rw [w_bnd] at h
      exact h
    · intro h
      refine wE_mono h fun x s1 h => ?_
      rw [w_bnd]
      refine wE_mono h fun l s2 h => ?_
      rw [w_bnd]
      exact h
@[simp ↓] theorem v_oCutR {ds : List D} {lo hi : Option Int} : wE (oCutR (.rol ds) lo hi s) Q X ↔ Q (.ref s.length) (s ++ [.lst (cutL ds lo hi)]) := by
  with_unfolding_all
    exact v_new
/-- what is walked: the keys, the pairs of a dict with deep keys -/
def ndSrc (s : S) (g : D × D → D) (x : D) : Option SK := match x with
  | .ref n => (ndAt s n).map fun kvs => .dict n (kvs.map g)
  | _ => none
@[simp ↓] theorem v_iNd {g : D × D → D} {e : E} {Q : SK → S → Prop} : wE (iNd g e σ s) Q X ↔ wE (e σ s) (fun x s1 => onO (ndSrc s1 g x) fun k => Q k s1) X := by
  with_unfolding_all
    unfold iNd
    rw [w_bnd]
    have key : ∀ (x : D) (s : S), wE (match x with
      | .ref n => match s[n]? with
        | some (.dN kvs) => some (Res.ok (SK.dict n (kvs.map g)) s)
        | some (.lck (.dN kvs)) => some (.ok (.dict n (kvs.map g)) s)
        | _ => none
      | _ => none) Q X ↔ onO (ndSrc s g x) fun k => Q k s := by
      intro x s
      unfold ndSrc ndAt
      cases x with
      | ref n =>
        dsimp only
        cases s[n]? with
        | none => simp
        | some o =>
          cases o with
          | lck o => cases o <;> simp
          | _ => simp
      | _ => simp
    constructor
    · intro h
      exact wE_mono h fun y s1 h => (key y s1).mp h
    · intro h
      exact wE_mono h fun y s1 h => (key y s1).mpr h
end
end Fc
namespace P85
open PySem Fc P1
noncomputable section
def b_law_title : C :=
 (cSeq (cSet (eC (.str "")) (gName 2))
 (cSeq (cFor (iRange (eC (.int 0)) (e2 oAdd (eC (.int 1)) (eCall d_law_random [] (lCons (eVar 0) (lCons (eVar 1) lNil))))) (gName 3)
 (cSet (e2 oAdd (eVar 2) (e2 oAt (eC (.str "abcdefghijklmnopqrstuvwxyz")) (eCall d_law_random [] (lCons (eVar 0) (lCons (eC (.int 26)) lNil))))) (gName 2)))
 (cRet (eVar 2))))
def d_law_title : F := defF 2 4 b_law_title
def b_law_heads : C :=
 (cSeq (cSet (eN mLst lNil) (gName 2))
 (cSeq (cFor (iRange (eC (.int 0)) (eVar 1)) (gName 3)
 (cExpr (eM mAppend (eVar 2) (lCons (eN mTup (lCons (e2 oAdd (eCall d_law_title [] (lCons (eVar 0) (lCons (eC (.int 3)) lNil))) (e2 oAt (eC (.str "klmno")) (eVar 3))) (lCons (eCall d_law_random [] (lCons (eVar 0) (lCons (eC (.int 4)) lNil))) lNil))) lNil))))
 (cRet (eVar 2))))
def d_law_heads : F := defF 2 4 b_law_heads
def b_law_drawn : C :=
 (cSeq (cSet (eCall d_law_heads [] (lCons (eVar 0) (lCons (eVar 1) lNil))) (gName 3))
 (cSeq (cPar 4 5 (lCons (eN fDictP (lCons (eVar 3) lNil)) (lCons (eN mLst lNil) lNil)))
 (cSeq (cFor (iRange (eC (.int 0)) (eCall d_law_random [] (lCons (eVar 0) (lCons (e2 oAdd (eVar 2) (eC (.int 1))) lNil)))) (gName 6)
 (cSeq (cSet (e2 oAt (e2 oAt (eVar 3) (eCall d_law_random [] (lCons (eVar 0) (lCons (eN fLen (lCons (eVar 3) lNil)) lNil)))) (eC (.int 0))) (gName 7))
 (cSeq (cSet (e2 oAt (e2 oAt (eVar 3) (eCall d_law_random [] (lCons (eVar 0) (lCons (eN fLen (lCons (eVar 3) lNil)) lNil)))) (eC (.int 0))) (gName 8))
 (cSeq (cSet (eCall d_law_arcs [] (lCons (eVar 0) (lCons (e2 oAt (eVar 4) (eVar 7)) (lCons (e2 oAt (eVar 4) (eVar 8)) (lCons (e2 oAt (eN mLst (lCons (eC (.int 2)) (lCons (eC (.int 3)) lNil))) (eCall d_law_random [] (lCons (eVar 0) (lCons (eC (.int 2)) lNil)))) lNil))))) (gName 9))
 (cExpr (eM mAppend (eVar 5) (lCons (eN mTup (lCons (e2 oAt (eN mLst (lCons (eC (.str "cd")) (lCons (eC (.str "c")) (lCons (eC (.str "ca")) (lCons (eC (.str "cda")) (lCons (eC (.str "cb")) (lCons (eC (.str "cab")) (lCons (eC (.str "cc")) (lCons (eC (.str "da")) (lCons (eC (.str "d")) (lCons (eC (.str "dab")) lNil))))))))))) (eVar 6)) (lCons (eVar 7) (lCons (eVar 8) (lCons (eVar 9) lNil))))) lNil)))))))
 (cRet (eN mLst (lCons (eVar 3) (lCons (eVar 5) lNil)))))))
def d_law_drawn : F := defF 3 10 b_law_drawn
def b_law_worths : C :=
 (cRet (eN fTuple (lCons (eLc [3] (iRange (eC (.int 0)) (eVar 1)) (gName 3) tYes (eCall d_law_random [] (lCons (eVar 0) (lCons (eVar 2) lNil)))) lNil)))
def d_law_worths : F := defF 3 4 b_law_worths
def b_check_list : C :=
 (cIf (tNot (tE (e1 (oIs .list) (eVar 0))))
 (cRaise "InvalidList" "value" (eVar 0))
 cNil)
def d_check_list : F := defF 1 1 b_check_list
def b_is_function : C :=
 (cSeq (cIf (tOr (tNot (tE (e1 (oIs .tuple) (eVar 0)))) (tOr (tB (e2 oNe (eN fLen (lCons (eVar 0) lNil)) (eC (.int 2)))) (tNot (tE (eCall d_is_name [] (lCons (e2 oAt (eVar 0) (eC (.int 0))) lNil))))))
 (cRet (eC (.bl false)))
 cNil)
 (cRet (eAnd (eCall d_is_whole [] (lCons (e2 oAt (eVar 0) (eC (.int 1))) lNil)) (eChain oLe oLe (eC (.int 0)) (e2 oAt (eVar 0) (eC (.int 1))) (eC (.int 3))))))
def d_is_function : F := defF 1 1 b_is_function
def b_is_call : C :=
 (cSeq (cIf (tOr (tNot (tE (e1 (oIs .tuple) (eVar 0)))) (tOr (tB (e2 oNe (eN fLen (lCons (eVar 0) lNil)) (eC (.int 4)))) (tB (e2 oNe (eLc [2] (iSrc .seq (eCut (eVar 0) pNo (pYes (eC (.int 3))))) (gName 2) (tNot (tE (eCall d_is_name [] (lCons (eVar 2) lNil)))) (eVar 2)) (eN mLst lNil)))))
 (cRet (eC (.bl false)))
 cNil)
 (cSeq (cSet (eVar 0) (gTup 4 (gCons (gName 2) (gCons (gName 3) (gCons (gName 4) (gCons (gName 5) gNil))))))
 (cSeq (cIf (tOr (tB (e2 oNotIn (eVar 3) (eVar 1))) (tOr (tB (e2 oNotIn (eVar 4) (eVar 1))) (tNot (tE (e1 (oIs .list) (eVar 5))))))
 (cRet (eC (.bl false)))
 cNil)
 (cRet (e2 oEq (eLc [6] (iSrc .seq (eVar 5)) (gName 6) (tNot (tE (eCall d_is_arc [] (lCons (eVar 6) (lCons (e2 oAt (eVar 1) (eVar 3)) (lCons (e2 oAt (eVar 1) (eVar 4)) lNil)))))) (eVar 6)) (eN mLst lNil))))))
def d_is_call : F := defF 2 7 b_is_call
def b_Program_init : C :=
 (cSeq (cExpr (eCall d_check_list [] (lCons (eVar 1) lNil)))
 (cSeq (cSet (eN (fun _ => mDK) lNil) (gName 3))
 (cSeq (cFor (iSrc .seq (eVar 1)) (gName 4)
 (cSeq (cIf (tOr (tNot (tE (eCall d_is_function [] (lCons (eVar 4) lNil)))) (tB (e2 oIn (e2 oAt (eVar 4) (eC (.int 0))) (eVar 3))))
 (cRaise "InvalidFunction" "value" (eVar 4))
 cNil)
 (cSub (eVar 3) (e2 oAt (eVar 4) (eC (.int 0))) (e2 oAt (eVar 4) (eC (.int 1))))))
 (cSeq (cExpr (eCall d_check_list [] (lCons (eVar 2) lNil)))
 (cSeq (cSet (eN (fun _ => mDK) lNil) (gName 5))
 (cSeq (cFor (iSrc .seq (eVar 2)) (gName 6)
 (cSeq (cIf (tOr (tNot (tE (eCall d_is_call [] (lCons (eVar 6) (lCons (eVar 3) lNil))))) (tB (e2 oIn (e2 oAt (eVar 6) (eC (.int 0))) (eVar 5))))
 (cRaise "InvalidCall" "value" (eVar 6))
 cNil)
 (cSub (eVar 5) (e2 oAt (eVar 6) (eC (.int 0))) (eN mTup (lCons (e2 oAt (eVar 6) (eC (.int 1))) (lCons (e2 oAt (eVar 6) (eC (.int 2))) (lCons (eN fTuple (lCons (e2 oAt (eVar 6) (eC (.int 3))) lNil)) lNil)))))))
 (cSeq (cFld "many" (eVar 0) (eVar 3))
 (cFld "known" (eVar 0) (eVar 5)))))))))
def d_Program_init : F := defF 3 7 b_Program_init
def b_check_program : C :=
 (cIf (tNot (tE (e1 (oIsJ ["Program"]) (eVar 0))))
 (cRaise "InvalidProgram" "value" (eVar 0))
 cNil)
def d_check_program : F := defF 1 1 b_check_program
def b_check_function_name : C :=
 (cIf (tOr (tNot (tE (e1 (oIs .str) (eVar 1)))) (tB (e2 oNotIn (eVar 1) (e1 (oFld "many") (eVar 0)))))
 (cRaise "UnknownName" "name" (eVar 1))
 cNil)
def d_check_function_name : F := defF 2 2 b_check_function_name
def b_are_values : C :=
 (cSeq (cIf (tOr (tNot (tE (e1 (oIs .tuple) (eVar 0)))) (tB (e2 oNe (eN fLen (lCons (eVar 0) lNil)) (eVar 1))))
 (cRet (eC (.bl false)))
 cNil)
 (cRet (e2 oEq (eLc [2] (iSrc .seq (eVar 0)) (gName 2) (tOr (tNot (tE (eCall d_is_whole [] (lCons (eVar 2) lNil)))) (tB (e2 oLt (eVar 2) (eC (.int 0))))) (eVar 2)) (eN mLst lNil))))
def d_are_values : F := defF 2 3 b_are_values
def b_check_values : C :=
 (cIf (tNot (tE (eCall d_are_values [] (lCons (eVar 0) (lCons (eVar 1) lNil)))))
 (cRaise "InvalidValues" "value" (eVar 0))
 cNil)
def d_check_values : F := defF 2 2 b_check_values
def b_Run_init : C :=
 (cSeq (cExpr (eCall d_check_program [] (lCons (eVar 1) lNil)))
 (cSeq (cExpr (eCall d_check_function_name [] (lCons (eVar 1) (lCons (eVar 2) lNil))))
 (cSeq (cExpr (eCall d_check_values [] (lCons (eVar 3) (lCons (e2 oAt (e1 (oFld "many") (eVar 1)) (eVar 2)) lNil))))
 (cSeq (cFld "base" (eVar 0) (eVar 1))
 (cFld "places" (eVar 0) (eN mLst (lCons (eN mTup (lCons (eC .non) (lCons (eVar 2) (lCons (eVar 3) lNil)))) lNil)))))))
def d_Run_init : F := defF 4 4 b_Run_init
def b_law_caught : C :=
 (cSeq (cSet (eC .non) (gName 3))
 (cSeq (cTryE ["CallsError", "InvalidList", "InvalidFunction", "InvalidCall", "InvalidProgram", "InvalidValues", "UnknownName", "CannotCall"] 4 3
 (cExpr (eMake "Run" d_Run_init [] (lCons (eVar 0) (lCons (eVar 1) (lCons (eVar 2) lNil))))))
 (cSeq (cIf (tE (e1 (oIsJ ["UnknownName"]) (eVar 3)))
 (cRet (eN mLst (lCons (eC (.str "name")) (lCons (eN fReprR (lCons (e1 (oFld "name") (eVar 3)) lNil)) lNil))))
 cNil)
 (cSeq (cIf (tB (e1 oIsN (eVar 3)))
 (cRet (eC .non))
 cNil)
 (cSeq (cIf (tE (e1 (oIs .list) (e1 (oFld "value") (eVar 3))))
 (cExpr (eM mAppend (e1 (oFld "value") (eVar 3)) (lCons (eC (.str "more")) lNil)))
 cNil)
 (cRet (eN mLst (lCons (e1 (oIsJ ["InvalidProgram"]) (eVar 3)) (lCons (e1 (oIsJ ["InvalidValues"]) (eVar 3)) (lCons (eN fReprR (lCons (e1 (oFld "value") (eVar 3)) lNil)) lNil))))))))))
def d_law_caught : F := defF 3 5 b_law_caught
def b_Program_names : C :=
 (cRet (eN fList (lCons (e1 (oFld "known") (eVar 0)) lNil)))
def d_Program_names : F := defF 1 1 b_Program_names
def b_law_start_right : C :=
 (cSeq (cFor (iSrc .seq (eN mLst (lCons (eC .non) (lCons (eC (.int 3)) (lCons (eN mLst (lCons (eVar 1) lNil)) (lCons (eN mTup lNil) (lCons (eN (fun _ => mDK) lNil) (lCons (eC (.str "program")) (lCons (eC (.bl true)) lNil))))))))) (gName 3)
 (cFor (iSrc .seq (eN mLst (lCons (eN mTup (lCons (eC .non) (lCons (eC .non) lNil))) (lCons (eN mTup (lCons (eVar 1) (lCons (eVar 2) lNil))) (lCons (eN mTup (lCons (eVar 1) (lCons (eC .non) lNil))) lNil))))) (gName 4)
 (cIf (tB (e2 oNe (eCall d_law_caught [] (lCons (eVar 3) (lCons (e2 oAt (eVar 4) (eC (.int 0))) (lCons (e2 oAt (eVar 4) (eC (.int 1))) lNil)))) (eN mLst (lCons (eC (.bl true)) (lCons (eC (.bl false)) (lCons (eN fReprR (lCons (eVar 3) lNil)) lNil))))))
 (cRet (eC (.bl false)))
 cNil)))
 (cSeq (cFor (iSrc .seq (e2 oAdd (eN mLst (lCons (eC .non) (lCons (eC (.str "")) (lCons (eC (.str "ca")) (lCons (eC (.str "zzzzz")) (lCons (eC (.int 3)) (lCons (eN mLst (lCons (eVar 1) lNil)) (lCons (eN mTup (lCons (eVar 1) lNil)) (lCons (eN (fun _ => mDK) lNil) (lCons (eC (.bl true)) (lCons (e2 oAdd (eVar 1) (eC (.str " "))) lNil))))))))))) (eMeth "Program" "names" d_Program_names [] (eVar 0) lNil))) (gName 3)
 (cFor (iSrc .seq (eN mLst (lCons (eC .non) (lCons (eVar 2) lNil)))) (gName 5)
 (cIf (tB (e2 oNe (eCall d_law_caught [] (lCons (eVar 0) (lCons (eVar 3) (lCons (eVar 5) lNil)))) (eN mLst (lCons (eC (.str "name")) (lCons (eN fReprR (lCons (eVar 3) lNil)) lNil)))))
 (cRet (eC (.bl false)))
 cNil)))
 (cSeq (cFor (iSrc .seq (eN mLst (lCons (eC .non) (lCons (eC (.int 3)) (lCons (eN fList (lCons (eVar 2) lNil)) (lCons (e2 oAdd (eVar 2) (eN mTup (lCons (eC (.int 0)) lNil))) (lCons (e2 oAdd (eN mTup (lCons (e1 oNeg (eC (.int 1))) lNil)) (eCut (eVar 2) (pYes (eC (.int 1))) pNo)) (lCons (e2 oAdd (eN mTup (lCons (eC .non) lNil)) (eCut (eVar 2) (pYes (eC (.int 1))) pNo)) (lCons (eN (fun _ => mDK) lNil) (lCons (eC (.str "0")) (lCons (eC (.bl true)) lNil))))))))))) (gName 3)
 (cIf (tB (e2 oNe (eCall d_law_caught [] (lCons (eVar 0) (lCons (eVar 1) (lCons (eVar 3) lNil)))) (eN mLst (lCons (eC (.bl false)) (lCons (eC (.bl true)) (lCons (eN fReprR (lCons (eVar 3) lNil)) lNil))))))
 (cRet (eC (.bl false)))
 cNil))
 (cSeq (cFor (iRange (eC (.int 0)) (eN fLen (lCons (eVar 2) lNil))) (gName 6)
 (cFor (iSrc .seq (eN mLst (lCons (e1 oNeg (eC (.int 1))) (lCons (eC (.bl true)) (lCons (eC .non) (lCons (eC (.str "0")) (lCons (eN mTup (lCons (eC (.int 0)) lNil)) lNil))))))) (gName 7)
 (cSeq (cSet (e2 oAdd (e2 oAdd (eCut (eVar 2) pNo (pYes (eVar 6))) (eN mTup (lCons (eVar 7) lNil))) (eCut (eVar 2) (pYes (e2 oAdd (eVar 6) (eC (.int 1)))) pNo)) (gName 3))
 (cIf (tB (e2 oNe (eCall d_law_caught [] (lCons (eVar 0) (lCons (eVar 1) (lCons (eVar 3) lNil)))) (eN mLst (lCons (eC (.bl false)) (lCons (eC (.bl true)) (lCons (eN fReprR (lCons (eVar 3) lNil)) lNil))))))
 (cRet (eC (.bl false)))
 cNil))))
 (cRet (e1 oIsN (eCall d_law_caught [] (lCons (eVar 0) (lCons (eVar 1) (lCons (eVar 2) lNil))))))))))
def d_law_start_right : F := defF 3 8 b_law_start_right
def b_check_call_name : C :=
 (cIf (tOr (tNot (tE (e1 (oIs .str) (eVar 1)))) (tB (e2 oNotIn (eVar 1) (e1 (oFld "known") (eVar 0)))))
 (cRaise "UnknownName" "name" (eVar 1))
 cNil)
def d_check_call_name : F := defF 2 2 b_check_call_name
def b_Run_function : C :=
 (cRet (e2 oAt (e2 oAt (e1 (oFld "places") (eVar 0)) (e1 oNeg (eC (.int 1)))) (eC (.int 1))))
def d_Run_function : F := defF 1 1 b_Run_function
def b_Run_held : C :=
 (cRet (e2 oAt (e2 oAt (e1 (oFld "places") (eVar 0)) (e1 oNeg (eC (.int 1)))) (eC (.int 2))))
def d_Run_held : F := defF 1 1 b_Run_held
def b_Run_greatest : C :=
 (cSeq (cSet (e2 oAt (e1 (oFld "known") (e1 (oFld "base") (eVar 0))) (eVar 1)) (gTup 3 (gCons (gName 2) (gCons (gName 3) (gCons (gName 4) gNil)))))
 (cSeq (cIf (tB (e2 oNe (eVar 2) (eMeth "Run" "function" d_Run_function [] (eVar 0) lNil)))
 (cRet (eC .non))
 cNil)
 (cSeq (cSet (e2 oMul (eN mLst (lCons (eC .non) lNil)) (e2 oAt (e1 (oFld "many") (e1 (oFld "base") (eVar 0))) (eVar 3))) (gName 5))
 (cSeq (cFor (iSrc .seq (eVar 4)) (gTup 3 (gCons (gName 6) (gCons (gName 7) (gCons (gName 8) gNil))))
 (cSeq (cSet (e2 oSub (e2 oAt (eMeth "Run" "held" d_Run_held [] (eVar 0) lNil) (eVar 6)) (eN fInt (lCons (eVar 8) lNil))) (gName 9))
 (cSub (eVar 5) (eVar 7) (eIf (tB (e1 oIsN (e2 oAt (eVar 5) (eVar 7)))) (eVar 9) (eN fMin (lCons (eN fInt (lCons (e2 oAt (eVar 5) (eVar 7)) lNil)) (lCons (eN fInt (lCons (eVar 9) lNil)) lNil)))))))
 (cRet (eIf (tB (e2 oNe (eLc [9] (iSrc .seq (eVar 5)) (gName 9) (tAnd (tB (e1 oNotN (eVar 9))) (tB (e2 oLt (eVar 9) (eC (.int 0))))) (eVar 9)) (eN mLst lNil))) (eC .non) (eVar 5)))))))
def d_Run_greatest : F := defF 2 10 b_Run_greatest
def b_Run_most : C :=
 (cSeq (cExpr (eCall d_check_call_name [] (lCons (e1 (oFld "base") (eVar 0)) (lCons (eVar 1) lNil))))
 (cSeq (cSet (eMeth "Run" "greatest" d_Run_greatest [] (eVar 0) (lCons (eVar 1) lNil)) (gName 2))
 (cSeq (cIf (tB (e1 oIsN (eVar 2)))
 (cRaise "CannotCall" "name" (eVar 1))
 cNil)
 (cRet (eVar 2)))))
def d_Run_most : F := defF 2 3 b_Run_most
def b_law_most_caught : C :=
 (cSeq (cSet (eC .non) (gName 2))
 (cSeq (cTryE ["CallsError", "InvalidList", "InvalidFunction", "InvalidCall", "InvalidProgram", "InvalidValues", "UnknownName", "CannotCall"] 3 2
 (cExpr (eMeth "Run" "most" d_Run_most [] (eVar 0) (lCons (eVar 1) lNil))))
 (cSeq (cIf (tB (e1 oIsN (eVar 2)))
 (cRet (eC .non))
 cNil)
 (cRet (eN mLst (lCons (e1 (oIsJ ["UnknownName"]) (eVar 2)) (lCons (e1 (oIsJ ["CannotCall"]) (eVar 2)) (lCons (eN fReprR (lCons (e1 (oFld "name") (eVar 2)) lNil)) lNil))))))))
def d_law_most_caught : F := defF 2 4 b_law_most_caught
def b_law_most : C :=
 (cSeq (cSet (e2 oMul (eN mLst (lCons (eC .non) lNil)) (e2 oAt (eVar 1) (e2 oAt (eVar 0) (eC (.int 2))))) (gName 3))
 (cSeq (cFor (iSrc .seq (e2 oAt (eVar 0) (eC (.int 3)))) (gTup 3 (gCons (gName 4) (gCons (gName 5) (gCons (gName 6) gNil))))
 (cSeq (cSet (e2 oSub (e2 oAt (eVar 2) (eVar 4)) (eN fInt (lCons (eVar 6) lNil))) (gName 7))
 (cSeq (cIf (tB (e2 oLt (eVar 7) (eC (.int 0))))
 (cRet (eC .non))
 cNil)
 (cSub (eVar 3) (eVar 5) (eIf (tB (e1 oIsN (e2 oAt (eVar 3) (eVar 5)))) (eVar 7) (eN fMin (lCons (eN fInt (lCons (e2 oAt (eVar 3) (eVar 5)) lNil)) (lCons (eN fInt (lCons (eVar 7) lNil)) lNil))))))))
 (cRet (eVar 3))))
def d_law_most : F := defF 3 8 b_law_most
def b_Run_options : C :=
 (cRet (eLc [1] (iSrc .seq (eN fSortedD (lCons (e1 (oFld "known") (e1 (oFld "base") (eVar 0))) lNil))) (gName 1) (tB (e1 oNotN (eMeth "Run" "greatest" d_Run_greatest [] (eVar 0) (lCons (eVar 1) lNil)))) (eVar 1)))
def d_Run_options : F := defF 1 2 b_Run_options
def b_Run_row : C :=
 (cRet (eLc [1, 2, 3] (iSrc .seq (eCut (e1 (oFld "places") (eVar 0)) (pYes (eC (.int 1))) pNo)) (gTup 3 (gCons (gName 1) (gCons (gName 2) (gCons (gName 3) gNil)))) tYes (eVar 1)))
def d_Run_row : F := defF 1 4 b_Run_row
def b_law_calls_right : C :=
 (cSeq (cPar 4 5 (lCons (eMake "Run" d_Run_init [] (lCons (eMake "Program" d_Program_init [] (lCons (eVar 0) (lCons (eVar 1) lNil))) (lCons (eVar 2) (lCons (eVar 3) lNil)))) (lCons (eN fDictP (lCons (eVar 0) lNil)) lNil)))
 (cSeq (cFor (iSrc .seq (eN mLst (lCons (eC .non) (lCons (eC (.str "")) (lCons (eC (.str "zzzzz")) (lCons (eVar 2) (lCons (eC (.int 3)) (lCons (eN mLst (lCons (eC (.str "ca")) lNil)) (lCons (eN mTup (lCons (eC (.str "ca")) lNil)) (lCons (eN (fun _ => mDK) lNil) (lCons (eC (.bl true)) lNil))))))))))) (gName 6)
 (cIf (tB (e2 oNe (eCall d_law_most_caught [] (lCons (eVar 4) (lCons (eVar 6) lNil))) (eN mLst (lCons (eC (.bl true)) (lCons (eC (.bl false)) (lCons (eN fReprR (lCons (eVar 6) lNil)) lNil))))))
 (cRet (eC (.bl false)))
 cNil))
 (cSeq (cFor (iSrc .seq (eVar 1)) (gName 7)
 (cSeq (cSet (eAnd (e2 oEq (e2 oAt (eVar 7) (eC (.int 1))) (eVar 2)) (e1 oNotN (eCall d_law_most [] (lCons (eVar 7) (lCons (eVar 5) (lCons (eVar 3) lNil)))))) (gName 8))
 (cSeq (cIf (tB (e2 oNe (eCall d_law_most_caught [] (lCons (eVar 4) (lCons (e2 oAt (eVar 7) (eC (.int 0))) lNil))) (eIf (tE (eVar 8)) (eC .non) (eN mLst (lCons (eC (.bl false)) (lCons (eC (.bl true)) (lCons (eN fReprR (lCons (e2 oAt (eVar 7) (eC (.int 0))) lNil)) lNil)))))))
 (cRet (eC (.bl false)))
 cNil)
 (cIf (tB (e2 oNe (e2 oIn (e2 oAt (eVar 7) (eC (.int 0))) (eMeth "Run" "options" d_Run_options [] (eVar 4) lNil)) (eVar 8)))
 (cRet (eC (.bl false)))
 cNil))))
 (cRet (eAnd (e2 oEq (eMeth "Run" "row" d_Run_row [] (eVar 4) lNil) (eN mLst lNil)) (eAnd (e2 oEq (eMeth "Run" "function" d_Run_function [] (eVar 4) lNil) (eVar 2)) (e2 oEq (eMeth "Run" "held" d_Run_held [] (eVar 4) lNil) (eVar 3))))))))
def d_law_calls_right : F := defF 4 9 b_law_calls_right
def b_law : C :=
 (cSeq (cFor (iRange (eC (.int 0)) (eC (.int 3))) (gName 1)
 (cSeq (cSet (eCall d_law_generator [] (lCons (eVar 0) (lCons (eVar 1) lNil))) (gName 2))
 (cSeq (cSet (eCall d_law_drawn [] (lCons (eVar 2) (lCons (e2 oAdd (eC (.int 1)) (eCall d_law_random [] (lCons (eVar 2) (lCons (eC (.int 4)) lNil)))) (lCons (eC (.int 6)) lNil)))) (gTup 2 (gCons (gName 3) (gCons (gName 4) gNil))))
 (cFor (iSrc .seq (eVar 3)) (gTup 2 (gCons (gName 5) (gCons (gName 6) gNil)))
 (cSeq (cSet (eCall d_law_worths [] (lCons (eVar 2) (lCons (eVar 6) (lCons (e2 oAt (eN mLst (lCons (eC (.int 2)) (lCons (eC (.int 9)) lNil))) (eCall d_law_random [] (lCons (eVar 2) (lCons (eC (.int 2)) lNil)))) lNil)))) (gName 7))
 (cSeq (cIf (tNot (tE (eCall d_law_start_right [] (lCons (eMake "Program" d_Program_init [] (lCons (eVar 3) (lCons (eVar 4) lNil))) (lCons (eVar 5) (lCons (eVar 7) lNil))))))
 (cRet (eC (.bl false)))
 cNil)
 (cIf (tNot (tE (eCall d_law_calls_right [] (lCons (eVar 3) (lCons (eVar 4) (lCons (eVar 5) (lCons (eVar 7) lNil)))))))
 (cRet (eC (.bl false)))
 cNil)))))))
 (cRet (eC (.bl true))))
def d_law : F := defF 1 8 b_law
end
end P85
namespace P85
open PySem Fc P1
/-- all signs are letters -/
def Ltr (x : Str) : Prop := ∀ c ∈ x.cps.toList, 97 ≤ c ∧ c < 123
theorem ltr_occ : ∀ i : Fin 26, (Builtin.Str.occurrences letters ⟨#[97 + i.val]⟩ 0 letters.length 1).isEmpty = false := by
  decide +kernel
theorem Ltr.occ {x : Str} (h : Ltr x) : ∀ c ∈ x.cps.toList, (Builtin.Str.occurrences letters ⟨#[c]⟩ 0 letters.length 1).isEmpty = false := fun c hc => by
  obtain ⟨h1, h2⟩ := h c hc
  have := ltr_occ ⟨c - 97, by omega⟩
  rw [show 97 + (c - 97) = c by omega] at this
  exact this
theorem ltr_app {x y : Str} (h : Ltr x) (k : Ltr y) : Ltr (x ++ y) := by
  intro c hc
  have e : (x ++ y).cps.toList = x.cps.toList ++ y.cps.toList := by
    show (x.cps ++ y.cps).toList = _
    simp
  rw [e] at hc
  rcases List.mem_append.mp hc with hc | hc
  · exact h c hc
  · exact k c hc
theorem len_app {x y : Str} : (x ++ y).length = x.length + y.length := by
  show (x.cps ++ y.cps).size = x.cps.size + y.cps.size
  simp
theorem ltr_at : ∀ z : Fin 26, 97 ≤ letters.cps.toList.getD z 0 ∧ letters.cps.toList.getD z 0 < 123 := by
  decide +kernel
theorem at_letter {s : S} {z : Int} (h0 : 0 ≤ z) (h1 : z < 26) : ∃ y : Str, atD s (.str letters) (.int z) = some (.str y) ∧ Ltr y ∧ y.length = 1 := by
  obtain ⟨n, rfl⟩ := Int.eq_ofNat_of_zero_le h0
  have hn : n < 26 := by omega
  have hl : letters.cps.toList.length = 26 := by decide +kernel
  have e : letters.cps.toList[n]? = some (letters.cps.toList.getD n 0) := by
    rw [List.getD_eq_getElem?_getD, List.getElem?_eq_getElem (by omega)]
    rfl
  refine ⟨⟨#[letters.cps.toList.getD n 0]⟩, ?_, ?_, rfl⟩
  · have hz : sz letters.length = true := by decide +kernel
    show (if sz letters.length then (L2.atI letters.cps.toList (n : Int)).map fun c => D.str ⟨#[c]⟩ else none) = _
    rw [if_pos hz, atI_nat, e]
    rfl
  · intro c hc
    have hc : c ∈ [letters.cps.toList.getD n 0] := hc
    simp only [List.mem_cons, List.not_mem_nil, or_false] at hc
    subst hc
    exact ltr_at ⟨n, hn⟩
theorem rangeL_len {a b : Int} : (rangeL a b).length = (b - a).toNat := by simp [rangeL]
theorem ltr_nil : Ltr "" := by
  intro c hc
  have : c ∈ ([] : List _) := hc
  cases this
end P85
namespace P85
open PySem Fc P1
def klm : Str := "klmno"
/-- the i-th drawn function -/
def HOk (i : Nat) (h : Str × Nat) : Prop := Ltr h.1 ∧ 2 ≤ h.1.length ∧ h.1.length ≤ 4 ∧ h.2 < 4 ∧ h.1.cps.toList.getLast? = some (klm.cps.toList.getD i 0)
def hD (h : Str × Nat) : D := .tup [.str h.1, .int h.2]
end P85
namespace P85
open PySem Fc P1
end P85
namespace P85
open PySem Fc P1
theorem klm_inj : ∀ i j : Fin 5, klm.cps.toList.getD i 0 = klm.cps.toList.getD j 0 → i = j := by
  decide +kernel
theorem heads_nodup {hs : List (Str × Nat)} (h : ∀ i x, hs[i]? = some x → HOk i x) (hl : hs.length ≤ 5) : (hs.map (·.1)).Nodup := by
  refine List.pairwise_iff_getElem.mpr fun i j hi hj hij e => ?_
  simp at hi hj
  simp only [List.getElem_map] at e
  have a := h i hs[i] (List.getElem?_eq_getElem hi)
  have b := h j hs[j] (List.getElem?_eq_getElem hj)
  have z1 := a.2.2.2.2
  have z2 := b.2.2.2.2
  rw [e, z2] at z1
  have z3 : klm.cps.toList.getD j 0 = klm.cps.toList.getD i 0 := Option.some.inj z1
  have z4 := klm_inj ⟨j, by omega⟩ ⟨i, by omega⟩ z3
  have z5 : j = i := congrArg Fin.val z4
  omega
theorem HOk.name {i : Nat} {x : Str × Nat} (h : HOk i x) : NameOk x.1 := ⟨by have := h.2.1; omega, by have := h.2.2.1; omega, h.1.occ⟩
/-- the dict of sizes -/
def mvH (hs : List (Str × Nat)) : List (L2.Key × D) := hs.map fun h => (.inr h.1, .int h.2)
end P85
namespace P85
open PySem Fc P1
theorem sp_is_arcG {s : S} {a : Arc} {p q : Nat} {X : Xc} {Q : D → S → Prop} (h1 : a.1 < p) (h2 : a.2.1 < q) (hQ : Q (.bl true) s) : wE (d_is_arc [aD a, .int p, .int q] s) Q X := by
  unfold d_is_arc
  refine (v_def (by rfl)).mpr ?_
  unfold b_is_arc
  simp [aD, eqD_int]
  refine sp_whole ?_
  simp
  refine sp_whole ?_
  have e1 : decide ((a.1 : Int) < p) = true := decide_eq_true (by omega)
  have e2 : decide ((a.2.1 : Int) < q) = true := decide_eq_true (by omega)
  simp [h1, h2]
  exact hQ
/-- a drawn call -/
structure Rw where
  nm : Str
  src : Str × Nat
  tgt : Str × Nat
  A : List Arc
  a : Nat
def rwD (r : Rw) : D := .tup [.str r.nm, .str r.src.1, .str r.tgt.1, .ref r.a]
structure RwOk (s : S) (hs : List (Str × Nat)) (r : Rw) : Prop where
  nm : NameOk r.nm
  src : r.src ∈ hs
  tgt : r.tgt ∈ hs
  arcs : ∀ a ∈ r.A, a.1 < r.src.2 ∧ a.2.1 < r.tgt.2
  len : r.A.length ≤ 40
  at_ : s[r.a]? = some (.lst (r.A.map aD))
end P85
namespace P85
open PySem Fc P1
def kvP (l : List Rw) : List (L2.Key × D) := l.map fun q => (.inr q.nm, .tup [.str q.src.1, .str q.tgt.1, .tup (q.A.map aD)])
end P85
namespace Fc
open PySem
def okS (x : Str) : Prop := ∀ c ∈ x.cps.toList, c < 1114112
theorem okS_iff {x : Str} : PyData.strOk x = true ↔ okS x := by
  unfold PyData.strOk okS
  rw [← Array.all_toList, List.all_eq_true]
  simp
theorem okS_of {x : String} : okS (Str.ofString x) := by
  intro c hc
  have e : (Str.ofString x).cps.toList = x.toList.map Char.toNat := PyProof.Rows.signs_ofString x
  rw [e] at hc
  obtain ⟨d, _, rfl⟩ := List.mem_map.mp hc
  have h := d.valid
  show d.val.toNat < 1114112
  rcases h with h | ⟨_, h⟩
  · have h : d.val.toNat < 55296 := h
    omega
  · have h : d.val.toNat < 1114112 := h
    exact h
theorem okS_app {x y : Str} (h1 : okS x) (h2 : okS y) : okS (x ++ y) := by
  intro c hc
  have e : (x ++ y).cps.toList = x.cps.toList ++ y.cps.toList := by
    show (x.cps ++ y.cps).toList = _
    simp
  rw [e, List.mem_append] at hc
  exact hc.elim (h1 c) (h2 c)
theorem ok_digit (w c : Nat) : ∀ d ∈ (List.replicate (w - ((Nat.toDigits 16 c).map Char.toNat).length) 48 ++ (Nat.toDigits 16 c).map Char.toNat), d < 1114112 := by
  intro d hd
  rcases List.mem_append.mp hd with h | h
  · have := (List.mem_replicate.mp h).2
    omega
  · obtain ⟨k, _, rfl⟩ := List.mem_map.mp h
    have h := k.valid
    show k.val.toNat < 1114112
    rcases h with h | ⟨_, h⟩
    · have h : k.val.toNat < 55296 := h
      omega
    · have h : k.val.toNat < 1114112 := h
      exact h
theorem ok_reprChar {q c : Nat} (hc : c < 1114112) : ∀ d ∈ Builtin.Str.reprChar q c, d < 1114112 := by
  intro d hd
  unfold Builtin.Str.reprChar at hd
  simp only at hd
  repeat' split at hd
  all_goals first
    | (simp only [List.mem_cons, List.not_mem_nil, or_false] at hd; omega)
    | (rcases List.mem_append.mp hd with h | h
       · simp only [List.mem_cons, List.not_mem_nil, or_false] at h; omega
       · exact ok_digit _ _ d h)
theorem ok_fold {q : Nat} : ∀ (l : List Nat) (acc : Array Nat), (∀ c ∈ l, c < 1114112) → (∀ c ∈ acc.toList, c < 1114112) → ∀ c ∈ (l.foldl (fun out c => out ++ (Builtin.Str.reprChar q c).toArray) acc).toList, c < 1114112
  | [], acc, _, h => h
  | a :: l, acc, hl, h => by
    refine ok_fold l _ (fun c hc => hl c (List.mem_cons_of_mem _ hc)) ?_
    intro c hc
    rw [Array.toList_append, List.mem_append] at hc
    rcases hc with hc | hc
    · exact h c hc
    · exact ok_reprChar (hl a (List.mem_cons_self ..)) c hc
theorem okS_repr {x : Str} (h : okS x) : okS (reprText x) := by
  have hq : reprQuote x < 1114112 := by
    unfold reprQuote
    split <;> omega
  intro c hc
  unfold reprText at hc
  rw [← Array.foldl_toList] at hc
  simp only [Array.toList_push, List.mem_append, List.mem_cons, List.not_mem_nil, or_false] at hc
  rcases hc with hc | rfl
  · exact ok_fold x.cps.toList _ h (fun c hc => by simp at hc; omega) c hc
  · exact hq
theorem okS_textFrom : ∀ (ts : List Str) (k : Nat) (acc : Str), okS acc → (∀ t ∈ ts, okS t) → okS (textFrom k acc ts)
  | [], k, acc, h, _ => h
  | t :: r, k, acc, h, ht => by
    refine okS_textFrom r (k + 1) _ (okS_app (okS_app h ?_) (ht t (List.mem_cons_self ..))) fun u hu => ht u (List.mem_cons_of_mem _ hu)
    split <;> exact okS_of
theorem okS_list {ts : List Str} (h : ∀ t ∈ ts, okS t) : okS (listText ts) := okS_app (okS_textFrom ts 0 _ okS_of h) okS_of
theorem okS_join {sep : Str} {ts : List Str} (hs : okS sep) (h : ∀ t ∈ ts, okS t) : okS (Str.join sep ts) := by
  intro c hc
  rcases (PyProof.Rows.mem_join sep c ts).mp hc with ⟨t, ht, hc⟩ | ⟨_, hc⟩
  · exact h t ht c hc
  · exact hs c hc
theorem okS_tuple {ts : List Str} (h : ∀ t ∈ ts, okS t) : okS (tupleText ts) := by
  unfold tupleText
  refine okS_app (okS_app okS_of (okS_join okS_of h)) ?_
  split <;> exact okS_of
mutual
theorem okS_shown : ∀ d : PyData, d.canLay0 = true → okS d.shown
  | .none, _ => by simp only [PyData.shown]; exact okS_of
  | .bool b, _ => by
    simp only [PyData.shown]
    split <;> exact okS_of
  | .int i, _ => by simp only [PyData.shown]; exact okS_of
  | .str x, h => by
    simp only [PyData.shown]
    simp only [PyData.canLay0] at h
    exact okS_repr (okS_iff.mp h)
  | .list xs, h => by
    simp only [PyData.shown]
    simp only [PyData.canLay0] at h
    exact okS_list (okS_shownAll xs h)
  | .tuple xs, h => by
    simp only [PyData.shown]
    simp only [PyData.canLay0] at h
    exact okS_tuple (okS_shownAll xs h)
  | .dict kvs, h => by simp [PyData.canLay0] at h
theorem okS_shownAll : ∀ xs : List PyData, PyData.canLayAll0 xs = true → ∀ t ∈ PyData.shownAll xs, okS t
  | [], _, t, h => by simp only [PyData.shownAll, List.not_mem_nil] at h
  | x :: xs, h, t, ht => by
    simp only [PyData.canLayAll0, Bool.and_eq_true] at h
    simp only [PyData.shownAll, List.mem_cons] at ht
    rcases ht with rfl | ht
    · exact okS_shown x h.1
    · exact okS_shownAll xs h.2 t ht
end
theorem strOk_shown {d : PyData} (h : d.canLay0 = true) : PyData.strOk d.shown = true := okS_iff.mpr (okS_shown d h)
end Fc
namespace Fc
open PySem
mutual
theorem datR_pf {s s' : S} (h : Pf s s') : ∀ (n : Nat) (d : D) {x : PyData}, datR s n d = some x → datR s' n d = some x
  | n, .non, x, e => by cases n <;> (simp only [datR] at e ⊢; exact e)
  | n, .bl b, x, e => by cases n <;> (simp only [datR] at e ⊢; exact e)
  | n, .int b, x, e => by cases n <;> (simp only [datR] at e ⊢; exact e)
  | n, .str b, x, e => by cases n <;> (simp only [datR] at e ⊢; exact e)
  | n, .rol b, x, e => by cases n <;> (simp only [datR] at e; cases e)
  | 0, .tup ds, x, e => by simp only [datR] at e; cases e
  | 0, .ref a, x, e => by simp only [datR] at e; cases e
  | n + 1, .tup ds, x, e => by
    simp only [datR] at e ⊢
    cases e1 : datRs s n ds with
    | none => rw [e1] at e; cases e
    | some xs => rw [e1] at e; rw [datRs_pf h n ds e1]; exact e
  | n + 1, .ref a, x, e => by
    simp only [datR] at e ⊢
    cases ha : s[a]? with
    | none => rw [ha] at e; cases e
    | some o =>
      rw [ha] at e
      rw [h _ _ ha]
      cases o with
      | lst ds =>
        dsimp only at e ⊢
        cases e1 : datRs s n ds with
        | none => rw [e1] at e; cases e
        | some xs => rw [e1] at e; rw [datRs_pf h n ds e1]; exact e
      | dK kvs =>
        dsimp only at e ⊢
        cases e1 : datRs s n (kvs.map (·.2)) with
        | none => rw [e1] at e; cases e
        | some xs => rw [e1] at e; rw [datRs_pf h n _ e1]; exact e
      | _ => cases e
theorem datRs_pf {s s' : S} (h : Pf s s') : ∀ (n : Nat) (ds : List D) {xs : List PyData}, datRs s n ds = some xs → datRs s' n ds = some xs
  | n, [], xs, e => by cases n <;> (simp only [datRs] at e ⊢; exact e)
  | n, d :: ds, xs, e => by
    simp only [datRs] at e ⊢
    split at e
    · rename_i y ys e1 e2
      rw [datR_pf h n d e1, datRs_pf h n ds e2]
      exact e
    · cases e
end
/-- repr of d is t -/
structure Rp (s : S) (d : D) (t : Str) : Prop where
  ex : ∃ x, datR s 60 d = some x ∧ x.showable = true ∧ sz x.shown.length = true ∧ x.shown = t
  ok : PyData.strOk t = true
section
variable {s s' : S} {d : D} {t : Str} {X : Xc} {Q : D → S → Prop}
theorem Rp.go (h : Rp s d t) : wE (fReprR [d] s) Q X ↔ Q (.str t) s := by
  obtain ⟨x, h1, h2, h3, rfl⟩ := h.ex
  rw [o_reprR, h1, onO_some, h2, h3]
  simp
theorem Rp.pf (h : Rp s d t) (f : Pf s s') : Rp s' d t := by
  obtain ⟨x, h1, h2⟩ := h.ex
  exact ⟨⟨x, datR_pf f _ _ h1, h2⟩, h.ok⟩
theorem sz_shown {x : PyData} (h2 : x.leavesShort 13 = true) (h3 : x.bulk ≤ 10000) : sz x.shown.length = true := by
  have := PyData.shown_fits_bulk (B := 13) (by decide) (by decide) h2 (by omega)
  exact decide_eq_true (by rw [sizeLine_eq] at this; omega)
theorem rp_of {x : PyData} (h : datR s 60 d = some x) (h1 : x.showable = true) (h2 : x.leavesShort 13 = true) (h3 : x.bulk ≤ 10000) (h4 : x.canLay0 = true) : Rp s d x.shown :=
  ⟨⟨x, h, h1, sz_shown h2 h3, rfl⟩, strOk_shown h4⟩
theorem rp_dict0 {n : Nat} (h : s[n]? = some (.dK [])) : Rp s (.ref n) (PyData.dict []).shown := by
  refine ⟨⟨.dict [], ?_, by decide +kernel, by decide +kernel, rfl⟩, by decide +kernel⟩
  simp only [datR, h, List.map_nil, datRs]
  rfl
/-- small data without lists -/
def Ti (d : D) : Prop := ∃ x : PyData, (∀ (s : S) (n : Nat), datR s (n + 2) d = some x) ∧ x.showable = true ∧ x.leavesShort 13 = true ∧ x.bulk ≤ 100 ∧ x.canLay0 = true
theorem ti_non : Ti .non := ⟨.none, fun s n => by simp only [datR], rfl, rfl, by decide, rfl⟩
theorem ti_bl {b : Bool} : Ti (.bl b) := ⟨.bool b, fun s n => by simp only [datR], rfl, rfl, by simp only [PyData.bulk]; omega, rfl⟩
theorem int_small : ∀ i : Fin 100, (PyData.int ((i.val : Int) - 50)).showable = true ∧ (PyData.int ((i.val : Int) - 50)).leavesShort 13 = true := by decide +kernel
theorem ti_int {i : Int} (h1 : -50 ≤ i) (h2 : i < 50) : Ti (.int i) := by
  have k := int_small ⟨(i + 50).toNat, by omega⟩
  have e : (((i + 50).toNat : Nat) : Int) - 50 = i := by omega
  simp only [e] at k
  exact ⟨.int i, fun s n => by simp only [datR], k.1, k.2, by simp only [PyData.bulk]; omega, rfl⟩
theorem ti_str {x : Str} (h : okS x) (hl : x.length ≤ 100) : Ti (.str x) := by
  refine ⟨.str x, fun s n => by simp only [datR], rfl, ?_, hl, okS_iff.mpr h⟩
  simp only [PyData.leavesShort, List.all_eq_true]
  intro c hc
  exact decide_eq_true (by have := h c hc; omega)
theorem ti_tup0 : Ti (.tup []) := ⟨.tuple [], fun s n => by simp only [datR, datRs]; rfl, rfl, rfl, by decide, rfl⟩
theorem tis : ∀ {ds : List D}, (∀ d ∈ ds, Ti d) → ∃ xs : List PyData, (∀ (s : S) (n : Nat), datRs s (n + 2) ds = some xs) ∧ PyData.showableAll xs = true ∧ PyData.leavesShortAll 13 xs = true ∧ PyData.bulkAll xs ≤ 101 * ds.length ∧ PyData.canLayAll0 xs = true
  | [], _ => ⟨[], fun s n => by simp only [datRs], rfl, rfl, by simp [PyData.bulkAll], rfl⟩
  | d :: ds, h => by
    obtain ⟨x, h1, h2, h3, h4, h5⟩ := h d (List.mem_cons_self ..)
    obtain ⟨xs, k1, k2, k3, k4, k5⟩ := tis fun d hd => h d (List.mem_cons_of_mem _ hd)
    refine ⟨x :: xs, fun s n => by simp only [datRs, h1, k1], ?_, ?_, ?_, ?_⟩
    · simp only [PyData.showableAll, h2, k2, Bool.and_self]
    · simp only [PyData.leavesShortAll, h3, k3, Bool.and_self]
    · simp only [PyData.bulkAll, List.length_cons]; omega
    · simp only [PyData.canLayAll0, h5, k5, Bool.and_self]
theorem Ti.rp (h : Ti d) : ∃ t, ∀ s, Rp s d t := by
  obtain ⟨x, h1, h2, h3, h4, h5⟩ := h
  exact ⟨x.shown, fun s => rp_of (h1 s 58) h2 h3 (by omega) h5⟩
theorem rp_lst {ds : List D} (h : ∀ d ∈ ds, Ti d) (hl : ds.length ≤ 50) : ∃ t, ∀ (s : S) (n : Nat), s[n]? = some (.lst ds) → Rp s (.ref n) t := by
  obtain ⟨xs, h1, h2, h3, h4, h5⟩ := tis h
  refine ⟨(PyData.list xs).shown, fun s n hn => rp_of ?_ ?_ ?_ ?_ ?_⟩
  · simp only [datR, hn, h1 s 57, Option.map_some]
  · simpa only [PyData.showable] using h2
  · simpa only [PyData.leavesShort] using h3
  · simp only [PyData.bulk]; omega
  · simpa only [PyData.canLay0] using h5
end
end Fc
namespace P85
open PySem Fc P1
theorem Ltr.okS {x : Str} (h : Ltr x) : okS x := fun c hc => by have := h c hc; omega
theorem eq_self {s : S} {a b : D} {x : PyData} (h1 : dat s 60 a = some x) (h2 : dat s 60 b = some x) (h3 : SeqAt.shaped x = true) : eqD s a b = some true := by
  rw [eq_of h1 h2 h3 h3, PySem.SeqAt.eqv_refl x (Bool.and_eq_true_iff.mp h3).1]
theorem eq_lst {s : S} {n m : Nat} {l : List D} {ps : List PyData} (h1 : s[n]? = some (.lst l)) (h2 : s[m]? = some (.lst l)) (hd : dats s 59 l = some ps) (hs : PyData.canLayAll0 ps = true) (hp : PyData.depthAll ps ≤ 20) : eqD s (.ref n) (.ref m) = some true := by
  refine eq_self (x := .list ps) (by rw [dat_ref h1, hd]; rfl) (by rw [dat_ref h2, hd]; rfl) ?_
  refine Bool.and_eq_true_iff.mpr ⟨by simp only [PyData.canLay0, hs], decide_eq_true ?_⟩
  simp only [PyData.depth]
  omega
theorem app_get {s t : S} {n : Nat} (i : Nat) (h : n = s.length + i) : (s ++ t)[n]? = t[i]? := by
  subst h
  rw [List.getElem?_append_right (by omega)]
  congr 1
  omega
theorem eq_bbs {s : S} {n m : Nat} {a b : Bool} {t : Str} (h1 : s[n]? = some (.lst [.bl a, .bl b, .str t])) (h2 : s[m]? = some (.lst [.bl a, .bl b, .str t])) (ht : PyData.strOk t = true) : eqD s (.ref n) (.ref m) = some true :=
  eq_lst h1 h2 (dats_cons dat_bl (dats_cons dat_bl (dats_cons dat_str dats_nil))) (by simp [PyData.canLayAll0, PyData.canLay0, ht]) (by simp [PyData.depthAll, PyData.depth])
end P85
namespace P85
open PySem Fc P1
def nms : List Str := ["cd", "c", "ca", "cda", "cb", "cab", "cc", "da", "d", "dab"]
theorem nms_nodup : nms.Nodup := by decide +kernel
theorem isl {s : S} {n : Nat} {ds : List D} (h : s[n]? = some (.lst ds)) : isLst s (.ref n) = true := by
  simp [isLst, h]
theorem RwOk.mono {s s' : S} {hs : List (Str × Nat)} {r : Rw} (h : RwOk s hs r) (k : ∀ o, s[r.a]? = some o → s'[r.a]? = some o) : RwOk s' hs r := ⟨h.nm, h.src, h.tgt, h.arcs, h.len, k _ h.at_⟩
end P85
namespace P85
open PySem Fc P1
theorem isTy_pf {s s' : S} {d : D} {t : Ty} {b : Bool} (h : isTy s d t = some b) (f : Pf s s') : isTy s' d t = some b := by
  cases d with
  | ref n =>
    unfold isTy at h ⊢
    dsimp only at h ⊢
    cases e : s[n]? with
    | none => rw [e] at h; cases h
    | some o => rw [f _ _ e]; rw [e] at h; exact h
  | _ => exact h
/-- what catching an error does to the value that it holds -/
def Af (s : S) (d : D) (s' : S) : Prop :=
  (isTy s d .list = some false ∧ Pf s s') ∨ ∃ n ds, d = .ref n ∧ s[n]? = some (.lst ds) ∧ s'[n]? = some (.lst (ds ++ [.str "more"])) ∧ s.length ≤ s'.length ∧ ∀ w : Nat, w ≠ n → ∀ o, s[w]? = some o → s'[w]? = some o
section
variable {s s1 s2 : S} {d : D} {t : Str} {X : Xc} {Q : D → S → Prop}
theorem Af.pf (h : Af s d s1) (f : Pf s1 s2) : Af s d s2 := by
  rcases h with ⟨h1, h2⟩ | ⟨n, ds, h1, h2, h3, h4, h5⟩
  · exact .inl ⟨h1, h2.trans f⟩
  · exact .inr ⟨n, ds, h1, h2, f _ _ h3, Nat.le_trans h4 f.len, fun w hw o e => f _ _ (h5 w hw o e)⟩
/-- a value to be refused; t: what repr tells of it then -/
structure Bv (s : S) (d : D) (t : Str) : Prop where
  ty : isTy s d .list = some false ∨ ∃ n ds, d = .ref n ∧ s[n]? = some (.lst ds) ∧ ds.length < 1000
  rp : ∀ s', Af s d s' → Rp s' d t
end
end P85
namespace P85
open PySem Fc P1
structure PA (s : S) (p m k : Nat) (hs : List (Str × Nat)) (l : List Rw) : Prop where
  at_ : s[p]? = some (.ins "Program" [("many", .ref m), ("known", .ref k)])
  many : s[m]? = some (.dK (mvH hs))
  known : s[k]? = some (.dK (kvP l))
def gv (d : D) : Bool := match d with
  | .int i => decide (0 ≤ i)
  | _ => false
/-- plain data: no lists -/
def noRef (d : D) : Bool := match d with
  | .ref _ => false
  | .rol _ => false
  | _ => true
/-- data that == looks at -/
def Te (d : D) : Prop := noRef d = true ∧ ∃ x : PyData, (∀ (s : S) (n : Nat), dat s (n + 2) d = some x) ∧ x.canLay0 = true ∧ x.depth ≤ 3
theorem te_non : Te .non := ⟨rfl, .none, fun s n => dat_non, rfl, by decide⟩
theorem te_bl {b : Bool} : Te (.bl b) := ⟨rfl, .bool b, fun s n => dat_bl, rfl, by simp only [PyData.depth]; omega⟩
theorem te_int {i : Int} : Te (.int i) := ⟨rfl, .int i, fun s n => dat_int, rfl, by simp only [PyData.depth]; omega⟩
theorem te_str {x : Str} (h : okS x) : Te (.str x) := ⟨rfl, .str x, fun s n => dat_str, okS_iff.mpr h, by simp only [PyData.depth]; omega⟩
theorem tes : ∀ {ds : List D}, (∀ d ∈ ds, Te d) → ∃ xs : List PyData, (∀ (s : S) (n : Nat), dats s (n + 2) ds = some xs) ∧ PyData.canLayAll0 xs = true ∧ PyData.depthAll xs ≤ 3 ∧ xs.length = ds.length
  | [], _ => ⟨[], fun s n => dats_nil, rfl, by decide, rfl⟩
  | d :: ds, h => by
    obtain ⟨_, x, h1, h2, h3⟩ := h d (List.mem_cons_self ..)
    obtain ⟨xs, k1, k2, k3, k4⟩ := tes fun d hd => h d (List.mem_cons_of_mem _ hd)
    refine ⟨x :: xs, fun s n => dats_cons (h1 s n) (k1 s n), ?_, ?_, by simp [k4]⟩
    · simp only [PyData.canLayAll0, h2, k2, Bool.and_self]
    · simp only [PyData.depthAll]; omega
theorem eq_nilT {s : S} {n m : Nat} {ds : List D} (hd : ∀ d ∈ ds, Te d) (h : s[n]? = some (.lst ds)) (h2 : s[m]? = some (.lst [])) : eqD s (.ref n) (.ref m) = some ds.isEmpty := by
  obtain ⟨xs, h1, k2, k3, k4⟩ := tes hd
  rw [eq_of (x := .list xs) (y := .list []) (by rw [dat_ref h, h1 s 57]; rfl) (by rw [dat_ref h2, dats_nil]; rfl) ?_ shaped_list0]
  · cases ds with
    | nil =>
      have : xs = [] := List.eq_nil_of_length_eq_zero (by simpa using k4)
      subst this
      rfl
    | cons d ds =>
      cases xs with
      | nil => simp at k4
      | cons x xs => rfl
  · refine Bool.and_eq_true_iff.mpr ⟨by simp only [PyData.canLay0, k2], decide_eq_true ?_⟩
    simp only [PyData.depth]
    omega
section
variable {s s' : S} {p m k : Nat} {hs : List (Str × Nat)} {l : List Rw} {X : Xc} {Q : D → S → Prop} {d : D}
theorem PA.pf (h : PA s p m k hs l) (f : Pf s s') : PA s' p m k hs l := ⟨f _ _ h.at_, f _ _ h.many, f _ _ h.known⟩
/-- a value that is no name of a function -/
def NoName (s : S) (hs : List (Str × Nat)) (d : D) : Prop := isTy s d .str = some false ∨ ∃ x, d = .str x ∧ ∀ h ∈ hs, h.1 ≠ x
theorem NoName.pf (h : NoName s hs d) (f : Pf s s') : NoName s' hs d := by
  rcases h with h | h
  · exact .inl (isTy_pf h f)
  · exact .inr h
/-- a value that is no tuple of n values -/
def NoVals (s : S) (n : Nat) (d : D) : Prop := isTy s d .tuple = some false ∨ ∃ ds, d = .tup ds ∧ ds.length < 1000 ∧ (ds.length ≠ n ∨ (∀ d ∈ ds, Te d) ∧ ∃ d ∈ ds, gv d = false)
theorem NoVals.pf {n : Nat} (h : NoVals s n d) (f : Pf s s') : NoVals s' n d := by
  rcases h with h | h
  · exact .inl (isTy_pf h f)
  · exact .inr h
def vD (v : List Int) : D := .tup (v.map .int)
structure RA (s : S) (r p q : Nat) (pl : List D) : Prop where
  at_ : s[r]? = some (.ins "Run" [("base", .ref p), ("places", .ref q)])
  pls : s[q]? = some (.lst pl)
theorem RA.pf {r q : Nat} {pl : List D} (h : RA s r p q pl) (f : Pf s s') : RA s' r p q pl := ⟨f _ _ h.at_, f _ _ h.pls⟩
theorem RA.fb {r q : Nat} {pl : List D} (h : RA s r p q pl) : fldD s (.ref r) "base" = some (.ref p) := by
  rw [fld_at h.at_]; rfl
theorem RA.fp {r q : Nat} {pl : List D} (h : RA s r p q pl) : fldD s (.ref r) "places" = some (.ref q) := by
  rw [fld_at h.at_]; rfl
def plD (n : D) (x : Str) (v : List Int) : D := .tup [n, .str x, vD v]
end
end P85
namespace P85
open PySem Fc P1
section
variable {s s' s'' : S} {X : Xc} {Q : D → S → Prop} {d : D}
theorem o_add_l {m n : Nat} {a b : List D} (h1 : s[m]? = some (.lst a)) (h2 : s[n]? = some (.lst b)) (hl : a.length + b.length ≤ 16777216) : wE (oAdd (.ref m) (.ref n) s) Q X ↔ Q (.ref s.length) (s ++ [.lst (a ++ b)]) := by
  with_unfolding_all
    unfold oAdd
    dsimp only
    rw [h1, h2]
    dsimp only
    rw [if_pos (sz_lit hl)]
    exact Iff.rfl
theorem noRef_list (h : noRef d = true) : isTy s d .list = some false := by
  cases d with
  | ref n => cases h
  | rol n => cases h
  | _ => rfl
theorem bv_dict0 {n : Nat} (h : s[n]? = some (.dK [])) : ∃ t, Bv s (.ref n) t := by
  refine ⟨(PyData.dict []).shown, .inl (by simp [isTy, h]), fun s' af => ?_⟩
  rcases af with ⟨_, f⟩ | ⟨m, ds, e, h2, _⟩
  · exact rp_dict0 (f _ _ h)
  · cases e
    rw [h] at h2
    cases h2
theorem ti_more : Ti (.str "more") := ti_str okS_of (by decide)
theorem bv_lst {n : Nat} {ds : List D} (h : s[n]? = some (.lst ds)) (ht : ∀ d ∈ ds, Ti d) (hl : ds.length ≤ 49) : ∃ t, Bv s (.ref n) t := by
  obtain ⟨t, k⟩ := rp_lst (ds := ds ++ [.str "more"]) (fun d hd => by
    rcases List.mem_append.mp hd with hd | hd
    · exact ht d hd
    · simp only [List.mem_cons, List.not_mem_nil, or_false] at hd
      subst hd
      exact ti_more) (by simp; omega)
  refine ⟨t, .inr ⟨n, ds, rfl, h, by omega⟩, fun s' af => ?_⟩
  rcases af with ⟨e, _⟩ | ⟨m, ds', e, h2, h3, _⟩
  · simp [isTy, h] at e
  · cases e
    rw [h] at h2
    cases h2
    exact k _ _ h3
/-- one list (at n1) that grows, one empty dict (at n2), all else of s stays -/
structure I1 (s s' : S) (n1 n2 N : Nat) : Prop where
  pf : Pf s s'
  lo : s.length ≤ n1
  d0 : s'[n2]? = some (.dK [])
  ls : ∃ ds, s'[n1]? = some (.lst ds) ∧ (∀ d ∈ ds, Ti d) ∧ ds.length ≤ N
theorem I1.mono {n1 n2 N N' : Nat} (h : I1 s s' n1 n2 N) (k : N ≤ N') : I1 s s' n1 n2 N' := by
  obtain ⟨a, b, c, ds, d1, d2, d3⟩ := h
  exact ⟨a, b, c, ds, d1, d2, Nat.le_trans d3 k⟩
theorem I1.tr {n1 n2 N : Nat} (h : I1 s s' n1 n2 N) (f : Pf s' s'') : I1 s s'' n1 n2 N := by
  obtain ⟨a, b, c, ds, d1, d2⟩ := h
  exact ⟨a.trans f, b, f _ _ c, ds, f _ _ d1, d2⟩
/-- the values that are refused: plain ones, the list, the dict -/
def Vl (n1 n2 : Nat) (d : D) : Prop := d = .ref n1 ∨ d = .ref n2 ∨ noRef d = true ∧ ∃ t, ∀ s, Rp s d t
theorem Vl.bv {n1 n2 N : Nat} (h : Vl n1 n2 d) (k : I1 s s' n1 n2 N) (hN : N ≤ 49) : ∃ t, Bv s' d t := by
  obtain ⟨a, b, c, ds, d1, d2, d3⟩ := k
  rcases h with rfl | rfl | ⟨h1, t, h2⟩
  · exact bv_lst d1 d2 (by omega)
  · exact bv_dict0 c
  · exact ⟨t, .inl (noRef_list h1), fun s' _ => h2 s'⟩
theorem Vl.af {n1 n2 N : Nat} (h : Vl n1 n2 d) (k : I1 s s' n1 n2 N) (a : Af s' d s'') : I1 s s'' n1 n2 (N + 1) ∧ ∀ w : Nat, w ≠ n1 → ∀ o, s'[w]? = some o → s''[w]? = some o := by
  rcases a with ⟨a1, a2⟩ | ⟨n, ds, rfl, e1, e2, e3, e4⟩
  · exact ⟨(k.tr a2).mono (by omega), fun w _ o e => a2 _ _ e⟩
  · obtain ⟨a, b, c, ds', d1, d2, d3⟩ := k
    have : n = n1 := by
      rcases h with h | h | ⟨h, _⟩
      · injection h
      · injection h with h
        rw [h, c] at e1
        cases e1
      · cases h
    subst this
    rw [d1] at e1
    cases e1
    refine ⟨⟨fun w o e => e4 w (by have := lt_of_get e; omega) o (a _ _ e), b, e4 _ (fun z => ?_) _ c, _, e2, ?_, by simp; omega⟩, e4⟩
    · rw [z, d1] at c; cases c
    · intro d hd
      rcases List.mem_append.mp hd with hd | hd
      · exact d2 d hd
      · simp only [List.mem_cons, List.not_mem_nil, or_false] at hd
        subst hd
        exact ti_more
end
section
variable {s : S} {P : Pst} {R : C} {b3 b4 b5 b6 b7 : Option D}
end
end P85
namespace P85
open PySem Fc P1
theorem HOk.last {i : Nat} {y : Str × Nat} (hi : i < 5) (h : HOk i y) : ∃ c, y.1.cps.toList.getLast? = some c ∧ 107 ≤ c ∧ c ≤ 111 := by
  have key : ∀ i : Fin 5, 107 ≤ klm.cps.toList.getD i 0 ∧ klm.cps.toList.getD i 0 ≤ 111 := by decide +kernel
  exact ⟨_, h.2.2.2.2, key ⟨i, hi⟩⟩
/-- functions' names end with k to o -/
def Hl (hs : List (Str × Nat)) : Prop := ∀ h ∈ hs, (∃ c, h.1.cps.toList.getLast? = some c ∧ 107 ≤ c ∧ c ≤ 111) ∧ Ltr h.1 ∧ h.1.length ≤ 4 ∧ h.2 < 4
theorem hl_of {hs : List (Str × Nat)} (h : ∀ i x, hs[i]? = some x → HOk i x) (hl : hs.length ≤ 5) : Hl hs := by
  intro x hx
  obtain ⟨i, hi, e⟩ := List.mem_iff_getElem.mp hx
  have k := h i x (by rw [← e]; exact List.getElem?_eq_getElem hi)
  exact ⟨k.last (by omega), k.1, k.2.2.1, k.2.2.2.1⟩
section
variable {s s' : S} {hs : List (Str × Nat)} {P : Pst} {R : C} {b3 b4 b5 b6 b7 : Option D} {X : Xc} {Q : D → S → Prop} {p m k : Nat} {l : List Rw}
end
end P85
namespace P85
open PySem Fc P1
section
variable {s s' : S} {hs : List (Str × Nat)} {P : Pst} {R : C} {b3 b4 b5 b6 b7 : Option D} {X : Xc} {Q : D → S → Prop} {p m k : Nat} {l : List Rw}
/-- values of a function -/
structure Vs (v : List Int) (n : Nat) : Prop where
  nn : ∀ x ∈ v, 0 ≤ x ∧ x < 50
  len : v.length = n
  le : n < 4
theorem Vs.ti {v : List Int} {n : Nat} (h : Vs v n) : ∀ d ∈ v.map D.int, Ti d ∧ Te d := fun d hd => by
  obtain ⟨x, hx, rfl⟩ := List.mem_map.mp hd
  exact ⟨ti_int (by have := h.nn x hx; omega) (h.nn x hx).2, te_int⟩
end
end P85
namespace Fc
open PySem PySem.Spec PyProof.Rows
def leS (a b : Str) : Bool := !ltCps b.cps.toList a.cps.toList
noncomputable def mst (ks : List Str) : List Str := ks.mergeSort leS
end Fc
namespace P85
open PySem Fc P1
def oD : Option Int → D
  | none => .non
  | some i => .int i
def tp (v : List Int) (a : Arc) : Int := v.getD a.1 0 - (if a.2.2 = true then 1 else 0)
theorem eqD_str {s : S} {a b : Str} (ha : okS a) (hb : okS b) : eqD s (.str a) (.str b) = some (decide (a = b)) := by
  rw [eq_of dat_str dat_str (Bool.and_eq_true_iff.mpr ⟨okS_iff.mpr ha, by simp [PyData.depth]⟩) (Bool.and_eq_true_iff.mpr ⟨okS_iff.mpr hb, by simp [PyData.depth]⟩)]
  simp only [PyData.eqv]
  congr 1
section
variable {s s' : S} {hs : List (Str × Nat)} {P : Pst} {X : Xc} {Q : D → S → Prop} {p m k r q : Nat} {l : List Rw} {pl : List D}
/-- a call of the program, seen from a function -/
structure Cl (hs : List (Str × Nat)) (l : List Rw) (y : Rw) : Prop where
  mem : y ∈ l
  src : y.src ∈ hs
  tgt : y.tgt ∈ hs
  arcs : ∀ a ∈ y.A, a.1 < y.src.2 ∧ a.2.1 < y.tgt.2
end
end P85
namespace P85
open PySem Fc P1
section
variable {s s' : S} {hs : List (Str × Nat)} {P : Pst} {X : Xc} {Q : D → S → Prop} {p m k r q : Nat} {l : List Rw} {pl : List D}
/-- a value that is no name of a call -/
def NoCall (s : S) (d : D) : Prop := isTy s d .str = some false ∨ ∃ x, d = .str x ∧ x ∉ nms
theorem NoCall.pf {d : D} (h : NoCall s d) (f : Pf s s') : NoCall s' d := by
  rcases h with h | h
  · exact .inl (isTy_pf h f)
  · exact .inr h
end
end P85
namespace P85
open PySem Fc P1
/-- what is drawn -/
structure Dr (s : S) (h e : Nat) (hs : List (Str × Nat)) (l : List Rw) : Prop where
  hh : s[h]? = some (.lst (hs.map hD))
  he : s[e]? = some (.lst (l.map rwD))
  hok : ∀ i x, hs[i]? = some x → HOk i x
  hl : hs.length ≤ 5
  rows : ∀ q ∈ l, RwOk s hs q
  nm : l.map (·.nm) = nms.take l.length
  ll : l.length ≤ 9
theorem gen_ne {s : S} {g B n : Nat} {ds : List D} (hg : Gen s g B) (h : s[n]? = some (.lst ds)) (hd : ∀ d ∈ ds, ∀ i, d ≠ .int i) : n ≠ g := fun z => by
  obtain ⟨a, b, c, e, _⟩ := hg
  rw [z, e] at h
  cases h
  exact hd (.int a) (by simp) a rfl
section
variable {s s' : S} {hs : List (Str × Nat)} {P : Pst} {R : C} {X : Xc} {Q : D → S → Prop} {h e g B : Nat} {l : List Rw}
theorem Dr.pf (d : Dr s h e hs l) (f : Pf s s') : Dr s' h e hs l := ⟨f _ _ d.hh, f _ _ d.he, d.hok, d.hl, fun q hq => (d.rows q hq).mono fun o e => f _ _ e, d.nm, d.ll⟩
theorem Dr.fr (d : Dr s h e hs l) (hg : Gen s g B) (f : Fr g s s') : Dr s' h e hs l := by
  have n1 := gen_ne hg d.hh (fun d hd i z => by obtain ⟨x, _, rfl⟩ := List.mem_map.mp hd; cases z)
  have n2 := gen_ne hg d.he (fun d hd i z => by obtain ⟨x, _, rfl⟩ := List.mem_map.mp hd; cases z)
  refine ⟨f.2 _ n1 _ d.hh, f.2 _ n2 _ d.he, d.hok, d.hl, fun q hq => (d.rows q hq).mono fun o e => f.2 _ ?_ _ e, d.nm, d.ll⟩
  exact gen_ne hg (d.rows q hq).at_ (fun d hd i z => by obtain ⟨x, _, rfl⟩ := List.mem_map.mp hd; cases z)
theorem Dr.nd (d : Dr s h e hs l) : (hs.map (·.1)).Nodup := heads_nodup d.hok d.hl
theorem Dr.hle (d : Dr s h e hs l) : Hl hs := hl_of d.hok d.hl
theorem Dr.nl (d : Dr s h e hs l) : (l.map (·.nm)).Nodup := by
  rw [d.nm]
  exact List.Pairwise.sublist (List.take_sublist ..) nms_nodup
theorem Dr.cl (d : Dr s h e hs l) : ∀ y ∈ l, Cl hs l y := fun y hy => ⟨hy, (d.rows y hy).src, (d.rows y hy).tgt, (d.rows y hy).arcs⟩
theorem Dr.hn (d : Dr s h e hs l) : ∀ x ∈ hs, NameOk x.1 ∧ x.2 < 4 := fun x hx => by
  obtain ⟨i, hi, e⟩ := List.mem_iff_getElem.mp hx
  have k := d.hok i x (by rw [← e]; exact List.getElem?_eq_getElem hi)
  exact ⟨k.name, k.2.2.2.1⟩
end
end P85
namespace P85
open PySem Fc P1
section
variable {s s' : S} {hs : List (Str × Nat)} {P : Pst} {R : C} {X : Xc} {Q : D → S → Prop} {h e g B : Nat} {l : List Rw}
theorem dats_ints {n : Nat} : ∀ v : List Int, dats s n (v.map .int) = some (v.map .int)
  | [] => by simp
  | a :: v => dats_cons dat_int (dats_ints v)
end
end P85
namespace PW
open PySem Fc P1 P85
noncomputable section
def b_law_purse : C :=
 (cSeq (cSet (eN fSum (lCons (eCutR (eVar 0) (pYes (eVar 1)) (pYes (e2 oAdd (eVar 1) (eC (.int 1))))) lNil)) (gName 2))
 (cRet (eN mLst (lCons (e2 oMod (eN fMax (lCons (e2 oSub (eVar 2) (e2 oPow (eC (.int 10)) (eC (.int 18)))) (lCons (eC (.int 0)) lNil))) (e2 oPow (e2 oPow (eC (.int 10)) (eC (.int 60))) (eC (.int 10)))) (lCons (e2 oMod (eVar 2) (eC (.int 2147483647))) (lCons (e2 oMul (eC (.int 1000)) (eVar 1)) lNil))))))
def d_law_purse : F := defF 2 3 b_law_purse
def b_law_mixed : C :=
 (cSeq (cSet (e2 oMod (e2 oAdd (e2 oAdd (e2 oAdd (e2 oMul (eVar 0) (eC (.int 1103515245))) (e2 oMul (e2 oMul (eC (.int 7919)) (eVar 1)) (eVar 1))) (eVar 1)) (eC (.int 1))) (eC (.int 2147483647))) (gName 2))
 (cSeq (cSet (e2 oMod (e2 oAdd (e2 oMul (eVar 2) (eVar 2)) (eC (.int 69621))) (eC (.int 2147483629))) (gName 2))
 (cRet (e2 oMod (e2 oMul (eVar 2) (eC (.int 48271))) (eC (.int 2147483587))))))
def d_law_mixed : F := defF 2 3 b_law_mixed
def b_law_draw : C :=
 (cSeq (cIf (tB (e2 oGt (e2 oAt (eVar 0) (eC (.int 0))) (eC (.int 0))))
 (cSeq (cSet (e2 oMod (e2 oAt (eVar 0) (eC (.int 0))) (eVar 1)) (gName 2))
 (cSeq (cSub (eVar 0) (eC (.int 0)) (e2 oDiv (e2 oAt (eVar 0) (eC (.int 0))) (eVar 1)))
 (cRet (eVar 2))))
 cNil)
 (cSeq (cSet (eC (.int 0)) (gName 3))
 (cSeq (cFor (iRange (eC (.int 0)) (e2 oAdd (eC (.int 1)) (e2 oDiv (e1 oBitLen (eVar 1)) (eC (.int 30))))) (gName 4)
 (cSeq (cSub (eVar 0) (eC (.int 2)) (e2 oAdd (e2 oAt (eVar 0) (eC (.int 2))) (eC (.int 1))))
 (cSet (e2 oAdd (e2 oMul (eVar 3) (eC (.int 2147483587))) (eCall d_law_mixed [] (lCons (e2 oAt (eVar 0) (eC (.int 1))) (lCons (e2 oAt (eVar 0) (eC (.int 2))) lNil)))) (gName 3))))
 (cRet (e2 oMod (eVar 3) (eVar 1))))))
def d_law_draw : F := defF 2 5 b_law_draw
def b_law_arcs_drawn : C :=
 (cSeq (cPar 3 4 (lCons (eN mLst lNil) (lCons (e2 oAdd (eC (.int 3)) (eCall d_law_draw [] (lCons (eVar 0) (lCons (eC (.int 3)) lNil)))) lNil)))
 (cSeq (cFor (iRange (eC (.int 0)) (eVar 1)) (gName 5)
 (cFor (iRange (eC (.int 0)) (eVar 2)) (gName 6)
 (cSeq (cSet (eCall d_law_draw [] (lCons (eVar 0) (lCons (eVar 4) lNil))) (gName 7))
 (cIf (tB (e2 oLt (eVar 7) (eC (.int 2))))
 (cExpr (eM mAppend (eVar 3) (lCons (eN mTup (lCons (eVar 5) (lCons (eVar 6) (lCons (e2 oEq (eVar 7) (eC (.int 1))) lNil)))) lNil)))
 cNil))))
 (cSeq (cIf (tAnd (tB (e2 oNe (eVar 3) (eN mLst lNil))) (tB (e2 oEq (eCall d_law_draw [] (lCons (eVar 0) (lCons (eC (.int 4)) lNil))) (eC (.int 0)))))
 (cExpr (eM mAppend (eVar 3) (lCons (eN mTup (lCons (e2 oAt (e2 oAt (eVar 3) (eC (.int 0))) (eC (.int 0))) (lCons (e2 oAt (e2 oAt (eVar 3) (eC (.int 0))) (eC (.int 1))) (lCons (eNotT (tE (e2 oAt (e2 oAt (eVar 3) (eC (.int 0))) (eC (.int 2))))) lNil)))) lNil)))
 cNil)
 (cRet (eIf (tB (e2 oEq (eCall d_law_draw [] (lCons (eVar 0) (lCons (eC (.int 2)) lNil))) (eC (.int 0)))) (e1 oRevL (eVar 3)) (eVar 3))))))
def d_law_arcs_drawn : F := defF 3 8 b_law_arcs_drawn
def b_law_table : C :=
 (cSeq (cSet (eN (fun _ => mDT) lNil) (gName 1))
 (cSeq (cFor (iSrc .seq (e2 oAt (eVar 0) (eC (.int 3)))) (gTup 3 (gCons (gName 2) (gCons (gName 3) (gCons (gName 4) gNil))))
 (cSub (eVar 1) (eN mTup (lCons (eVar 2) (lCons (eVar 3) lNil))) (eOr (eGet2 (eVar 1) (eN mTup (lCons (eVar 2) (lCons (eVar 3) lNil))) (eC (.bl false))) (eVar 4))))
 (cRet (eN mTup (lCons (e2 oAt (eVar 0) (eC (.int 1))) (lCons (e2 oAt (eVar 0) (eC (.int 2))) (lCons (eN fTuple (lCons (eLc [2, 3] (iSrc .seq (eN fSortedT (lCons (eVar 1) lNil))) (gTup 2 (gCons (gName 2) (gCons (gName 3) gNil))) tYes (eN mTup (lCons (eVar 2) (lCons (eVar 3) (lCons (e2 oAt (eVar 1) (eN mTup (lCons (eVar 2) (lCons (eVar 3) lNil)))) lNil))))) lNil)) lNil)))))))
def d_law_table : F := defF 1 5 b_law_table
def b_law_joined : C :=
 (cSeq (cSet (eN (fun _ => mDT) lNil) (gName 2))
 (cSeq (cFor (iSrc .seq (e2 oAt (eVar 0) (eC (.int 2)))) (gTup 3 (gCons (gName 3) (gCons (gName 4) (gCons (gName 5) gNil))))
 (cFor (iSrc .seq (e2 oAt (eVar 1) (eC (.int 2)))) (gTup 3 (gCons (gName 6) (gCons (gName 7) (gCons (gName 8) gNil))))
 (cIf (tB (e2 oEq (eVar 6) (eVar 4)))
 (cSub (eVar 2) (eN mTup (lCons (eVar 3) (lCons (eVar 7) lNil))) (eOr (eGet2 (eVar 2) (eN mTup (lCons (eVar 3) (lCons (eVar 7) lNil))) (eC (.bl false))) (eOr (eVar 5) (eVar 8))))
 cNil)))
 (cRet (eN mTup (lCons (e2 oAt (eVar 0) (eC (.int 0))) (lCons (e2 oAt (eVar 1) (eC (.int 1))) (lCons (eN fTuple (lCons (eLc [3, 7] (iSrc .seq (eN fSortedT (lCons (eVar 2) lNil))) (gTup 2 (gCons (gName 3) (gCons (gName 7) gNil))) tYes (eN mTup (lCons (eVar 3) (lCons (eVar 7) (lCons (e2 oAt (eVar 2) (eN mTup (lCons (eVar 3) (lCons (eVar 7) lNil)))) lNil))))) lNil)) lNil)))))))
def d_law_joined : F := defF 2 9 b_law_joined
def b_law_few_tables : C :=
 (cSeq (cSet (eLc [3] (iSrc .seq (eVar 0)) (gName 3) tYes (eCall d_law_table [] (lCons (eVar 3) lNil))) (gName 2))
 (cSeq (cPar 4 5 (lCons (eN (fun _ => mDN) lNil) (lCons (eN fList (lCons (eVar 2) lNil)) lNil)))
 (cSeq (cWhile (tB (e2 oNe (eVar 5) (eN mLst lNil)))
 (cSeq (cSet (eM mPop (eVar 5) lNil) (gName 6))
 (cIf (tB (e2 oNotInN (eVar 6) (eVar 4)))
 (cSeq (cSubN (eVar 4) (eVar 6) (eC (.bl true)))
 (cSeq (cIf (tB (e2 oGt (eN fLenN (lCons (eVar 4) lNil)) (eVar 1)))
 (cRet (eC (.bl false)))
 cNil)
 (cFor (iSrc .seq (eVar 2)) (gName 7)
 (cIf (tB (e2 oEq (e2 oAt (eVar 7) (eC (.int 0))) (e2 oAt (eVar 6) (eC (.int 1)))))
 (cExpr (eM mAppend (eVar 5) (lCons (eCall d_law_joined [] (lCons (eVar 6) (lCons (eVar 7) lNil))) lNil)))
 cNil))))
 cNil)))
 (cRet (eC (.bl true))))))
def d_law_few_tables : F := defF 2 8 b_law_few_tables
def b_law_parts : C :=
 (cSeq (cPar 4 5 (lCons (eN mLst lNil) (lCons (eN mLst lNil) lNil)))
 (cSeq (cFor (iRange (eC (.int 0)) (e2 oAdd (eC (.int 1)) (eCall d_law_draw [] (lCons (eVar 0) (lCons (eVar 1) lNil))))) (gName 6)
 (cExpr (eM mAppend (eVar 4) (lCons (eN mTup (lCons (e2 oAt (eN mLst (lCons (eC (.str "g")) (lCons (eC (.str "f")) (lCons (eC (.str "gf")) (lCons (eC (.str "h")) (lCons (eC (.str "ff")) lNil)))))) (eVar 6)) (lCons (eCall d_law_draw [] (lCons (eVar 0) (lCons (e2 oAdd (eVar 3) (eC (.int 1))) lNil))) lNil))) lNil))))
 (cSeq (cFor (iRange (eC (.int 0)) (eCall d_law_draw [] (lCons (eVar 0) (lCons (e2 oAdd (eVar 2) (eC (.int 1))) lNil)))) (gName 6)
 (cSeq (cPar 7 8 (lCons (e2 oAt (eVar 4) (eCall d_law_draw [] (lCons (eVar 0) (lCons (eN fLen (lCons (eVar 4) lNil)) lNil)))) (lCons (e2 oAt (eVar 4) (eCall d_law_draw [] (lCons (eVar 0) (lCons (eN fLen (lCons (eVar 4) lNil)) lNil)))) lNil)))
 (cSeq (cSet (e2 oAt (eN mLst (lCons (eC (.str "c")) (lCons (eC (.str "f")) (lCons (eC (.str "ca")) (lCons (eC (.str "g")) (lCons (eC (.str "b")) (lCons (eC (.str "ba")) (lCons (eC (.str "k")) (lCons (eC (.str "h")) (lCons (eC (.str "z")) (lCons (eC (.str "y")) lNil))))))))))) (eVar 6)) (gName 9))
 (cExpr (eM mAppend (eVar 5) (lCons (eN mTup (lCons (eVar 9) (lCons (e2 oAt (eVar 7) (eC (.int 0))) (lCons (e2 oAt (eVar 8) (eC (.int 0))) (lCons (eCall d_law_arcs_drawn [] (lCons (eVar 0) (lCons (e2 oAt (eVar 7) (eC (.int 1))) (lCons (e2 oAt (eVar 8) (eC (.int 1))) lNil)))) lNil))))) lNil))))))
 (cSeq (cWhile (tNot (tE (eCall d_law_few_tables [] (lCons (eVar 5) (lCons (eC (.int 400)) lNil)))))
 (cSet (eCut (eVar 5) pNo (pYes (e1 oNeg (eC (.int 1))))) (gName 5)))
 (cRet (eN mTup (lCons (eVar 4) (lCons (eVar 5) lNil))))))))
def d_law_parts : F := defF 4 10 b_law_parts
def b_law_written : C :=
 (cSeq (cSet (eN mLst lNil) (gName 2))
 (cSeq (cFor (iSrc .seq (eVar 0)) (gTup 2 (gCons (gName 3) (gCons (gName 4) gNil)))
 (cExpr (eM mAppend (eVar 2) (lCons (e2 oAdd (e2 oAdd (e2 oAdd (eC (.str "fun ")) (eVar 3)) (eC (.str " "))) (eN fStr (lCons (eVar 4) lNil))) lNil))))
 (cSeq (cFor (iSrc .seq (eVar 1)) (gTup 4 (gCons (gName 3) (gCons (gName 5) (gCons (gName 6) (gCons (gName 7) gNil)))))
 (cSeq (cSet (eLc [9, 10, 11] (iSrc .seq (eVar 7)) (gTup 3 (gCons (gName 9) (gCons (gName 10) (gCons (gName 11) gNil)))) tYes (e2 oAdd (e2 oAdd (eN fStr (lCons (eVar 9) lNil)) (e2 oAt (eN mLst (lCons (eC (.str " >= ")) (lCons (eC (.str " > ")) lNil))) (eN fInt (lCons (eVar 11) lNil)))) (eN fStr (lCons (eVar 10) lNil)))) (gName 8))
 (cSeq (cSet (e2 oAdd (e2 oAdd (e2 oAdd (e2 oAdd (e2 oAdd (eC (.str "call ")) (eVar 3)) (eC (.str " "))) (eVar 5)) (eC (.str " "))) (eVar 6)) (gName 12))
 (cExpr (eM mAppend (eVar 2) (lCons (e2 oAdd (e2 oAdd (e2 oAdd (eVar 12) (eC (.str " ["))) (eJoin (eC (.str ", ")) (eVar 8))) (eC (.str "]"))) lNil))))))
 (cRet (eJoin (eC (.str "; ")) (eVar 2))))))
def d_law_written : F := defF 2 13 b_law_written
def b_arc_text : C :=
 (cRet (e2 oAdd (e2 oAdd (eN fStr (lCons (e2 oAt (eVar 0) (eC (.int 0))) lNil)) (e2 oAt (eN mLst (lCons (eC (.str " >= ")) (lCons (eC (.str " > ")) lNil))) (eN fInt (lCons (e2 oAt (eVar 0) (eC (.int 2))) lNil)))) (eN fStr (lCons (e2 oAt (eVar 0) (eC (.int 1))) lNil))))
def d_arc_text : F := defF 1 1 b_arc_text
def b_text_of : C :=
 (cSeq (cExpr (eCall d_check_program [] (lCons (eVar 0) lNil)))
 (cSeq (cSet (eLc [2, 3] (iSrc .items (e1 (oFld "many") (eVar 0))) (gTup 2 (gCons (gName 2) (gCons (gName 3) gNil))) tYes (e2 oAdd (e2 oAdd (e2 oAdd (eC (.str "fun ")) (eVar 2)) (eC (.str " "))) (eN fStr (lCons (eVar 3) lNil)))) (gName 1))
 (cSeq (cFor (iSrc .items (e1 (oFld "known") (eVar 0))) (gTup 2 (gCons (gName 2) (gCons (gTup 3 (gCons (gName 4) (gCons (gName 5) (gCons (gName 6) gNil)))) gNil)))
 (cSeq (cSet (eJoin (eC (.str ", ")) (eLc [8] (iSrc .seq (eVar 6)) (gName 8) tYes (eCall d_arc_text [] (lCons (eVar 8) lNil)))) (gName 7))
 (cExpr (eM mAppend (eVar 1) (lCons (e2 oAdd (e2 oAdd (e2 oAdd (e2 oAdd (e2 oAdd (e2 oAdd (e2 oAdd (e2 oAdd (eC (.str "call ")) (eVar 2)) (eC (.str " "))) (eVar 4)) (eC (.str " "))) (eVar 5)) (eC (.str " ["))) (eVar 7)) (eC (.str "]"))) lNil)))))
 (cRet (eJoin (eC (.str "; ")) (eVar 1))))))
def d_text_of : F := defF 1 9 b_text_of
def b_Program_calls : C :=
 (cRet (eLc [1, 2, 3, 4] (iSrc .items (e1 (oFld "known") (eVar 0))) (gTup 2 (gCons (gName 1) (gCons (gTup 3 (gCons (gName 2) (gCons (gName 3) (gCons (gName 4) gNil)))) gNil))) tYes (eN mTup (lCons (eVar 1) (lCons (eVar 2) (lCons (eVar 3) (lCons (eN fList (lCons (eVar 4) lNil)) lNil)))))))
def d_Program_calls : F := defF 1 5 b_Program_calls
def b_Program_functions : C :=
 (cRet (e1 fListIt (e1 (oFld "many") (eVar 0))))
def d_Program_functions : F := defF 1 1 b_Program_functions
def b_Program_without : C :=
 (cSeq (cExpr (eCall d_check_list [] (lCons (eVar 1) lNil)))
 (cSeq (cFor (iSrc .seq (eVar 1)) (gName 2)
 (cExpr (eCall d_check_call_name [] (lCons (eVar 0) (lCons (eVar 2) lNil)))))
 (cRet (eMake "Program" d_Program_init [] (lCons (eMeth "Program" "functions" d_Program_functions [] (eVar 0) lNil) (lCons (eLc [3] (iSrc .seq (eMeth "Program" "calls" d_Program_calls [] (eVar 0) lNil)) (gName 3) (tB (e2 oNotIn (e2 oAt (eVar 3) (eC (.int 0))) (eVar 1))) (eVar 3)) lNil))))))
def d_Program_without : F := defF 2 4 b_Program_without
def b_Program_added : C :=
 (cSeq (cExpr (eCall d_check_list [] (lCons (eVar 1) lNil)))
 (cRet (eMake "Program" d_Program_init [] (lCons (eMeth "Program" "functions" d_Program_functions [] (eVar 0) lNil) (lCons (e2 oAdd (eMeth "Program" "calls" d_Program_calls [] (eVar 0) lNil) (eVar 1)) lNil)))))
def d_Program_added : F := defF 2 2 b_Program_added
def b_law : C :=
 (cSeq (cFor (iRange (eC (.int 0)) (eC (.int 4))) (gName 1)
 (cSeq (cSet (eCall d_law_purse [] (lCons (eVar 0) (lCons (eVar 1) lNil))) (gName 2))
 (cSeq (cSet (eCall d_law_parts [] (lCons (eVar 2) (lCons (eC (.int 5)) (lCons (eC (.int 10)) (lCons (eC (.int 3)) lNil))))) (gTup 2 (gCons (gName 3) (gCons (gName 4) gNil))))
 (cSeq (cSet (eCall d_law_draw [] (lCons (eVar 2) (lCons (eC (.int 3)) lNil))) (gName 5))
 (cSeq (cSet (eN mLst lNil) (gName 6))
 (cSeq (cFor (iSrc .seq (eVar 4)) (gTup 4 (gCons (gName 7) (gCons (gName 8) (gCons (gName 9) (gCons (gName 10) gNil)))))
 (cExpr (eM mAppend (eVar 6) (lCons (eN mTup (lCons (eVar 7) (lCons (eVar 8) (lCons (eVar 9) (lCons (e2 oAdd (e1 oRevL (eVar 10)) (eCut (eVar 10) pNo (pYes (eVar 5)))) lNil))))) lNil))))
 (cSeq (cSet (eVar 6) (gName 4))
 (cSeq (cSet (e1 oRevL (eVar 3)) (gName 3))
 (cSeq (cSet (eMake "Program" d_Program_init [] (lCons (eVar 3) (lCons (eVar 4) lNil))) (gName 11))
 (cSeq (cSet (eCall d_law_written [] (lCons (eVar 3) (lCons (eVar 4) lNil))) (gName 12))
 (cSeq (cIf (tOr (tB (e2 oNe (eN mLst (lCons (eCall d_text_of [] (lCons (eVar 11) lNil)) (lCons (eCall d_text_of [] (lCons (eVar 11) lNil)) lNil))) (eN mLst (lCons (eVar 12) (lCons (eVar 12) lNil))))) (tB (e2 oNe (eMeth "Program" "calls" d_Program_calls [] (eVar 11) lNil) (eVar 4))))
 (cRet (eC (.bl false)))
 cNil)
 (cSeq (cIf (tB (e2 oNe (eCall d_text_of [] (lCons (eMake "Program" d_Program_init [] (lCons (eVar 3) (lCons (eN mLst lNil) lNil))) lNil)) (eCall d_law_written [] (lCons (eVar 3) (lCons (eN mLst lNil) lNil)))))
 (cRet (eC (.bl false)))
 cNil)
 (cIf (tB (e2 oNe (eVar 4) (eN mLst lNil)))
 (cSeq (cSet (eCall d_law_draw [] (lCons (eVar 2) (lCons (eN fLen (lCons (eVar 4) lNil)) lNil))) (gName 13))
 (cSeq (cSet (e2 oAdd (eCut (eVar 4) pNo (pYes (eVar 13))) (eCut (eVar 4) (pYes (e2 oAdd (eVar 13) (eC (.int 1)))) pNo)) (gName 14))
 (cSeq (cSet (e2 oAdd (eCut (e2 oAt (eVar 4) (eVar 13)) pNo (pYes (eC (.int 3)))) (eN mTup (lCons (eCut (e2 oAt (e2 oAt (eVar 4) (eVar 13)) (eC (.int 3))) (pYes (eC (.int 1))) pNo) lNil))) (gName 5))
 (cSeq (cSet (eMeth "Program" "without" d_Program_without [] (eVar 11) (lCons (eN mLst (lCons (e2 oAt (e2 oAt (eVar 4) (eVar 13)) (eC (.int 0))) lNil)) lNil)) (gName 15))
 (cSeq (cIf (tB (e2 oNe (eCall d_text_of [] (lCons (eVar 15) lNil)) (eCall d_law_written [] (lCons (eVar 3) (lCons (eVar 14) lNil)))))
 (cRet (eC (.bl false)))
 cNil)
 (cSeq (cIf (tB (e2 oNe (eCall d_text_of [] (lCons (eMeth "Program" "added" d_Program_added [] (eVar 15) (lCons (eN mLst (lCons (eVar 5) lNil)) lNil)) lNil)) (eCall d_law_written [] (lCons (eVar 3) (lCons (e2 oAdd (eVar 14) (eN mLst (lCons (eVar 5) lNil))) lNil)))))
 (cRet (eC (.bl false)))
 cNil)
 (cIf (tB (e2 oNe (eCall d_text_of [] (lCons (eVar 11) lNil)) (eVar 12)))
 (cRet (eC (.bl false)))
 cNil)))))))
 cNil)))))))))))))
 (cSeq (cFor (iSrc .seq (eN mLst (lCons (eC .non) (lCons (eC (.int 3)) (lCons (eC (.str "fun f 1")) (lCons (eN mLst lNil) (lCons (eN (fun _ => mDK) lNil) (lCons (eC (.bl true)) (lCons (eN mTup (lCons (eC (.int 1)) (lCons (eN mLst lNil) lNil))) lNil))))))))) (gName 16)
 (cSeq (cSet (eC .non) (gName 17))
 (cSeq (cTryE ["CallsError", "InvalidList", "InvalidFunction", "InvalidCall", "InvalidProgram", "UnknownName"] 18 17
 (cExpr (eCall d_text_of [] (lCons (eVar 16) lNil))))
 (cSeq (cIf (tE (e1 (oIs .list) (eVar 16)))
 (cExpr (eM mAppend (eVar 16) (lCons (eC (.str "more")) lNil)))
 cNil)
 (cIf (tOr (tNot (tE (e1 (oIsJ ["InvalidProgram"]) (eVar 17)))) (tB (e2 oNe (eN fReprR (lCons (e1 (oFld "value") (eVar 17)) lNil)) (eN fReprR (lCons (eVar 16) lNil)))))
 (cRet (eC (.bl false)))
 cNil)))))
 (cRet (eAnd (e2 oEq (eCall d_text_of [] (lCons (eMake "Program" d_Program_init [] (lCons (eN mLst lNil) (lCons (eN mLst lNil) lNil))) lNil)) (eC (.str ""))) (e2 oEq (eCall d_text_of [] (lCons (eMake "Program" d_Program_init [] (lCons (eN mLst (lCons (eN mTup (lCons (eC (.str "fun")) (lCons (eC (.int 0)) lNil))) lNil)) (lCons (eN mLst lNil) lNil))) lNil)) (eC (.str "fun fun 0")))))))
def d_law : F := defF 1 19 b_law
end
end PW
namespace PW
open PySem Fc P1 P85
end PW
namespace PW
open PySem Fc P1 P85
def mOf (A : List Arc) : Mt := foldG (fun _ _ => 0) A
end PW
namespace Fc
open PySem
end Fc
namespace PW
open PySem Fc P1 P85
/-- keys of lists of arcs -/
theorem nk_arcs : ∀ A : List Arc, ∃ ks, nkeys (A.map aD) = some ks ∧ NestedKey.depthAll ks ≤ 1
  | [] => ⟨[], rfl, by simp [NestedKey.depthAll]⟩
  | a :: A => by
    obtain ⟨ks, h1, h2⟩ := nk_arcs A
    refine ⟨.tup [.num a.1, .num a.2.1, .num (if a.2.2 = true then 1 else 0)] :: ks, ?_, ?_⟩
    · simp [nkeys, nkey, aD, h1]
    · simp only [NestedKey.depthAll, NestedKey.depth]
      omega
structure RowsOk (s : S) (hs : List (Str × Nat)) (l : List Rw) : Prop where
  rows : ∀ r ∈ l, RwOk s hs r
  hn : ∀ x ∈ hs, Ltr x.1 ∧ x.2 < 4
  len : l.length ≤ 20
theorem RowsOk.pf {s s' : S} {hs : List (Str × Nat)} {l : List Rw} (k : RowsOk s hs l) (p : Pf s s') : RowsOk s' hs l := ⟨fun r hr => (k.rows r hr).mono fun o e => p _ _ e, k.hn, k.len⟩
end PW
namespace PW
open PySem Fc P1 P85
def fnm : List Str := ["g", "f", "gf", "h", "ff"]
def cnm : List Str := ["c", "f", "ca", "g", "b", "ba", "k", "h", "z", "y"]
theorem nm_ok : ∀ x ∈ fnm ++ cnm, Ltr x ∧ 1 ≤ x.length ∧ x.length ≤ 12 := by
  have h : ∀ x ∈ fnm ++ cnm, (x.cps.toList.all fun c => decide (97 ≤ c) && decide (c < 123)) = true ∧ 1 ≤ x.length ∧ x.length ≤ 12 := by decide +kernel
  intro x hx
  obtain ⟨h1, h2⟩ := h x hx
  refine ⟨fun c hc => ?_, h2⟩
  have := List.all_eq_true.mp h1 c hc
  simpa using this
theorem fnm_nodup : fnm.Nodup := by decide +kernel
theorem cnm_nodup : cnm.Nodup := by decide +kernel
theorem nameOk_of {x : Str} (h : Ltr x ∧ 1 ≤ x.length ∧ x.length ≤ 12) : NameOk x := ⟨h.2.1, h.2.2, h.1.occ⟩
/-- in the midst of the drawing -/
structure Sd (s0 : S) (g B h e : Nat) (hs : List (Str × Nat)) (l : List Rw) (s' : S) : Prop where
  lg : g < s0.length
  lh : s0.length ≤ h
  le : s0.length ≤ e
  ne : h ≠ e
  hh : s'[h]? = some (.lst (hs.map hD))
  he : s'[e]? = some (.lst (l.map rwD))
  fr : Fr g s0 s'
  gen : Gen s' g B
  rows : ∀ q ∈ l, RwOk s' hs q ∧ q.a ≠ e ∧ q.a ≠ h ∧ s0.length ≤ q.a ∧ q.A.length ≤ 10
theorem Sd.go {s0 s' s2 : S} {g B B' h e : Nat} {hs : List (Str × Nat)} {l : List Rw} (d : Sd s0 g B h e hs l s') (f : Fr g s' s2) (k : Gen s2 g B') : Sd s0 g B' h e hs l s2 := by
  have := d.lg; have := d.lh; have := d.le
  refine ⟨d.lg, d.lh, d.le, d.ne, f.2 _ (by omega) _ d.hh, f.2 _ (by omega) _ d.he, d.fr.trans f, k, fun q hq => ?_⟩
  obtain ⟨k1, k2, k3, k4, k5⟩ := d.rows q hq
  exact ⟨k1.mono fun o e => f.2 _ (by omega) _ e, k2, k3, k4, k5⟩
theorem Sd.pf {s0 s' s2 : S} {g B h e : Nat} {hs : List (Str × Nat)} {l : List Rw} (d : Sd s0 g B h e hs l s') (f : Pf s' s2) : Sd s0 g B h e hs l s2 := d.go f.fr (f.gen d.gen)
theorem Sd.mono {s0 s' : S} {g B B' h e : Nat} {hs : List (Str × Nat)} {l : List Rw} (d : Sd s0 g B h e hs l s') (f : B' ≤ B) : Sd s0 g B' h e hs l s' := d.go Fr.refl (d.gen.mono f)
theorem gen_set {s : S} {g B n : Nat} {o : O} (h : Gen s g B) (hn : n ≠ g) : Gen (s.set n o) g B := by
  obtain ⟨a, b, c, e, r⟩ := h
  exact ⟨a, b, c, by rw [set_ne hn]; exact e, r⟩
theorem fr_set {s0 s : S} {g n : Nat} {o : O} (h : Fr g s0 s) (hn : s0.length ≤ n) : Fr g s0 (s.set n o) := by
  refine ⟨by simpa using h.1, fun m hm o' e => ?_⟩
  have := lt_of_get e
  rw [set_ne (by omega)]
  exact h.2 m hm o' e
theorem Sd.put {s0 s' : S} {g B h e : Nat} {hs : List (Str × Nat)} {l : List Rw} {r : Rw} (d : Sd s0 g B h e hs l s') (hr : RwOk s' hs r ∧ r.a ≠ e ∧ r.a ≠ h ∧ s0.length ≤ r.a ∧ r.A.length ≤ 10) : Sd s0 g B h e hs (l ++ [r]) (s'.set e (.lst (l.map rwD ++ [rwD r]))) := by
  have := d.lg; have := d.lh; have := d.le; have hne := d.ne
  refine ⟨d.lg, d.lh, d.le, d.ne, ?_, ?_, fr_set d.fr d.le, gen_set d.gen (by omega), fun q hq => ?_⟩
  · rw [set_ne (Ne.symm hne)]; exact d.hh
  · rw [set_get (lt_of_get d.he)]; simp
  · rcases List.mem_append.mp hq with hq | hq
    · obtain ⟨k1, k2⟩ := d.rows q hq
      exact ⟨k1.mono fun o e => by rw [set_ne (Ne.symm k2.1)]; exact e, k2⟩
    · simp only [List.mem_cons, List.not_mem_nil, or_false] at hq
      subst hq
      exact ⟨hr.1.mono fun o e => by rw [set_ne (Ne.symm hr.2.1)]; exact e, hr.2⟩
/-- what is drawn -/
structure Pt (s0 : S) (g B h e most ct mt : Nat) (hs : List (Str × Nat)) (l : List Rw) (s' : S) : Prop where
  sd : Sd s0 g B h e hs l s'
  hn : hs.map (·.1) = fnm.take hs.length
  hl : 1 ≤ hs.length ∧ hs.length ≤ most
  hk : ∀ x ∈ hs, x.2 ≤ mt
  ln : l.map (·.nm) = cnm.take l.length
  ll : l.length ≤ ct
theorem mem_take_of {α : Type} {ns : List α} {k : Nat} {f : β → α} {l : List β} (h : l.map f = ns.take k) {x : β} (hx : x ∈ l) : f x ∈ ns := by
  have : f x ∈ l.map f := List.mem_map.mpr ⟨x, hx, rfl⟩
  rw [h] at this
  exact List.mem_of_mem_take this
end PW
namespace PW
open PySem Fc P1 P85
def dg (n : Nat) : Str := ((toString (n : Int) : String) : Str)
theorem dg_len {n : Nat} (h : n < 4) : (dg n).length = 1 := by
  match n, h with
  | 0, _ => decide +kernel
  | 1, _ => decide +kernel
  | 2, _ => decide +kernel
  | 3, _ => decide +kernel
theorem dg_ok (n : Nat) : okS (dg n) := okS_of
def rel (b : Bool) : Str := if b then " > " else " >= "
def arcT (a : Arc) : Str := dg a.1 ++ rel a.2.2 ++ dg a.2.1
theorem rel_len (b : Bool) : (rel b).length ≤ 4 := by cases b <;> decide +kernel
theorem arcT_len {a : Arc} (h1 : a.1 < 4) (h2 : a.2.1 < 4) : (arcT a).length ≤ 6 := by
  unfold arcT
  have := rel_len a.2.2
  rw [len_app, len_app, dg_len h1, dg_len h2]
  omega
theorem rel_ok (b : Bool) : okS (rel b) := by cases b <;> exact okS_of
theorem arcT_ok (a : Arc) : okS (arcT a) := okS_app (okS_app (dg_ok _) (rel_ok _)) (dg_ok _)
def innT (A : List Arc) : Str := Txt.join ", " (A.map arcT)
def funT (x : Str × Nat) : Str := "fun " ++ x.1 ++ " " ++ dg x.2
def headT (r : Rw) : Str := "call " ++ r.nm ++ " " ++ r.src.1 ++ " " ++ r.tgt.1
def callT (r : Rw) : Str := headT r ++ " [" ++ innT r.A ++ "]"
def wr (hs : List (Str × Nat)) (l : List Rw) : Str := Txt.join "; " (hs.map funT ++ l.map callT)
/-- what can be written -/
structure Wd (hs : List (Str × Nat)) (l : List Rw) : Prop where
  hn : ∀ x ∈ hs, Ltr x.1 ∧ x.1.length ≤ 12 ∧ x.2 < 4
  hl : hs.length ≤ 40
  ln : ∀ r ∈ l, Ltr r.nm ∧ r.nm.length ≤ 12 ∧ r.src ∈ hs ∧ r.tgt ∈ hs ∧ (∀ a ∈ r.A, a.1 < r.src.2 ∧ a.2.1 < r.tgt.2) ∧ r.A.length ≤ 40
  ll : l.length ≤ 40
theorem Wd.arcs {hs : List (Str × Nat)} {l : List Rw} (w : Wd hs l) {r : Rw} (hr : r ∈ l) : ∀ a ∈ r.A, a.1 < 4 ∧ a.2.1 < 4 := fun a ha => by
  obtain ⟨_, _, h1, h2, h3, _⟩ := w.ln r hr
  have := (w.hn _ h1).2.2
  have := (w.hn _ h2).2.2
  have := h3 a ha
  omega
theorem joinT_len {sep : Str} {ts : List Str} {B : Nat} (h : ∀ t ∈ ts, t.length ≤ B) : (Txt.join sep ts).length ≤ ts.length * (B + sep.length) := by
  rw [TL.join_eq]
  have h1 := StrLaws.join_length_le sep ts
  have h2 : (ts.map (·.length)).sum ≤ ts.length * B := by
    induction ts with
    | nil => simp
    | cons t ts ih =>
      have := ih (fun t ht => h t (List.mem_cons_of_mem _ ht)) (StrLaws.join_length_le sep ts)
      have := h t (List.mem_cons_self ..)
      simp only [List.map_cons, List.sum_cons, List.length_cons, Nat.succ_mul]
      omega
  rw [Nat.mul_add]
  omega
theorem okT_join {sep : Str} {ts : List Str} (hs : okS sep) (h : ∀ t ∈ ts, okS t) : okS (Txt.join sep ts) := by
  rw [TL.join_eq]
  exact okS_join hs h
theorem innT_len {A : List Arc} (h : ∀ a ∈ A, a.1 < 4 ∧ a.2.1 < 4) (hl : A.length ≤ 40) : (innT A).length ≤ 320 := by
  have := joinT_len (sep := ", ") (ts := A.map arcT) (B := 6) fun t ht => by
    obtain ⟨a, ha, rfl⟩ := List.mem_map.mp ht
    exact arcT_len (h a ha).1 (h a ha).2
  have e : (", " : Str).length = 2 := by decide +kernel
  rw [e, List.length_map] at this
  unfold innT
  omega
theorem l_call : ("call " : Str).length = 5 := by decide +kernel
theorem l_sp : (" " : Str).length = 1 := by decide +kernel
theorem l_op : (" [" : Str).length = 2 := by decide +kernel
theorem l_cl : ("]" : Str).length = 1 := by decide +kernel
theorem Wd.head {hs : List (Str × Nat)} {l : List Rw} (w : Wd hs l) {r : Rw} (hr : r ∈ l) : (headT r).length ≤ 50 := by
  obtain ⟨_, h0, h1, h2, _⟩ := w.ln r hr
  have := (w.hn _ h1).2.1
  have := (w.hn _ h2).2.1
  unfold headT
  rw [len_app, len_app, len_app, len_app, len_app, l_call, l_sp]
  omega
theorem Wd.call {hs : List (Str × Nat)} {l : List Rw} (w : Wd hs l) {r : Rw} (hr : r ∈ l) : (callT r).length ≤ 400 := by
  have h1 := w.head hr
  have h2 := innT_len (w.arcs hr) (w.ln r hr).2.2.2.2.2
  unfold callT
  rw [len_app, len_app, len_app, l_op, l_cl]
  omega
theorem Wd.ok {hs : List (Str × Nat)} {l : List Rw} (w : Wd hs l) : okS (wr hs l) := by
  refine okT_join okS_of fun t ht => ?_
  rcases List.mem_append.mp ht with ht | ht
  · obtain ⟨x, hx, rfl⟩ := List.mem_map.mp ht
    exact okS_app (okS_app (okS_app okS_of (w.hn x hx).1.okS) okS_of) (dg_ok _)
  · obtain ⟨r, hr, rfl⟩ := List.mem_map.mp ht
    obtain ⟨h0, _, h1, h2, _⟩ := w.ln r hr
    refine okS_app (okS_app (okS_app ?_ okS_of) (okT_join okS_of fun t ht => ?_)) okS_of
    · exact okS_app (okS_app (okS_app (okS_app (okS_app okS_of h0.okS) okS_of) (w.hn _ h1).1.okS) okS_of) (w.hn _ h2).1.okS
    · obtain ⟨a, _, rfl⟩ := List.mem_map.mp ht
      exact arcT_ok a
end PW
namespace PW
open PySem Fc P1 P85
section
variable {s : S} {p m k : Nat} {hs : List (Str × Nat)} {l : List Rw} {X : Xc} {Q : D → S → Prop}
end
end PW
namespace PW
open PySem Fc P1 P85
section
variable {s : S} {p m k : Nat} {hs : List (Str × Nat)} {l : List Rw} {X : Xc} {Q : D → S → Prop}
def ct (r : Rw) : Rw := { r with a := 0 }
theorem ct_ext {r r' : Rw} (h : ct r = ct r') : r.nm = r'.nm ∧ r.src = r'.src ∧ r.tgt = r'.tgt ∧ r.A = r'.A := by
  unfold ct at h
  simp only [Rw.mk.injEq] at h
  exact ⟨h.1, h.2.1, h.2.2.1, h.2.2.2.1⟩
def All2 {α β : Type} (R : α → β → Prop) : List α → List β → Prop
  | [], [] => True
  | a :: r, b :: t => R a b ∧ All2 R r t
  | _, _ => False
theorem All2.imp {α β : Type} {R R' : α → β → Prop} (k : ∀ a b, R a b → R' a b) : ∀ {l : List α} {m : List β}, All2 R l m → All2 R' l m
  | [], [], _ => trivial
  | _ :: _, _ :: _, h => ⟨k _ _ h.1, h.2.imp k⟩
  | [], _ :: _, h => h.elim
  | _ :: _, [], h => h.elim
theorem All2.snoc {α β : Type} {R : α → β → Prop} {a : α} {b : β} (z : R a b) : ∀ {l : List α} {m : List β}, All2 R l m → All2 R (l ++ [a]) (m ++ [b])
  | [], [], _ => ⟨z, trivial⟩
  | _ :: _, _ :: _, h => ⟨h.1, h.2.snoc z⟩
  | [], _ :: _, h => h.elim
  | _ :: _, [], h => h.elim
theorem All2.len {α β : Type} {R : α → β → Prop} : ∀ {l : List α} {m : List β}, All2 R l m → l.length = m.length
  | [], [], _ => rfl
  | _ :: _, _ :: _, h => by simp [h.2.len]
  | [], _ :: _, h => h.elim
  | _ :: _, [], h => h.elim
end
end PW
namespace PW
open PySem Fc P1 P85
/-- good lists of functions and calls -/
structure Gd (hs : List (Str × Nat)) (l : List Rw) : Prop where
  wd : Wd hs l
  n1 : ∀ x ∈ hs, 1 ≤ x.1.length
  m1 : ∀ r ∈ l, 1 ≤ r.nm.length
  nd : (hs.map (·.1)).Nodup
  nl : (l.map (·.nm)).Nodup
theorem map_ct {β : Type} {f : Rw → β} (hf : ∀ r, f (ct r) = f r) {l l' : List Rw} (h : l'.map ct = l.map ct) : l'.map f = l.map f := by
  have e : ∀ l : List Rw, l.map f = (l.map ct).map f := fun l => by
    rw [List.map_map]
    exact List.map_congr_left fun r _ => (hf r).symm
  rw [e, e l, h]
theorem ct_mem {l l' : List Rw} (h : l'.map ct = l.map ct) {r : Rw} (hr : r ∈ l') : ∃ q ∈ l, ct q = ct r := by
  have : ct r ∈ l'.map ct := List.mem_map.mpr ⟨r, hr, rfl⟩
  rw [h] at this
  obtain ⟨q, hq, e⟩ := List.mem_map.mp this
  exact ⟨q, hq, e⟩
theorem Gd.ct {hs : List (Str × Nat)} {l l' : List Rw} (g : Gd hs l) (h : l'.map PW.ct = l.map PW.ct) : Gd hs l' := by
  have hl : l'.length = l.length := by simpa using congrArg List.length h
  refine ⟨⟨g.wd.hn, g.wd.hl, fun r hr => ?_, by rw [hl]; exact g.wd.ll⟩, g.n1, fun r hr => ?_, g.nd, ?_⟩
  · obtain ⟨q, hq, e⟩ := ct_mem h hr
    obtain ⟨e1, e2, e3, e4⟩ := ct_ext e
    have := g.wd.ln q hq
    rw [e1, e2, e3, e4] at this
    exact this
  · obtain ⟨q, hq, e⟩ := ct_mem h hr
    rw [← (ct_ext e).1]
    exact g.m1 q hq
  · rw [map_ct (f := (·.nm)) (fun r => rfl) h]
    exact g.nl
theorem Gd.sub {hs : List (Str × Nat)} {l l' : List Rw} (g : Gd hs l) (h : l'.Sublist l) : Gd hs l' :=
  ⟨⟨g.wd.hn, g.wd.hl, fun r hr => g.wd.ln r (h.subset hr), by have := h.length_le; have := g.wd.ll; omega⟩, g.n1, fun r hr => g.m1 r (h.subset hr), g.nd, List.Pairwise.sublist (h.map _) g.nl⟩
/-- the lists of arcs of the rows -/
def Arcs (s : S) (l : List Rw) : Prop := ∀ r ∈ l, s[r.a]? = some (.lst (r.A.map aD))
theorem Arcs.pf {s s' : S} {l : List Rw} (h : Arcs s l) (p : Pf s s') : Arcs s' l := fun r hr => p _ _ (h r hr)
section
variable {s : S} {p m k : Nat} {hs : List (Str × Nat)} {l : List Rw} {X : Xc}
theorem Gd.row (g : Gd hs l) (ha : Arcs s l) : ∀ r ∈ l, RwOk s hs r := fun r hr => by
  obtain ⟨n1, n2, n3, n4, n5, n6⟩ := g.wd.ln r hr
  exact ⟨nameOk_of ⟨n1, g.m1 r hr, n2⟩, n3, n4, n5, by omega, ha r hr⟩
end
end PW
namespace PW
open PySem Fc P1 P85
section
variable {s : S} {p m k : Nat} {hs : List (Str × Nat)} {l : List Rw} {X : Xc}
end
end PW
namespace PW
open PySem Fc P1 P85
theorem Pt.gd {s0 s' : S} {g B h e most c mt : Nat} {hs : List (Str × Nat)} {l : List Rw} (p : Pt s0 g B h e most c mt hs l s') (h1 : most ≤ 5) (h2 : c ≤ 10) (h3 : mt ≤ 3) : Gd hs l := by
  have fn : ∀ x ∈ hs, Ltr x.1 ∧ 1 ≤ x.1.length ∧ x.1.length ≤ 12 := fun x hx => nm_ok _ (List.mem_append_left _ (mem_take_of p.hn hx))
  have cn : ∀ r ∈ l, Ltr r.nm ∧ 1 ≤ r.nm.length ∧ r.nm.length ≤ 12 := fun r hr => nm_ok _ (List.mem_append_right _ (mem_take_of p.ln hr))
  have := p.hl
  have := p.ll
  refine ⟨⟨fun x hx => ⟨(fn x hx).1, (fn x hx).2.2, by have := p.hk x hx; omega⟩, by omega, fun r hr => ?_, by omega⟩, fun x hx => (fn x hx).2.1, fun r hr => (cn r hr).2.1, ?_, ?_⟩
  · obtain ⟨k1, _, _, _, k5⟩ := p.sd.rows r hr
    exact ⟨(cn r hr).1, (cn r hr).2.2, k1.src, k1.tgt, k1.arcs, by omega⟩
  · rw [p.hn]; exact List.Pairwise.sublist (List.take_sublist ..) fnm_nodup
  · rw [p.ln]; exact List.Pairwise.sublist (List.take_sublist ..) cnm_nodup
section
variable {ns : List Int} {i : Nat} {s : S} {R : C} {P : Pst} {t2 t3 t4 t5 t6 t7 t8 t9 t10 t11 t12 t13 t14 t15 t16 t17 t18 : Option D}
end
end PW
namespace PW
open PySem Fc P1 P85
section
variable {s : S} {R : C} {P : Pst} {s0 c0 : D} {g F C B m k p : Nat} {hs : List (Str × Nat)} {l : List Rw} {t5 t6 t7 t8 t9 t10 t11 t12 t13 t14 t15 t16 t17 t18 : Option D}
/-- the lists of a program -/
structure Lp (s : S) (g B F C : Nat) (hs : List (Str × Nat)) (l : List Rw) : Prop where
  gen : Gen s g B
  hF : s[F]? = some (.lst (hs.map hD))
  hC : s[C]? = some (.lst (l.map rwD))
  ha : Arcs s l
  gd : Gd hs l
theorem Lp.pf {s' : S} (h : Lp s g B F C hs l) (q : Pf s s') : Lp s' g B F C hs l := ⟨q.gen h.gen, q _ _ h.hF, q _ _ h.hC, h.ha.pf q, h.gd⟩
theorem Lp.fr {s' : S} {B' : Nat} (h : Lp s g B F C hs l) (q : Fr g s s') (k : Gen s' g B') : Lp s' g B' F C hs l := by
  have n1 := gen_ne h.gen h.hF (fun d hd i z => by obtain ⟨x, _, rfl⟩ := List.mem_map.mp hd; cases z)
  have n2 := gen_ne h.gen h.hC (fun d hd i z => by obtain ⟨x, _, rfl⟩ := List.mem_map.mp hd; cases z)
  refine ⟨k, q.2 _ n1 _ h.hF, q.2 _ n2 _ h.hC, fun r hr => q.2 _ ?_ _ (h.ha r hr), h.gd⟩
  exact gen_ne h.gen (h.ha r hr) (fun d hd i z => by obtain ⟨x, _, rfl⟩ := List.mem_map.mp hd; cases z)
theorem gen_ne_ins {n : Nat} {c : Str} {fs : List (Str × D)} (hg : Gen s g B) (h : s[n]? = some (.ins c fs)) : n ≠ g := fun z => by
  obtain ⟨a, b, c, e, _⟩ := hg
  rw [z, e] at h
  cases h
theorem gen_ne_dk {n : Nat} {kvs : List (L2.Key × D)} (hg : Gen s g B) (h : s[n]? = some (.dK kvs)) : n ≠ g := fun z => by
  obtain ⟨a, b, c, e, _⟩ := hg
  rw [z, e] at h
  cases h
theorem PA.fr {s' : S} (h : PA s p m k hs l) (hg : Gen s g B) (q : Fr g s s') : PA s' p m k hs l :=
  ⟨q.2 _ (gen_ne_ins hg h.at_) _ h.at_, q.2 _ (gen_ne_dk hg h.many) _ h.many, q.2 _ (gen_ne_dk hg h.known) _ h.known⟩
end
end PW
namespace PW
open PySem Fc P1 P85
section
variable {s : S} {R : C} {P : Pst} {d : D} {t : Str} {a0 a1 a2 a3 a4 a5 a6 a7 a8 a9 a10 a11 a12 a13 a14 a15 t16 t17 t18 : Option D}
def its (n1 n2 n3 : Nat) : List D := [.non, .int 3, .str "fun f 1", .ref n1, .ref n2, .bl true, .tup [.int 1, .ref n3]]
end
end PW
namespace PW
open PySem Fc P1 P85
section
variable {s : S} {σ : Fc.Env} {X : Xc} {Q : D → S → Prop}
end
end PW
namespace Fc
open PySem
section
variable {s : S} {σ : Env} {X : Xc} {Q : D → S → Prop}
@[simp ↓] theorem v_listN {n : Nat} : wE (fListN [.ref n] s) Q X ↔ onO (ndAt s n) fun kvs => Q (.ref s.length) (s ++ [.lst (kvs.map (·.1))]) := by
  with_unfolding_all
    unfold fListN
    dsimp only
    cases h : ndAt s n <;> simp [h]
@[simp ↓] theorem k_tryX {sub : List Str} {e : E} {u : C} {P : Pst} : wC (cTry sub (cExpr e) u σ s) P ↔ wE (e σ s) (fun _ s' => P.nx σ s') (fun c fs s' => onT (sub.contains c) (wC (u σ s') P) (P.xc c fs s')) := by
  with_unfolding_all
    unfold cTry cExpr ex
    cases h : e σ s with
    | none => rfl
    | some r =>
      cases r with
      | ok d s' => rfl
      | exc c fs s' =>
        dsimp only
        cases hc : sub.contains c with
        | true =>
          rw [if_pos rfl, w_exc, hc, onT_t]
        | false =>
          rw [if_neg (by simp), w_exc, hc, onT_f]
          exact Iff.rfl
end
end Fc
namespace Fc
open PySem
def isTyB (s : S) (x : D) (t : Ty) : Option Bool := if insD s x then some false else isTy s x t
section
variable {s : S} {σ : Env} {X : Xc} {Q : D → S → Prop}
@[simp ↓] theorem v_isB {t : Ty} {x : D} : wE (oIsB t x s) Q X ↔ onO (isTyB s x t) fun b => Q (.bl b) s := by
  with_unfolding_all
    unfold oIsB isTyB oIs
    by_cases h : insD s x = true
    · simp [h]
    · simp [h]
end
end Fc
namespace PK
open PySem Fc
noncomputable section
def b_law_closure : C :=
 (cSeq (cSet (eLc [2] (iSrc .seq (eVar 0)) (gName 2) tYes (eCall PW.d_law_table [] (lCons (eVar 2) lNil))) (gName 1))
 (cSeq (cPar 3 4 (lCons (eN (fun _ => mDN) lNil) (lCons (eN fList (lCons (eVar 1) lNil)) lNil)))
 (cSeq (cWhile (tB (e2 oNe (eVar 4) (eN mLst lNil)))
 (cSeq (cSet (eM mPop (eVar 4) lNil) (gName 5))
 (cIf (tB (e2 oNotInN (eVar 5) (eVar 3)))
 (cSeq (cSubN (eVar 3) (eVar 5) (eC (.bl true)))
 (cFor (iSrc .seq (eVar 1)) (gName 6)
 (cIf (tB (e2 oEq (e2 oAt (eVar 6) (eC (.int 0))) (e2 oAt (eVar 5) (eC (.int 1)))))
 (cExpr (eM mAppend (eVar 4) (lCons (eCall PW.d_law_joined [] (lCons (eVar 5) (lCons (eVar 6) lNil))) lNil)))
 cNil)))
 cNil)))
 (cRet (eN fListN (lCons (eVar 3) lNil))))))
def d_law_closure : F := defF 1 7 b_law_closure
def b_law_falls : C :=
 (cSeq (cSet (eVar 0) (gName 1))
 (cSeq (cFor (iRange (eC (.int 0)) (eC (.int 4))) (gName 2)
 (cSeq (cIf (tB (e2 oNe (eLc [3] (iSrc .seq (e2 oAt (eVar 1) (eC (.int 2)))) (gName 3) (tAnd (tB (e2 oEq (e2 oAt (eVar 3) (eC (.int 0))) (e2 oAt (eVar 3) (eC (.int 1))))) (tE (e2 oAt (eVar 3) (eC (.int 2))))) (eVar 3)) (eN mLst lNil)))
 (cRet (eC (.bl true)))
 cNil)
 (cSet (eCall PW.d_law_joined [] (lCons (eVar 1) (lCons (eVar 0) lNil))) (gName 1))))
 (cRet (eC (.bl false)))))
def d_law_falls : F := defF 1 4 b_law_falls
def b_law_ends : C :=
 (cRet (e2 oEq (eLc [1] (iSrc .seq (eCall d_law_closure [] (lCons (eVar 0) lNil))) (gName 1) (tAnd (tB (e2 oEq (e2 oAt (eVar 1) (eC (.int 0))) (e2 oAt (eVar 1) (eC (.int 1))))) (tNot (tE (eCall d_law_falls [] (lCons (eVar 1) lNil))))) (eVar 1)) (eN mLst lNil)))
def d_law_ends : F := defF 1 2 b_law_ends
def b_strongest : C :=
 (cSeq (cSet (eN (fun _ => mDT) lNil) (gName 1))
 (cSeq (cFor (iSrc .seq (eVar 0)) (gTup 3 (gCons (gName 2) (gCons (gName 3) (gCons (gName 4) gNil))))
 (cSub (eVar 1) (eN mTup (lCons (eVar 2) (lCons (eVar 3) lNil))) (eOr (eGet2 (eVar 1) (eN mTup (lCons (eVar 2) (lCons (eVar 3) lNil))) (eC (.bl false))) (eVar 4))))
 (cRet (eVar 1))))
def d_strongest : F := defF 1 5 b_strongest
def b_table_of_call : C :=
 (cSeq (cSet (e2 oAt (e1 (oFld "known") (eVar 0)) (eVar 1)) (gTup 3 (gCons (gName 2) (gCons (gName 3) (gCons (gName 4) gNil)))))
 (cRet (eN mTup (lCons (eVar 2) (lCons (eVar 3) (lCons (eCall P1.d_arcs_of [] (lCons (eCall d_strongest [] (lCons (eVar 4) lNil)) lNil)) lNil))))))
def d_table_of_call : F := defF 2 5 b_table_of_call
def b_tables_of : C :=
 (cSeq (cSet (eDc [2] (iSrc .seq (eN fSortedD (lCons (e1 (oFld "known") (eVar 0)) lNil))) (gName 2) tYes (eVar 2) (eCall d_table_of_call [] (lCons (eVar 0) (lCons (eVar 2) lNil)))) (gName 1))
 (cSeq (cSet (eN (fun _ => mDN) lNil) (gName 3))
 (cSeq (cSet (eN mLst lNil) (gName 4))
 (cSeq (cFor (iSrc .items (eVar 1)) (gTup 2 (gCons (gName 2) (gCons (gName 5) gNil)))
 (cIf (tB (e2 oNotInN (eVar 5) (eVar 3)))
 (cSeq (cSubN (eVar 3) (eVar 5) (eN mLst (lCons (eVar 2) lNil)))
 (cExpr (eM mAppend (eVar 4) (lCons (eVar 5) lNil))))
 cNil))
 (cSeq (cWhile (tB (e2 oNe (eVar 4) (eN mLst lNil)))
 (cSeq (cSet (eN mLst lNil) (gName 6))
 (cSeq (cFor (iSrc .seq (eVar 4)) (gName 5)
 (cFor (iSrc .items (eVar 1)) (gTup 2 (gCons (gName 2) (gCons (gName 7) gNil)))
 (cIf (tB (e2 oEq (e2 oAt (eVar 5) (eC (.int 1))) (e2 oAt (eVar 7) (eC (.int 0)))))
 (cSeq (cSet (eCall P1.d_joined [] (lCons (eVar 5) (lCons (eVar 7) lNil))) (gName 8))
 (cIf (tB (e2 oNotInN (eVar 8) (eVar 3)))
 (cSeq (cSubN (eVar 3) (eVar 8) (e2 oAdd (e2 oAtN (eVar 3) (eVar 5)) (eN mLst (lCons (eVar 2) lNil))))
 (cExpr (eM mAppend (eVar 6) (lCons (eVar 8) lNil))))
 cNil))
 cNil)))
 (cSet (eVar 6) (gName 4)))))
 (cRet (eVar 3)))))))
def d_tables_of : F := defF 1 9 b_tables_of
def b_goes_on : C :=
 (cRet (eAnd (e2 oEq (e2 oAt (eVar 0) (eC (.int 0))) (e2 oAt (eVar 0) (eC (.int 1)))) (eNotT (tE (eCall P1.d_falls_around [] (lCons (eVar 0) lNil))))))
def d_goes_on : F := defF 1 1 b_goes_on
def b_ends : C :=
 (cSeq (cExpr (eCall P85.d_check_program [] (lCons (eVar 0) lNil)))
 (cRet (e2 oEq (eLc [1] (iNd (·.1) (eCall d_tables_of [] (lCons (eVar 0) lNil))) (gName 1) (tE (eCall d_goes_on [] (lCons (eVar 1) lNil))) (eVar 1)) (eN mLst lNil))))
def d_ends : F := defF 1 2 b_ends
def b_harmless : C :=
 (cSeq (cExpr (eCall P85.d_check_program [] (lCons (eVar 0) lNil)))
 (cRet (eCall d_ends [] (lCons (eMeth "Program" "added" PW.d_Program_added [] (eVar 0) (lCons (eN mLst (lCons (eVar 1) lNil)) lNil)) lNil))))
def d_harmless : F := defF 2 2 b_harmless
def b_law_caught : C :=
 (cSeq (cSet (eC .non) (gName 2))
 (cSeq (cTryE ["CallsError", "InvalidList", "InvalidFunction", "InvalidCall", "InvalidProgram", "UnknownName"] 3 2
 (cExpr (eCall d_harmless [] (lCons (eVar 0) (lCons (eVar 1) lNil)))))
 (cSeq (cFor (iSrc .seq (eN mLst (lCons (eVar 0) (lCons (eVar 1) lNil)))) (gName 4)
 (cIf (tE (e1 (oIsB .list) (eVar 4)))
 (cExpr (eM mAppend (eVar 4) (lCons (eC (.str "more")) lNil)))
 cNil))
 (cRet (eN mLst (lCons (e1 (oIsJ ["InvalidProgram"]) (eVar 2)) (lCons (e1 (oIsJ ["InvalidCall"]) (eVar 2)) (lCons (eN fReprR (lCons (e1 (oFld "value") (eVar 2)) lNil)) lNil))))))))
def d_law_caught : F := defF 2 5 b_law_caught
def b_law_refused : C :=
 (cSeq (cSet (eVar 2) (gTup 4 (gCons (gName 4) (gCons (gName 5) (gCons (gName 6) (gCons (gName 7) gNil))))))
 (cSeq (cFor (iSrc .seq (eN mLst (lCons (eC .non) (lCons (eC (.int 3)) (lCons (eC (.str "program")) (lCons (eN mLst lNil) (lCons (eN mTup (lCons (eVar 3) (lCons (eVar 1) lNil))) (lCons (eN (fun _ => mDK) lNil) (lCons (eC (.bl true)) lNil))))))))) (gName 8)
 (cIf (tOr (tB (e2 oNe (eCall d_law_caught [] (lCons (eVar 8) (lCons (eC .non) lNil))) (eN mLst (lCons (eC (.bl true)) (lCons (eC (.bl false)) (lCons (eN fReprR (lCons (eVar 8) lNil)) lNil)))))) (tB (e2 oNe (eCall d_law_caught [] (lCons (eVar 8) (lCons (eVar 2) lNil))) (eN mLst (lCons (eC (.bl true)) (lCons (eC (.bl false)) (lCons (eN fReprR (lCons (eVar 8) lNil)) lNil)))))))
 (cRet (eC (.bl false)))
 cNil))
 (cSeq (cSet (eN mLst (lCons (eC .non) (lCons (eC (.int 3)) (lCons (eN mLst (lCons (eVar 4) (lCons (eVar 5) (lCons (eVar 6) (lCons (eVar 7) lNil))))) (lCons (eN mTup (lCons (eVar 4) (lCons (eVar 5) (lCons (eVar 6) lNil)))) (lCons (eN mTup (lCons (eVar 4) (lCons (eVar 5) (lCons (eVar 6) (lCons (eVar 7) (lCons (eC (.int 0)) lNil)))))) (lCons (eN (fun _ => mDK) lNil) (lCons (eVar 4) lNil)))))))) (gName 9))
 (cSeq (cSet (e2 oAdd (eVar 9) (eN mLst (lCons (eN mTup (lCons (eVar 4) (lCons (eVar 5) (lCons (eVar 6) (lCons (eN fTuple (lCons (eVar 7) lNil)) lNil))))) (lCons (eN mTup (lCons (eVar 4) (lCons (eC (.str "none")) (lCons (eVar 6) (lCons (eVar 7) lNil))))) (lCons (eN mTup (lCons (eVar 4) (lCons (eVar 5) (lCons (eC (.str "")) (lCons (eVar 7) lNil))))) lNil))))) (gName 9))
 (cSeq (cSet (e2 oAdd (eVar 9) (eN mLst (lCons (eN mTup (lCons (eC (.str "")) (lCons (eVar 5) (lCons (eVar 6) (lCons (eVar 7) lNil))))) (lCons (eN mTup (lCons (eC (.str "New")) (lCons (eVar 5) (lCons (eVar 6) (lCons (eVar 7) lNil))))) (lCons (eN mTup (lCons (eC .non) (lCons (eVar 5) (lCons (eVar 6) (lCons (eVar 7) lNil))))) lNil))))) (gName 9))
 (cSeq (cSet (eN mLst (lCons (eC .non) (lCons (eN mTup (lCons (eC (.int 0)) (lCons (eC (.int 0)) lNil))) (lCons (eN mTup (lCons (eC (.int 0)) (lCons (eC (.int 0)) (lCons (eC (.int 1)) lNil)))) (lCons (eN mLst (lCons (eC (.int 0)) (lCons (eC (.int 0)) (lCons (eC (.bl true)) lNil)))) (lCons (eN mTup (lCons (e2 oAt (eVar 3) (eVar 5)) (lCons (eC (.int 0)) (lCons (eC (.bl true)) lNil)))) (lCons (eN mTup (lCons (eC (.int 0)) (lCons (e2 oAt (eVar 3) (eVar 6)) (lCons (eC (.bl false)) lNil)))) (lCons (eN mTup (lCons (e1 oNeg (eC (.int 1))) (lCons (eC (.int 0)) (lCons (eC (.bl true)) lNil)))) lNil)))))))) (gName 10))
 (cSeq (cFor (iSrc .seq (e2 oAdd (eVar 10) (eN mLst (lCons (eN mTup (lCons (eC (.str "0")) (lCons (eC (.int 0)) (lCons (eC (.bl true)) lNil)))) (lCons (eN mTup (lCons (eC (.int 0)) (lCons (eC .non) (lCons (eC (.bl true)) lNil)))) (lCons (eN mTup (lCons (eC (.bl true)) (lCons (eC (.int 0)) (lCons (eC (.bl true)) lNil)))) (lCons (eN mTup (lCons (eC (.int 0)) (lCons (eC (.int 0)) (lCons (eC (.bl true)) (lCons (eC (.int 0)) lNil))))) lNil))))))) (gName 11)
 (cExpr (eM mAppend (eVar 9) (lCons (eN mTup (lCons (eVar 4) (lCons (eVar 5) (lCons (eVar 6) (lCons (e2 oAdd (eVar 7) (eN mLst (lCons (eVar 11) lNil))) lNil))))) lNil))))
 (cSeq (cFor (iSrc .seq (eVar 1)) (gName 12)
 (cExpr (eM mAppend (eVar 9) (lCons (eN mTup (lCons (e2 oAt (eVar 12) (eC (.int 0))) (lCons (eVar 5) (lCons (eVar 6) (lCons (eVar 7) lNil))))) lNil))))
 (cSeq (cFor (iSrc .seq (e2 oAdd (eVar 9) (eN mLst (lCons (eN mTup (lCons (eN mLst lNil) (lCons (eN mLst lNil) (lCons (eN mLst lNil) (lCons (eN mLst lNil) lNil))))) lNil)))) (gName 8)
 (cIf (tB (e2 oNe (eCall d_law_caught [] (lCons (eVar 0) (lCons (eVar 8) lNil))) (eN mLst (lCons (eC (.bl false)) (lCons (eC (.bl true)) (lCons (eN fReprR (lCons (eVar 8) lNil)) lNil))))))
 (cRet (eC (.bl false)))
 cNil))
 (cRet (eC (.bl true))))))))))))
def d_law_refused : F := defF 4 13 b_law_refused
def b_law_known_right : C :=
 (cSeq (cSet (eN mTup (lCons (eC (.str "d")) (lCons (eC (.str "g")) (lCons (eC (.str "f")) (lCons (eN mLst (lCons (eN mTup (lCons (eC (.int 0)) (lCons (eC (.int 0)) (lCons (eC (.bl false)) lNil)))) (lCons (eN mTup (lCons (eC (.int 1)) (lCons (eC (.int 1)) (lCons (eC (.bl false)) lNil)))) lNil))) lNil))))) (gName 0))
 (cSeq (cSet (eMake "Program" P85.d_Program_init [] (lCons (eN mLst (lCons (eN mTup (lCons (eC (.str "f")) (lCons (eC (.int 2)) lNil))) (lCons (eN mTup (lCons (eC (.str "g")) (lCons (eC (.int 2)) lNil))) lNil))) (lCons (eN mLst (lCons (eN mTup (lCons (eC (.str "s")) (lCons (eC (.str "f")) (lCons (eC (.str "g")) (lCons (eN mLst (lCons (eN mTup (lCons (eC (.int 0)) (lCons (eC (.int 1)) (lCons (eC (.bl true)) lNil)))) (lCons (eN mTup (lCons (eC (.int 1)) (lCons (eC (.int 0)) (lCons (eC (.bl true)) lNil)))) lNil))) lNil))))) (lCons (eVar 0) lNil))) lNil))) (gName 1))
 (cSeq (cIf (tE (eCall d_harmless [] (lCons (eVar 1) (lCons (eN mTup (lCons (eC (.str "p")) (lCons (eC (.str "f")) (lCons (eC (.str "g")) (lCons (eN mLst (lCons (eN mTup (lCons (eC (.int 0)) (lCons (eC (.int 0)) (lCons (eC (.bl true)) lNil)))) lNil)) lNil))))) lNil))))
 (cRet (eC (.bl false)))
 cNil)
 (cSeq (cIf (tNot (tE (eCall d_harmless [] (lCons (eVar 1) (lCons (eN mTup (lCons (eC (.str "p")) (lCons (eC (.str "f")) (lCons (eC (.str "g")) (lCons (eN mLst (lCons (eN mTup (lCons (eC (.int 0)) (lCons (eC (.int 1)) (lCons (eC (.bl true)) lNil)))) (lCons (eN mTup (lCons (eC (.int 1)) (lCons (eC (.int 0)) (lCons (eC (.bl true)) lNil)))) lNil))) lNil))))) lNil)))))
 (cRet (eC (.bl false)))
 cNil)
 (cSeq (cSet (eLc [3] (iSrc .seq (eC (.str "abcdefghij"))) (gName 3) tYes (eN mTup (lCons (e2 oAdd (eC (.str "c")) (eVar 3)) (lCons (eC (.str "f")) (lCons (eC (.str "f")) (lCons (eN mLst (lCons (eN mTup (lCons (eC (.int 0)) (lCons (eC (.int 0)) (lCons (eC (.bl true)) lNil)))) lNil)) lNil)))))) (gName 2))
 (cSeq (cSet (eN mTup (lCons (eC (.bl false)) (lCons (eMake "Program" P85.d_Program_init [] (lCons (eN mLst (lCons (eN mTup (lCons (eC (.str "f")) (lCons (eC (.int 1)) lNil))) lNil)) (lCons (eCut (eVar 2) pNo (pYes (eC (.int 9)))) lNil))) lNil))) (gTup 2 (gCons (gName 4) (gCons (gName 5) gNil))))
 (cSeq (cTry ["CallsError", "InvalidList", "InvalidFunction", "InvalidCall", "InvalidProgram", "UnknownName"]
 (cExpr (eCall d_harmless [] (lCons (eMake "Program" P85.d_Program_init [] (lCons (eN mLst (lCons (eN mTup (lCons (eC (.str "f")) (lCons (eC (.int 1)) lNil))) lNil)) (lCons (eVar 2) lNil))) (lCons (eN mTup (lCons (eC (.str "new")) (lCons (eC (.str "f")) (lCons (eC (.str "f")) (lCons (eN mLst (lCons (eN mTup (lCons (eC (.int 0)) (lCons (eC (.int 0)) (lCons (eC (.bl true)) lNil)))) lNil)) lNil))))) lNil))))
 (cSet (eC (.bl true)) (gName 4)))
 (cSeq (cSet (eLc [7] (iSrc .seq (eN mLst (lCons (eC (.bl true)) (lCons (eC (.bl false)) lNil)))) (gName 7) tYes (eCall d_harmless [] (lCons (eVar 5) (lCons (eN mTup (lCons (eC (.str "new")) (lCons (eC (.str "f")) (lCons (eC (.str "f")) (lCons (eN mLst (lCons (eN mTup (lCons (eC (.int 0)) (lCons (eC (.int 0)) (lCons (eVar 7) lNil)))) lNil)) lNil))))) lNil)))) (gName 6))
 (cSeq (cIf (tOr (tE (eVar 4)) (tB (e2 oNe (eVar 6) (eN mLst (lCons (eC (.bl true)) (lCons (eC (.bl false)) lNil))))))
 (cRet (eC (.bl false)))
 cNil)
 (cSeq (cSet (eMake "Program" P85.d_Program_init [] (lCons (eN mLst (lCons (eN mTup (lCons (eC (.str "f")) (lCons (eC (.int 3)) lNil))) lNil)) (lCons (eN mLst (lCons (eN mTup (lCons (eC (.str "b")) (lCons (eC (.str "f")) (lCons (eC (.str "f")) (lCons (eN mLst (lCons (eN mTup (lCons (eC (.int 0)) (lCons (eC (.int 1)) (lCons (eC (.bl true)) lNil)))) (lCons (eN mTup (lCons (eC (.int 1)) (lCons (eC (.int 2)) (lCons (eC (.bl true)) lNil)))) (lCons (eN mTup (lCons (eC (.int 2)) (lCons (eC (.int 0)) (lCons (eC (.bl true)) lNil)))) lNil)))) lNil))))) lNil)) lNil))) (gName 8))
 (cRet (eNotT (tE (eCall d_harmless [] (lCons (eVar 8) (lCons (eN mTup (lCons (eC (.str "a")) (lCons (eC (.str "f")) (lCons (eC (.str "f")) (lCons (eN mLst (lCons (eN mTup (lCons (eC (.int 0)) (lCons (eC (.int 1)) (lCons (eC (.bl true)) lNil)))) (lCons (eN mTup (lCons (eC (.int 1)) (lCons (eC (.int 0)) (lCons (eC (.bl true)) lNil)))) lNil))) lNil))))) lNil))))))))))))))))
def d_law_known_right : F := defF 0 9 b_law_known_right
def b_law : C :=
 (cSeq (cFor (iRange (eC (.int 0)) (eC (.int 4))) (gName 1)
 (cSeq (cSet (eCall PW.d_law_purse [] (lCons (eVar 0) (lCons (eVar 1) lNil))) (gName 2))
 (cSeq (cSet (eCall PW.d_law_parts [] (lCons (eVar 2) (lCons (eC (.int 3)) (lCons (eC (.int 4)) (lCons (eC (.int 3)) lNil))))) (gTup 2 (gCons (gName 3) (gCons (gName 4) gNil))))
 (cSeq (cSet (eN mTup (lCons (eMake "Program" P85.d_Program_init [] (lCons (eVar 3) (lCons (eVar 4) lNil))) (lCons (eN fDictP (lCons (eVar 3) lNil)) lNil))) (gTup 2 (gCons (gName 5) (gCons (gName 6) gNil))))
 (cFor (iRange (eC (.int 0)) (eC (.int 3))) (gName 7)
 (cSeq (cPar 8 9 (lCons (e2 oAt (eVar 3) (eCall PW.d_law_draw [] (lCons (eVar 2) (lCons (eN fLen (lCons (eVar 3) lNil)) lNil)))) (lCons (e2 oAt (eVar 3) (eCall PW.d_law_draw [] (lCons (eVar 2) (lCons (eN fLen (lCons (eVar 3) lNil)) lNil)))) lNil)))
 (cSeq (cSet (eCall PW.d_law_arcs_drawn [] (lCons (eVar 2) (lCons (e2 oAt (eVar 8) (eC (.int 1))) (lCons (e2 oAt (eVar 9) (eC (.int 1))) lNil)))) (gName 10))
 (cSeq (cSet (e2 oAdd (eLc [12, 13] (iSrc .seq (eVar 3)) (gTup 2 (gCons (gName 12) (gCons (gName 13) gNil))) (tB (e2 oNotIn (eVar 12) (eMeth "Program" "names" P85.d_Program_names [] (eVar 5) lNil))) (eVar 12)) (eN mLst (lCons (eC (.str "new")) lNil))) (gName 11))
 (cSeq (cSet (eN mTup (lCons (e2 oAt (eVar 11) (eCall PW.d_law_draw [] (lCons (eVar 2) (lCons (eN fLen (lCons (eVar 11) lNil)) lNil)))) (lCons (e2 oAt (eVar 8) (eC (.int 0))) (lCons (e2 oAt (eVar 9) (eC (.int 0))) (lCons (eVar 10) lNil))))) (gName 14))
 (cSeq (cIf (tNot (tE (eCall PW.d_law_few_tables [] (lCons (e2 oAdd (eVar 4) (eN mLst (lCons (eVar 14) lNil))) (lCons (eC (.int 400)) lNil)))))
 cCnt
 cNil)
 (cSeq (cPar 15 16 (lCons (eN fReprR (lCons (eVar 14) lNil)) (lCons (eCall d_law_ends [] (lCons (e2 oAdd (eVar 4) (eN mLst (lCons (eVar 14) lNil))) lNil)) lNil)))
 (cSeq (cIf (tB (e2 oNe (eN fReprR (lCons (eN mLst (lCons (eCall d_harmless [] (lCons (eVar 5) (lCons (eVar 14) lNil))) (lCons (eCall d_harmless [] (lCons (eVar 5) (lCons (eVar 14) lNil))) lNil))) lNil)) (eN fReprR (lCons (eN mLst (lCons (eVar 16) (lCons (eVar 16) lNil))) lNil))))
 (cRet (eC (.bl false)))
 cNil)
 (cIf (tOr (tB (e2 oNe (eN fReprR (lCons (eVar 14) lNil)) (eVar 15))) (tOr (tB (e2 oNe (eMeth "Program" "calls" PW.d_Program_calls [] (eVar 5) lNil) (eVar 4))) (tNot (tE (eCall d_law_refused [] (lCons (eVar 5) (lCons (eVar 4) (lCons (eVar 14) (lCons (eVar 6) lNil)))))))))
 (cRet (eC (.bl false)))
 cNil)))))))))))))
 (cRet (eCall d_law_known_right [] lNil)))
def d_law : F := defF 1 17 b_law
end
end PK
namespace PC
open PySem Fc P1
structure Tb where
  b : Str
  e : Str
  A : List Arc
deriving DecidableEq
def tD (t : Tb) : D := .tup [.str t.b, .str t.e, .tup (t.A.map aD)]
def mk (b e : Str) (M : Mt) : Tb := ⟨b, e, arcsA M⟩
def mt (t : Tb) : Mt := foldG (fun _ _ => 0) t.A
def joinT (t u : Tb) : Tb := ⟨t.b, u.e, arcsA (outJ (fun _ _ => 0) t.A u.A)⟩
/-- a table as they stand in the program -/
def Cn (t : Tb) : Prop := (∃ M, Bd2 M ∧ t.A = arcsA M) ∧ okS t.b ∧ okS t.e
theorem Cn.mk {t : Tb} (h : Cn t) : ∃ M, Bd2 M ∧ t = PC.mk t.b t.e M := by
  obtain ⟨⟨M, h1, h2⟩, _⟩ := h
  refine ⟨M, h1, ?_⟩
  obtain ⟨b, e, A⟩ := t
  simp only at h2
  subst h2
  rfl
theorem cn_join {t u : Tb} (h : Cn t) (k : Cn u) : Cn (joinT t u) := by
  obtain ⟨⟨M, h1, h2⟩, h3, h4⟩ := h
  obtain ⟨⟨N, k1, k2⟩, k3, k4⟩ := k
  refine ⟨⟨mulM M N, mul_bd h1 k1, ?_⟩, h3, k4⟩
  show arcsA (outJ _ t.A u.A) = _
  rw [h2, k2]
  have := mulJ_eq h1 k1
  unfold mulJ at this
  rw [this]
/-- does a table lead round without a fall -/
def goes (t : Tb) : Bool := decide (t.b = t.e) && !hf (mt t)
/-- what rows of calls have -/
inductive Rch (E : List Tb) : Tb → Prop
  | one {t : Tb} (h : t ∈ E) : Rch E t
  | more {t u : Tb} (h : Rch E t) (hu : u ∈ E) (e : u.b = t.e) : Rch E (joinT t u)
theorem Rch.mono {E E' : List Tb} (h : ∀ t ∈ E, t ∈ E') {t : Tb} (r : Rch E t) : Rch E' t := by
  induction r with
  | one k => exact .one (h _ k)
  | more _ hu e ih => exact .more ih (h _ hu) e
theorem Rch.closed {E F : List Tb} (h1 : ∀ t ∈ E, t ∈ F) (h2 : ∀ t ∈ F, ∀ u ∈ E, u.b = t.e → joinT t u ∈ F) {t : Tb} (r : Rch E t) : t ∈ F := by
  induction r with
  | one k => exact h1 _ k
  | more _ hu e ih => exact h2 _ ih _ hu e
theorem Rch.cn {E : List Tb} (h : ∀ t ∈ E, Cn t) {t : Tb} (r : Rch E t) : Cn t := by
  induction r with
  | one k => exact h _ k
  | more _ hu e ih => exact cn_join ih (h _ hu)
def kA (a : Arc) : NestedKey := .tup [.num a.1, .num a.2.1, .num (if a.2.2 = true then 1 else 0)]
def kT (t : Tb) : NestedKey := .tup [.text t.b, .text t.e, .tup (t.A.map kA)]
theorem nk_arcs : ∀ A : List Arc, nkeys (A.map aD) = some (A.map kA) ∧ NestedKey.depthAll (A.map kA) ≤ 1
  | [] => ⟨rfl, by simp [NestedKey.depthAll]⟩
  | a :: A => by
    obtain ⟨h1, h2⟩ := nk_arcs A
    refine ⟨?_, ?_⟩
    · simp [nkeys, nkey, aD, h1, kA]
    · simp only [List.map_cons, NestedKey.depthAll, NestedKey.depth, kA]
      omega
theorem nk_tD (t : Tb) : nkT (tD t) = some (kT t) := by
  obtain ⟨h1, h2⟩ := nk_arcs t.A
  unfold nkT tD
  dsimp only
  have e1 : nkeys [D.str t.b, D.str t.e, D.tup (t.A.map aD)] = some [.text t.b, .text t.e, .tup (t.A.map kA)] := by simp [nkeys, nkey, h1]
  rw [e1]
  dsimp only
  rw [if_pos]
  · rfl
  · simp only [NestedKey.depthAll, NestedKey.depth]
    omega
theorem kA_inj : ∀ {A B : List Arc}, A.map kA = B.map kA → A = B
  | [], [], _ => rfl
  | [], _ :: _, h => by cases h
  | _ :: _, [], h => by cases h
  | (a1, a2, a3) :: A, (b1, b2, b3) :: B, h => by
    rw [List.map_cons, List.map_cons, List.cons.injEq] at h
    obtain ⟨h1, h2⟩ := h
    simp only [kA, NestedKey.tup.injEq, List.cons.injEq, NestedKey.num.injEq] at h1
    obtain ⟨e1, e2, e3, _⟩ := h1
    have e1 : a1 = b1 := by omega
    have e2 : a2 = b2 := by omega
    have e3 : a3 = b3 := by cases a3 <;> cases b3 <;> simp_all
    rw [e1, e2, e3, kA_inj h2]
theorem kT_inj {t u : Tb} (h : kT t = kT u) : t = u := by
  obtain ⟨b, e, A⟩ := t
  obtain ⟨b', e', A'⟩ := u
  simp only [kT, NestedKey.tup.injEq, List.cons.injEq, NestedKey.text.injEq] at h
  obtain ⟨h1, h2, h3, _⟩ := h
  rw [h1, h2, kA_inj h3]
abbrev Fd := List (Tb × List Str)
abbrev Sg := List (Str × Tb)
def ky (f : Fd) : List Tb := f.map (·.1)
def addT (f : Fd × List Tb) (t : Tb) (row : List Str) : Fd × List Tb := if t ∈ ky f.1 then f else (f.1 ++ [(t, row)], f.2 ++ [t])
def rowOf (f : Fd) (t : Tb) : List Str := ((f.find? fun x => decide (x.1 = t)).map (·.2)).getD []
def initB (g : Sg) : Fd × List Tb := g.foldl (fun f x => addT f x.2 [x.1]) ([], [])
def stepU (t : Tb) (f : Fd × List Tb) (x : Str × Tb) : Fd × List Tb := if t.e = x.2.b then addT f (joinT t x.2) (rowOf f.1 t ++ [x.1]) else f
def stepT (g : Sg) (f : Fd × List Tb) (t : Tb) : Fd × List Tb := g.foldl (stepU t) f
def layerB (g : Sg) (f : Fd) (l : List Tb) : Fd × List Tb := l.foldl (stepT g) (f, [])
def bfsN (g : Sg) : Nat → Fd → List Tb → Option Fd
  | 0, f, l => if l = [] then some f else none
  | n + 1, f, l => if l = [] then some f else bfsN g n (layerB g f l).1 (layerB g f l).2
/-- what is added is new -/
structure Ext (E : List Tb) (f0 f1 : Fd × List Tb) : Prop where
  ex : ∃ add, ky f1.1 = ky f0.1 ++ add ∧ f1.2 = f0.2 ++ add
  nd : (ky f0.1).Nodup → (ky f1.1).Nodup
  rc : (∀ t ∈ ky f0.1, Rch E t) → ∀ t ∈ ky f1.1, Rch E t
theorem Ext.refl {E : List Tb} {f : Fd × List Tb} : Ext E f f := ⟨⟨[], by simp, by simp⟩, id, id⟩
theorem Ext.trans {E : List Tb} {f g h : Fd × List Tb} (a : Ext E f g) (b : Ext E g h) : Ext E f h := by
  obtain ⟨x, h1, h2⟩ := a.ex
  obtain ⟨y, k1, k2⟩ := b.ex
  exact ⟨⟨x ++ y, by rw [k1, h1, List.append_assoc], by rw [k2, h2, List.append_assoc]⟩, fun h => b.nd (a.nd h), fun h => b.rc (a.rc h)⟩
theorem Ext.sub {E : List Tb} {f g : Fd × List Tb} (a : Ext E f g) {t : Tb} (h : t ∈ ky f.1) : t ∈ ky g.1 := by
  obtain ⟨x, h1, _⟩ := a.ex
  rw [h1]
  exact List.mem_append_left _ h
theorem ky_app (f g : Fd) : ky (f ++ g) = ky f ++ ky g := List.map_append
theorem addT_ext {E : List Tb} {f : Fd × List Tb} {t : Tb} {row : List Str} (h : (∀ t ∈ ky f.1, Rch E t) → Rch E t) : Ext E f (addT f t row) ∧ t ∈ ky (addT f t row).1 := by
  unfold addT
  split
  · rename_i hm
    exact ⟨.refl, hm⟩
  · rename_i hm
    refine ⟨⟨⟨[t], by rw [ky_app]; rfl, rfl⟩, fun nd => ?_, fun r u hu => ?_⟩, by rw [ky_app]; simp [ky]⟩
    · rw [ky_app, List.nodup_append]
      refine ⟨nd, by simp [ky], fun a ha b hb e => ?_⟩
      simp [ky] at hb
      subst hb; subst e
      exact hm ha
    · rw [ky_app] at hu
      rcases List.mem_append.mp hu with hu | hu
      · exact r u hu
      · simp [ky] at hu
        subst hu
        exact h r
/-- in the midst of the search -/
structure Mid (g : Sg) (f : Fd) (l : List Tb) : Prop where
  nd : (ky f).Nodup
  rc : ∀ t ∈ ky f, Rch (g.map (·.2)) t
  on : ∀ x ∈ g, x.2 ∈ ky f
  ly : ∀ t ∈ l, t ∈ ky f
  dn : ∀ t ∈ ky f, t ∉ l → ∀ x ∈ g, x.2.b = t.e → joinT t x.2 ∈ ky f
end PC
namespace PC
open PySem Fc P1
open PW (RowsOk fnm)
open P85 (Rw rwD RwOk app_get isl)
def tbR (r : Rw) : Tb := mk r.src.1 r.tgt.1 (PW.mOf r.A)
section
variable {s : S} {X : Xc} {Q : D → S → Prop}
theorem at1 {t : Tb} : atD s (tD t) (.int 1) = some (.str t.e) := by simp [tD]
/-- in the midst of the search -/
structure Mid2 (E F W : List Tb) : Prop where
  nd : F.Nodup
  rf : ∀ t ∈ F, Rch E t
  rw : ∀ t ∈ W, Rch E t
  on : ∀ t ∈ E, t ∈ F ∨ t ∈ W
  cl : ∀ t ∈ F, ∀ u ∈ E, u.b = t.e → joinT t u ∈ F ∨ joinT t u ∈ W
theorem Mid2.skip {E F W : List Tb} {w : Tb} (m : Mid2 E F (W ++ [w])) (h : w ∈ F) : Mid2 E F W := by
  have key : ∀ t, t ∈ F ∨ t ∈ W ++ [w] → t ∈ F ∨ t ∈ W := fun t ht => by
    rcases ht with ht | ht
    · exact .inl ht
    · rcases List.mem_append.mp ht with ht | ht
      · exact .inr ht
      · simp at ht
        subst ht
        exact .inl h
  exact ⟨m.nd, m.rf, fun t ht => m.rw t (List.mem_append_left _ ht), fun t ht => key _ (m.on t ht), fun t ht u hu e => key _ (m.cl t ht u hu e)⟩
def nexts (E : List Tb) (w : Tb) : List Tb := (E.filter fun u => decide (u.b = w.e)).map (joinT w)
theorem nexts_mem {E : List Tb} {w t : Tb} : t ∈ nexts E w ↔ ∃ u ∈ E, u.b = w.e ∧ t = joinT w u := by
  unfold nexts
  rw [List.mem_map]
  constructor
  · rintro ⟨u, hu, rfl⟩
    rw [List.mem_filter, decide_eq_true_eq] at hu
    exact ⟨u, hu.1, hu.2, rfl⟩
  · rintro ⟨u, hu, e, rfl⟩
    exact ⟨u, List.mem_filter.mpr ⟨hu, decide_eq_true e⟩, rfl⟩
theorem Mid2.take {E F W : List Tb} {w : Tb} (m : Mid2 E F (W ++ [w])) (h : w ∉ F) : Mid2 E (F ++ [w]) (W ++ nexts E w) := by
  have rw' : Rch E w := m.rw w (by simp)
  have key : ∀ t, t ∈ F ∨ t ∈ W ++ [w] → t ∈ F ++ [w] ∨ t ∈ W ++ nexts E w := fun t ht => by
    rcases ht with ht | ht
    · exact .inl (List.mem_append_left _ ht)
    · rcases List.mem_append.mp ht with ht | ht
      · exact .inr (List.mem_append_left _ ht)
      · exact .inl (List.mem_append_right _ ht)
  refine ⟨?_, fun t ht => ?_, fun t ht => ?_, fun t ht => key _ (m.on t ht), fun t ht u hu e => ?_⟩
  · rw [List.nodup_append]
    refine ⟨m.nd, by simp, fun a ha b hb e => ?_⟩
    simp at hb
    subst hb; subst e
    exact h ha
  · rcases List.mem_append.mp ht with ht | ht
    · exact m.rf t ht
    · simp at ht
      subst ht
      exact rw'
  · rcases List.mem_append.mp ht with ht | ht
    · exact m.rw t (List.mem_append_left _ ht)
    · obtain ⟨u, hu, e, rfl⟩ := nexts_mem.mp ht
      exact .more rw' hu e
  · rcases List.mem_append.mp ht with ht | ht
    · exact key _ (m.cl t ht u hu e)
    · simp at ht
      subst ht
      exact .inr (List.mem_append_right _ (nexts_mem.mpr ⟨u, hu, e, rfl⟩))
theorem Mid2.done {E F : List Tb} (m : Mid2 E F []) (t : Tb) : Rch E t ↔ t ∈ F :=
  ⟨fun r => r.closed (fun u hu => (m.on u hu).resolve_right (by simp)) (fun u hu v hv e => (m.cl u hu v hv e).resolve_right (by simp)), m.rf t⟩
/-- the tables of the rows of calls, listed -/
def Few (E L : List Tb) : Prop := L.Nodup ∧ L.length ≤ 400 ∧ ∀ t, Rch E t ↔ t ∈ L
end
end PC
namespace PC
open PySem Fc P1
open PW (RowsOk)
open P85 (Rw rwD RwOk app_get isl)
section
variable {s : S} {X : Xc} {Q : D → S → Prop}
end
end PC
namespace Fc
open PySem
section
variable {s : S} {σ : Env} {X : Xc} {Q : D → S → Prop}
@[simp ↓] theorem v_dc {vs : List Nat} {src : SrcE} {g : G} {t : T} {ky e : E} : wE (eDc vs src g t ky e σ s) Q X ↔ wE (src σ s) (fun sk s1 => match sk with
  | .vals ds => wE (dcNew s1 fun D0 s2 => dcV D0 vs g t ky e ds σ s2) Q X
  | .list n k => wE (dcNew s1 fun D0 s2 => dcL D0 n vs g t ky e k 0 σ s2) Q X
  | .dict n ds => wE (lcDict n s1 fun s2 => dcNew s2 fun D0 s3 => dcV D0 vs g t ky e ds σ s3) Q X) X := by
  with_unfolding_all
    unfold eDc
    rw [w_bnd]
    constructor
    · intro h
      refine wE_mono h fun sk s1 h => ?_
      cases sk <;> exact h
    · intro h
      refine wE_mono h fun sk s1 h => ?_
      cases sk <;> exact h
end
end Fc
namespace PC
open PySem Fc P1
open PW (Gd mOf)
open P85 (Rw rwD RwOk app_get isl PA kvP)
section
variable {s : S} {X : Xc} {Q : D → S → Prop}
/-- the row of a name -/
def tbN (l : List Rw) (y : Str) : Tb := match l.find? (fun q => decide (q.nm = y)) with
  | some q => tbR q
  | none => ⟨y, y, []⟩
/-- the calls' names in order, with their tables -/
noncomputable def sgl (l : List Rw) : Sg := (mst (l.map (·.nm))).map fun y => (y, tbN l y)
end
end PC
namespace PC
open PySem Fc P1
open PW (Gd mOf All2)
open P85 (Rw rwD RwOk app_get isl PA kvP)
/-- the dict of tables, each with its row of names -/
def FdA (t : S) (B lo : Nat) (f : Fd) (kvs : List (D × D)) : Prop := All2 (fun (x : Tb × List Str) (kv : D × D) => kv.1 = tD x.1 ∧ ∃ a, kv.2 = .ref a ∧ t[a]? = some (.lst (x.2.map .str)) ∧ a ≠ lo ∧ B ≤ a) f kvs
theorem FdA.keys {t : S} {B lo : Nat} : ∀ {f : Fd} {kvs : List (D × D)}, FdA t B lo f kvs → kvs.map (·.1) = (ky f).map tD
  | [], [], _ => rfl
  | x :: f, kv :: kvs, h => by
    have ih := FdA.keys (f := f) (kvs := kvs) h.2
    simp only [ky, List.map_cons] at ih ⊢
    rw [h.1.1, ih]
  | [], _ :: _, h => h.elim
  | _ :: _, [], h => h.elim
theorem FdA.get {t : S} {B lo : Nat} {u : Tb} : ∀ {f : Fd} {kvs : List (D × D)}, FdA t B lo f kvs → u ∈ ky f → ∃ a, kgetN kvs (kT u) = some (.ref a) ∧ t[a]? = some (.lst ((rowOf f u).map .str))
  | x :: f, kv :: kvs, h, hu => by
    obtain ⟨⟨h1, a, h2, h3, _⟩, h4⟩ := h
    unfold kgetN rowOf
    rw [List.find?_cons, List.find?_cons]
    by_cases e : x.1 = u
    · have : nkT kv.1 = some (kT u) := by rw [h1, nk_tD, e]
      refine ⟨a, ?_, ?_⟩
      · simp [this, h2]
      · simpa [e] using h3
    · have : ¬ nkT kv.1 = some (kT u) := by
        rw [h1, nk_tD]
        intro z
        exact e (kT_inj (Option.some.inj z))
      have hu' : u ∈ ky f := by
        simp only [ky, List.map_cons, List.mem_cons] at hu
        rcases hu with hu | hu
        · exact absurd hu.symm e
        · exact hu
      obtain ⟨b, k1, k2⟩ := FdA.get (f := f) (kvs := kvs) h4 hu'
      refine ⟨b, ?_, ?_⟩
      · simp only [this, decide_false]
        exact k1
      · simp only [e, decide_false]
        exact k2
  | [], [], h, hu => by simp [ky] at hu
  | [], _ :: _, h, _ => h.elim
  | _ :: _, [], h, _ => h.elim
theorem FdA.mono {t t2 : S} {B lo lo2 : Nat} {f : Fd} {kvs : List (D × D)} (h : FdA t B lo f kvs) (k : ∀ a ds, B ≤ a → a ≠ lo → t[a]? = some (.lst ds) → t2[a]? = some (.lst ds) ∧ a ≠ lo2) : FdA t2 B lo2 f kvs :=
  PW.All2.imp (fun x kv ⟨h1, a, h2, h3, h4, h5⟩ => ⟨h1, a, h2, (k a _ h5 h4 h3).1, (k a _ h5 h4 h3).2, h5⟩) h
/-- in the midst: the single tables at d1, the found ones at fo, a list at lo, one more at la -/
structure Tb3 (base : S) (B d1 fo lo la : Nat) (o1 ol : O) (f : Fd × List Tb) (t : S) : Prop where
  a1 : d1 < B
  a2 : B ≤ fo
  a3 : B ≤ lo
  a4 : fo ≠ lo
  a5 : la ≠ fo
  a6 : la ≠ lo
  g1 : t[d1]? = some o1
  g4 : ∃ kvs, t[fo]? = some (.dN kvs) ∧ FdA t B lo f.1 kvs
  g2 : t[lo]? = some (.lst (f.2.map tD))
  g3 : t[la]? = some ol
  keep : ∀ n, n < B → n ≠ d1 → ∀ o, base[n]? = some o → t[n]? = some o
section
variable {base t t2 : S} {B d1 fo lo la : Nat} {o1 ol : O} {f : Fd × List Tb} {P : Pst}
theorem Tb3.pf (h : Tb3 base B d1 fo lo la o1 ol f t) (p : Pf t t2) : Tb3 base B d1 fo lo la o1 ol f t2 := by
  obtain ⟨kvs, k1, k2⟩ := h.g4
  exact ⟨h.a1, h.a2, h.a3, h.a4, h.a5, h.a6, p _ _ h.g1, ⟨kvs, p _ _ k1, k2.mono fun a ds _ h4 h3 => ⟨p _ _ h3, h4⟩⟩, p _ _ h.g2, p _ _ h.g3, fun n h1 h2 o e => p _ _ (h.keep n h1 h2 o e)⟩
theorem Tb3.put {kvs : List (D × D)} {u : Tb} {row : List Str} {a : Nat} (h : Tb3 base B d1 fo lo la o1 ol f t) (k1 : t[fo]? = some (.dN kvs)) (k2 : FdA t B lo f.1 kvs) (ha : t[a]? = some (.lst (row.map .str))) (hB : B ≤ a) (hl : a ≠ lo) :
    Tb3 base B d1 fo lo la o1 ol (f.1 ++ [(u, row)], f.2 ++ [u]) ((t.set fo (.dN (kvs ++ [(tD u, .ref a)]))).set lo (.lst (f.2.map tD ++ [tD u]))) := by
  have a1 := h.a1; have a2 := h.a2; have a3 := h.a3; have a4 := h.a4
  have l1 := lt_of_get k1
  have l2 := lt_of_get h.g2
  have old : ∀ n : Nat, n ≠ fo → n ≠ lo → ((t.set fo (.dN (kvs ++ [(tD u, .ref a)]))).set lo (.lst (f.2.map tD ++ [tD u])))[n]? = t[n]? := fun n h1 h2 => by rw [set_ne (Ne.symm h2), set_ne (Ne.symm h1)]
  have nf : ∀ b ds, t[b]? = some (.lst ds) → b ≠ fo := fun b ds e z => by
    rw [z, k1] at e
    cases e
  refine ⟨a1, a2, a3, a4, h.a5, h.a6, by rw [old _ (by omega) (by omega)]; exact h.g1, ⟨_, by rw [set_ne (Ne.symm a4), set_get l1], ?_⟩, ?_, by rw [old _ h.a5 h.a6]; exact h.g3, fun n h1 h2 o e => by rw [old _ (by omega) (by omega)]; exact h.keep n h1 h2 o e⟩
  · refine PW.All2.snoc ?_ (k2.mono fun b ds _ h4 h3 => ⟨by rw [old _ (nf b ds h3) h4]; exact h3, h4⟩)
    exact ⟨rfl, a, rfl, by rw [old _ (nf a _ ha) hl]; exact ha, hl, hB⟩
  · rw [set_get (by simpa using l2)]
    simp
/-- sizes -/
structure Ok3 (E : List Tb) (f : Fd × List Tb) : Prop where
  nd : (ky f.1).Nodup
  rc : ∀ t ∈ ky f.1, Rch E t
  s1 : f.2.length ≤ f.1.length
  s2 : ∀ x ∈ f.1, x.2.length ≤ f.1.length
theorem Ok3.le {E L : List Tb} (h : Ok3 E f) (hL : Few E L) : f.1.length ≤ 400 := by
  have := nodup_le h.nd fun t ht => (hL.2.2 t).mp (h.rc t ht)
  have e : (ky f.1).length = f.1.length := by simp [ky]
  have := hL.2.1
  omega
theorem rowOf_le {E : List Tb} (h : Ok3 E f) (u : Tb) : (rowOf f.1 u).length ≤ f.1.length := by
  unfold rowOf
  cases e : f.1.find? (fun x => decide (x.1 = u)) with
  | none => simp
  | some x => exact h.s2 x (List.mem_of_find?_eq_some e)
theorem Ok3.add {E : List Tb} {u : Tb} {row : List Str} (h : Ok3 E f) (hu : Rch E u) (hr : row.length ≤ f.1.length + 1) : Ok3 E (addT f u row) := by
  obtain ⟨h1, _⟩ := addT_ext (E := E) (f := f) (t := u) (row := row) (fun _ => hu)
  refine ⟨h1.nd h.nd, h1.rc h.rc, ?_, ?_⟩
  · unfold addT
    split
    · exact h.s1
    · have := h.s1
      simp; omega
  · unfold addT
    split
    · exact h.s2
    · intro x hx
      rcases List.mem_append.mp hx with hx | hx
      · have := h.s2 x hx
        simp; omega
      · simp at hx
        subst hx
        simpa using hr
theorem Ok3.stepU {E : List Tb} {tt : Tb} {x : Str × Tb} (h : Ok3 E f) (ht : tt ∈ ky f.1) (hx : x.2 ∈ E) : Ok3 E (stepU tt f x) := by
  unfold PC.stepU
  split
  · rename_i e
    exact h.add (.more (h.rc tt ht) hx e.symm) (by have := rowOf_le h tt; simp; omega)
  · exact h
variable {p0 : D} {nm : Str} {u tt : Tb} {t6 t7 t8 : Option D}
end
end PC
namespace PC
open PySem Fc P1
open PW (Gd mOf All2)
open P85 (Rw rwD RwOk app_get isl PA kvP)
section
variable {base t s : S} {B d1 fo lo la : Nat} {o1 ol : O} {f : Fd × List Tb}
/-- what tables_of gives -/
structure TOf (s : S) (n : Nat) (l : List Rw) (r : Fd) : Prop where
  at_ : ∃ kvs B lo, s[n]? = some (.dN kvs) ∧ FdA s B lo r kvs
  fu : ∃ N, bfsN (sgl l) N (initB (sgl l)).1 (initB (sgl l)).2 = some r
  nd : (ky r).Nodup
  mem : ∀ u, u ∈ ky r ↔ Rch (l.map tbR) u
end
end PC
namespace PC
open PySem Fc P1
open PW (Gd mOf All2 RowsOk)
open P85 (Rw rwD RwOk app_get isl PA)
section
variable {s : S} {X : Xc} {Q : D → S → Prop}
def Ends (E : List Tb) : Prop := ∀ t, Rch E t → goes t = false
end
end PC
namespace PB
open PySem Fc P1 P85
open PW (Gd Arcs)
section
variable {s : S} {X : Xc} {Q : D → S → Prop}
theorem sp_name_no {d : D} (h : isTy s d .str = some false) (hQ : Q (.bl false) s) : wE (d_is_name [d] s) Q X := by
  unfold d_is_name
  refine (v_def (by rfl)).mpr ?_
  unfold b_is_name
  simp [h]
  exact hQ
theorem sp_name_nil (hQ : Q (.bl false) s) : wE (d_is_name [.str ""] s) Q X := by
  unfold d_is_name
  refine (v_def (by rfl)).mpr ?_
  unfold b_is_name
  have e : lenD s (.str "") = some 0 := by simp [lenD]; decide +kernel
  simp [isTy, e]
  exact hQ
def badO : D → Option D
  | .str x => if (Builtin.Str.occurrences letters x 0 letters.length 1).isEmpty = true then some (.str x) else none
  | _ => none
theorem sp_name_bad {x : Str} (ho : okS x) (h1 : 1 ≤ x.length) (h2 : x.length ≤ 12) (hb : ∃ c ∈ x.cps.toList, (Builtin.Str.occurrences letters ⟨#[c]⟩ 0 letters.length 1).isEmpty = true) (hQ : ∀ s', Pf s s' → Q (.bl false) s') : wE (d_is_name [.str x] s) Q X := by
  unfold d_is_name
  refine (v_def (by rfl)).mpr ?_
  unfold b_is_name
  have hs : sz x.length = true := sz_lit (by omega)
  have e1 : decide (1 ≤ (x.length : Int)) = true := decide_eq_true (by omega)
  have e2 : decide ((x.length : Int) ≤ 12) = true := decide_eq_true (by omega)
  simp [isTy, lenD, hs, e1, e2, srcOf]
  have hlen : (signs x).length < 16777216 := by
    have : x.cps.size = x.length := rfl
    simp [signs]
    omega
  refine w_lcP badO hlen (fun d hd s' pf => ⟨_, rfl, ?_⟩) fun s' pf h => ?_
  · obtain ⟨c, hc, rfl⟩ := List.mem_map.mp hd
    have e3 : isIn s' (.str ⟨#[c]⟩) (.str letters) = some (!(Builtin.Str.occurrences letters ⟨#[c]⟩ 0 letters.length 1).isEmpty) := by simp [isIn]
    simp [Fc.wipe]
    rw [show (Str.ofString "abcdefghijklmnopqrstuvwxyz") = letters from rfl, e3]
    simp [badO]
    cases (Builtin.Str.occurrences letters ⟨#[c]⟩ 0 letters.length 1).isEmpty <;> simp [Pf.refl]
  · have hte : ∀ d ∈ (signs x).filterMap badO, Te d := by
      intro d hd
      obtain ⟨y, hy, e⟩ := List.mem_filterMap.mp hd
      obtain ⟨c, hc, rfl⟩ := List.mem_map.mp hy
      simp only [badO] at e
      split at e
      · cases e
        refine te_str fun z hz => ?_
        simp at hz
        rw [hz]
        exact ho c hc
      · cases e
    have hne : (signs x).filterMap badO ≠ [] := by
      obtain ⟨c, hc, e⟩ := hb
      intro z
      have : D.str ⟨#[c]⟩ ∈ (signs x).filterMap badO := List.mem_filterMap.mpr ⟨.str ⟨#[c]⟩, List.mem_map.mpr ⟨c, hc, rfl⟩, by simp [badO, e]⟩
      rw [z] at this
      cases this
    have e4 := eq_nilT (s := s' ++ [O.lst []]) (n := s.length) (m := s'.length) hte (Pf.app _ _ h) get_new
    have e5 : ((signs x).filterMap badO).isEmpty = false := by
      cases hh : (signs x).filterMap badO with
      | nil => exact absurd hh hne
      | cons _ _ => rfl
    rw [e4, e5]
    exact hQ _ (pf.trans Pf.app)
/-- a value that is no name, whatever comes -/
def NN (s : S) (d : D) : Prop := ∀ s', Pf s s' → ∀ (Q : D → S → Prop) (X : Xc), (∀ s2, Pf s' s2 → Q (.bl false) s2) → wE (d_is_name [d] s') Q X
theorem nn_no {d : D} (h : isTy s d .str = some false) : NN s d := fun s' p Q X hq => sp_name_no (isTy_pf h p) (hq _ Pf.refl)
theorem nn_nil : NN s (.str "") := fun s' p Q X hq => sp_name_nil (hq _ Pf.refl)
theorem nn_bad {x : Str} (ho : okS x) (h1 : 1 ≤ x.length) (h2 : x.length ≤ 12) (hb : ∃ c ∈ x.cps.toList, (Builtin.Str.occurrences letters ⟨#[c]⟩ 0 letters.length 1).isEmpty = true) : NN s (.str x) := fun s' p Q X hq => sp_name_bad ho h1 h2 hb hq
/-- a name, or none: told -/
def Nm (s : S) (d : D) (b : Bool) : Prop := ∀ s', Pf s s' → ∀ (Q : D → S → Prop) (X : Xc), (∀ s2, Pf s' s2 → Q (.bl b) s2) → wE (d_is_name [d] s') Q X
theorem nm_of {x : Str} (h : NameOk x) : Nm s (.str x) true := fun s' p Q X hq => sp_is_name h hq
/-- no arc between p and q measures -/
def NA (s : S) (p q : Nat) (d : D) : Prop := ∀ s', Pf s s' → ∀ (Q : D → S → Prop) (X : Xc), Q (.bl false) s' → wE (d_is_arc [d, .int p, .int q] s') Q X
theorem sp_whole_no {d : D} (h : isTy s d .int = some false) (hQ : Q (.bl false) s) : wE (d_is_whole [d] s) Q X := by
  unfold d_is_whole
  refine (v_def (by rfl)).mpr ?_
  unfold b_is_whole
  simp [h]
  exact hQ
theorem sp_whole_b {b : Bool} (hQ : Q (.bl false) s) : wE (d_is_whole [.bl b] s) Q X := by
  unfold d_is_whole
  refine (v_def (by rfl)).mpr ?_
  unfold b_is_whole
  simp [isTy]
  exact hQ
theorem na_no {p q : Nat} {d : D} (h : isTy s d .tuple = some false) : NA s p q d := fun s' pf Q X hq => by
  unfold d_is_arc
  refine (v_def (by rfl)).mpr ?_
  unfold b_is_arc
  simp [isTy_pf h pf]
  exact hq
theorem na_len {p q : Nat} {ds : List D} (h : ds.length ≠ 3) : NA s p q (.tup ds) := fun s' pf Q X hq => by
  unfold d_is_arc
  refine (v_def (by rfl)).mpr ?_
  unfold b_is_arc
  have : ¬ (ds.length : Int) = 3 := by omega
  have hb : ((ds.length : Int) == 3) = false := by simpa using this
  have ht : isTy s' (.tup ds) .tuple = some true := rfl
  have hl : lenD s' (.tup ds) = some ds.length := rfl
  simp [ht, hl, eqD_int]
  rw [hb]
  exact hq
theorem na_0 {p q : Nat} {a b c : D} (h : isTy s a .int = some false) : NA s p q (.tup [a, b, c]) := fun s' pf Q X hq => by
  unfold d_is_arc
  refine (v_def (by rfl)).mpr ?_
  unfold b_is_arc
  simp [isTy, lenD, eqD_int]
  refine sp_whole_no (isTy_pf h pf) ?_
  simp
  exact hq
theorem na_b {p q : Nat} {a : Bool} {b c : D} : NA s p q (.tup [.bl a, b, c]) := fun s' pf Q X hq => by
  unfold d_is_arc
  refine (v_def (by rfl)).mpr ?_
  unfold b_is_arc
  simp [isTy, lenD, eqD_int]
  refine sp_whole_b ?_
  simp
  exact hq
theorem na_1 {p q : Nat} {i : Int} {b c : D} (h : isTy s b .int = some false) : NA s p q (.tup [.int i, b, c]) := fun s' pf Q X hq => by
  unfold d_is_arc
  refine (v_def (by rfl)).mpr ?_
  unfold b_is_arc
  simp [isTy, lenD, eqD_int]
  refine sp_whole ?_
  simp
  refine sp_whole_no (isTy_pf h pf) ?_
  simp
  exact hq
theorem na_int {p q : Nat} {i j : Int} {c : D} (h : ¬ (0 ≤ i ∧ i < p) ∨ ¬ (0 ≤ j ∧ j < q) ∨ ∀ s', isTy s' c .bool = some false) : NA s p q (.tup [.int i, .int j, c]) := fun s' pf Q X hq => by
  unfold d_is_arc
  refine (v_def (by rfl)).mpr ?_
  unfold b_is_arc
  have ht : isTy s' (.tup [.int i, .int j, c]) .tuple = some true := rfl
  have hl : lenD s' (.tup [.int i, .int j, c]) = some 3 := rfl
  simp [ht, hl, eqD_int]
  refine sp_whole ?_
  simp
  refine sp_whole ?_
  simp
  by_cases h0 : 0 ≤ i
  · by_cases h1 : i < p
    · by_cases h2 : 0 ≤ j
      · by_cases h3 : j < q
        · have hc : isTy s' c .bool = some false := by
            rcases h with h | h | h
            · exact absurd ⟨h0, h1⟩ h
            · exact absurd ⟨h2, h3⟩ h
            · exact h s'
          simp [h0, h1, h2, h3, hc]
          exact hq
        · simp [h0, h1, h2, h3]
          exact hq
      · simp [h0, h1, h2]
        exact hq
    · simp [h0, h1]
      exact hq
  · simp [h0]
    exact hq
end
end PB
namespace PB
open PySem Fc P1 P85
open PW (Gd Arcs)
section
variable {s : S} {X : Xc} {Q : D → S → Prop}
theorem wE_both {α : Type} {m : Option (Res α)} {Q Q' : α → S → Prop} (h : wE m Q (fun _ _ _ => False)) (k : wE m Q' (fun _ _ _ => False)) : ∃ x s, Q x s ∧ Q' x s := by
  obtain ⟨x, s1, e, h1⟩ := wE_out h
  rw [e] at k
  exact ⟨x, s1, h1, w_some.mp k⟩
/-- data that == looks at, lists with them -/
def De (s : S) (d : D) : Prop := ∃ x : PyData, (∀ s', Pf s s' → ∀ n, dat s' (n + 4) d = some x) ∧ x.canLay0 = true ∧ x.depth ≤ 10
theorem De.pf {s' : S} {d : D} (h : De s d) (p : Pf s s') : De s' d := by
  obtain ⟨x, h1, h2⟩ := h
  exact ⟨x, fun s2 q n => h1 s2 (p.trans q) n, h2⟩
theorem de_te {d : D} (h : Te d) : De s d := by
  obtain ⟨_, x, h1, h2, h3⟩ := h
  exact ⟨x, fun s' _ n => h1 s' (n + 2), h2, by omega⟩
theorem de_ints {l : List D} (h : ∀ d ∈ l, Te d) : De s (.tup l) := by
  obtain ⟨xs, h1, h2, h3, _⟩ := tes h
  refine ⟨.tuple xs, fun s' _ n => ?_, by simp only [PyData.canLay0, h2], by simp only [PyData.depth]; omega⟩
  rw [dat_tup, h1 s' (n + 1)]
  rfl
theorem de_lst {n : Nat} {l : List D} (hn : s[n]? = some (.lst l)) (h : ∀ d ∈ l, Te d) : De s (.ref n) := by
  obtain ⟨xs, h1, h2, h3, _⟩ := tes h
  refine ⟨.list xs, fun s' p k => ?_, by simp only [PyData.canLay0, h2], by simp only [PyData.depth]; omega⟩
  rw [dat_ref (p _ _ hn), h1 s' (k + 1)]
  rfl
theorem des : ∀ {ds : List D}, (∀ d ∈ ds, De s d) → ∃ xs : List PyData, dats s 59 ds = some xs ∧ PyData.canLayAll0 xs = true ∧ PyData.depthAll xs ≤ 10 ∧ xs.length = ds.length
  | [], _ => ⟨[], dats_nil, rfl, by decide, rfl⟩
  | d :: ds, h => by
    obtain ⟨x, h1, h2, h3⟩ := h d (List.mem_cons_self ..)
    obtain ⟨xs, k1, k2, k3, k4⟩ := des fun d hd => h d (List.mem_cons_of_mem _ hd)
    refine ⟨x :: xs, dats_cons (h1 s Pf.refl 55) k1, ?_, ?_, by simp [k4]⟩
    · simp only [PyData.canLayAll0, h2, k2, Bool.and_self]
    · simp only [PyData.depthAll]; omega
theorem eq_nilD {n m : Nat} {ds : List D} (hd : ∀ d ∈ ds, De s d) (h : s[n]? = some (.lst ds)) (h2 : s[m]? = some (.lst [])) : eqD s (.ref n) (.ref m) = some ds.isEmpty := by
  obtain ⟨xs, h1, k2, k3, k4⟩ := des hd
  rw [eq_of (x := .list xs) (y := .list []) (by rw [dat_ref h, h1]; rfl) (by rw [dat_ref h2, dats_nil]; rfl) ?_ shaped_list0]
  · cases ds with
    | nil =>
      have : xs = [] := List.eq_nil_of_length_eq_zero (by simpa using k4)
      subst this
      rfl
    | cons d ds =>
      cases xs with
      | nil => simp at k4
      | cons x xs => rfl
  · refine Bool.and_eq_true_iff.mpr ⟨by simp only [PyData.canLay0, k2], decide_eq_true ?_⟩
    simp only [PyData.depth]
    omega
/-- no call of a program with these functions -/
def NC (s : S) (hs : List (Str × Nat)) (d : D) : Prop := ∀ s' m, Pf s s' → s'[m]? = some (.dK (mvH hs)) → ∀ (Q : D → S → Prop) (X : Xc), (∀ s2, Pf s' s2 → Q (.bl false) s2) → wE (d_is_call [d, .ref m] s') Q X
variable {hs : List (Str × Nat)}
theorem NC.pf {s' : S} {d : D} (h : NC s hs d) (p : Pf s s') : NC s' hs d := fun s2 m q hm => h s2 m (p.trans q) hm
def R2 : C := cSeq (cSet (eVar 0) (gTup 4 (gCons (gName 2) (gCons (gName 3) (gCons (gName 4) (gCons (gName 5) gNil))))))
 (cSeq (cIf (tOr (tB (e2 oNotIn (eVar 3) (eVar 1))) (tOr (tB (e2 oNotIn (eVar 4) (eVar 1))) (tNot (tE (e1 (oIs .list) (eVar 5))))))
 (cRet (eC (.bl false)))
 cNil)
 (cRet (e2 oEq (eLc [6] (iSrc .seq (eVar 5)) (gName 6) (tNot (tE (eCall d_is_arc [] (lCons (eVar 6) (lCons (e2 oAt (eVar 1) (eVar 3)) (lCons (e2 oAt (eVar 1) (eVar 4)) lNil)))))) (eVar 6)) (eN mLst lNil))))
open Classical in
noncomputable def arO (A : List Arc) (d : D) : Option D := if d ∈ A.map aD then none else some d
end
end PB
namespace PB
open PySem Fc P1 P85
open PW (Gd Arcs)
/-- a call that a program with the calls l doesn't take -/
def BadC (s : S) (hs : List (Str × Nat)) (l : List Rw) (d : D) : Prop := NC s hs d ∨ ∃ q, d = rwD q ∧ RwOk s hs q ∧ q.nm ∈ l.map (·.nm)
theorem BadC.pf {s s' : S} {hs : List (Str × Nat)} {l : List Rw} {d : D} (h : BadC s hs l d) (p : Pf s s') : BadC s' hs l d := by
  rcases h with h | ⟨q, e, h1, h2⟩
  · exact .inl (h.pf p)
  · exact .inr ⟨q, e, h1.mono fun o e => p _ _ e, h2⟩
section
variable {s : S} {p m k : Nat} {hs : List (Str × Nat)} {l : List Rw} {d : D} {X : Xc} {Q : D → S → Prop}
end
end PB
namespace PB
open PySem Fc P1 P85
open PW (Gd Arcs)
section
variable {s : S} {X : Xc} {Q : D → S → Prop}
end
end PB
namespace PB
open PySem Fc P1 P85
open PW (Gd Arcs)
/-- repr reads d at depth k, small enough -/
def Rx (k B : Nat) (s : S) (d : D) : Prop := ∃ x : PyData, (∀ s', Pf s s' → ∀ n, datR s' (n + k) d = some x) ∧ x.showable = true ∧ x.leavesShort 13 = true ∧ x.bulk ≤ B ∧ okS x.shown
section
variable {s s' : S} {d : D} {k B : Nat}
theorem Rx.pf (h : Rx k B s d) (p : Pf s s') : Rx k B s' d := by
  obtain ⟨x, h1, h2⟩ := h
  exact ⟨x, fun s2 q n => h1 s2 (p.trans q) n, h2⟩
theorem Rx.mono {k' B' : Nat} (h : Rx k B s d) (hk : k ≤ k') (hB : B ≤ B') : Rx k' B' s d := by
  obtain ⟨x, h1, h2, h3, h4, h5⟩ := h
  refine ⟨x, fun s2 q n => ?_, h2, h3, by omega, h5⟩
  have := h1 s2 q (n + (k' - k))
  rw [show n + (k' - k) + k = n + k' by omega] at this
  exact this
theorem rx_ti (h : Ti d) : Rx 2 100 s d := by
  obtain ⟨x, h1, h2, h3, h4, h5⟩ := h
  exact ⟨x, fun s' _ n => h1 s' n, h2, h3, h4, okS_shown x h5⟩
theorem rxs : ∀ {ds : List D}, (∀ d ∈ ds, Rx k B s d) → ∃ xs : List PyData, (∀ s', Pf s s' → ∀ n, datRs s' (n + k) ds = some xs) ∧ PyData.showableAll xs = true ∧ PyData.leavesShortAll 13 xs = true ∧ PyData.bulkAll xs ≤ (B + 1) * ds.length ∧ (∀ t ∈ PyData.shownAll xs, okS t) ∧ xs.length = ds.length
  | [], _ => ⟨[], fun s' _ n => by simp only [datRs], rfl, rfl, by simp [PyData.bulkAll], fun t h => by simp only [PyData.shownAll, List.not_mem_nil] at h, rfl⟩
  | d :: ds, h => by
    obtain ⟨x, h1, h2, h3, h4, h5⟩ := h d (List.mem_cons_self ..)
    obtain ⟨xs, k1, k2, k3, k4, k5, k6⟩ := rxs fun d hd => h d (List.mem_cons_of_mem _ hd)
    refine ⟨x :: xs, fun s' p n => by simp only [datRs, h1 s' p n, k1 s' p n], ?_, ?_, ?_, ?_, by simp [k6]⟩
    · simp only [PyData.showableAll, h2, k2, Bool.and_self]
    · simp only [PyData.leavesShortAll, h3, k3, Bool.and_self]
    · simp only [PyData.bulkAll, List.length_cons, Nat.mul_succ]; omega
    · intro t ht
      simp only [PyData.shownAll, List.mem_cons] at ht
      rcases ht with rfl | ht
      · exact h5
      · exact k5 t ht
theorem rx_tup {ds : List D} (h : ∀ d ∈ ds, Rx k B s d) : Rx (k + 1) ((B + 1) * ds.length) s (.tup ds) := by
  obtain ⟨xs, h1, h2, h3, h4, h5, _⟩ := rxs h
  refine ⟨.tuple xs, fun s' p n => ?_, by simpa only [PyData.showable] using h2, by simpa only [PyData.leavesShort] using h3, by simpa only [PyData.bulk] using h4, ?_⟩
  · rw [show n + (k + 1) = (n + k) + 1 by omega]
    simp only [datR, h1 s' p n, Option.map_some]
  · simp only [PyData.shown]
    exact okS_tuple h5
theorem rx_lst {n : Nat} {ds : List D} (hn : s[n]? = some (.lst ds)) (h : ∀ d ∈ ds, Rx k B s d) : Rx (k + 1) ((B + 1) * ds.length) s (.ref n) := by
  obtain ⟨xs, h1, h2, h3, h4, h5, _⟩ := rxs h
  refine ⟨.list xs, fun s' p m => ?_, by simpa only [PyData.showable] using h2, by simpa only [PyData.leavesShort] using h3, by simpa only [PyData.bulk] using h4, ?_⟩
  · rw [show m + (k + 1) = (m + k) + 1 by omega]
    simp only [datR, p _ _ hn, h1 s' p m, Option.map_some]
  · simp only [PyData.shown]
    exact okS_list h5
theorem okS_dict {ts : List Str} (h : ∀ t ∈ ts, okS t) : okS (dictText ts) := okS_app (okS_app okS_of (okS_join okS_of h)) okS_of
/-- a dict with texts as keys, small numbers as values -/
theorem kv_ok : ∀ (hs : List (Str × Nat)), (∀ x ∈ hs, okS x.1 ∧ x.1.length ≤ 100 ∧ x.2 < 50) →
    ∃ xs : List PyData, (∀ (s : S) (n : Nat), datRs s (n + 2) ((mvH hs).map (·.2)) = some xs) ∧ PyData.showableKv (((mvH hs).map fun kv => keyP kv.1).zip xs) = true ∧ PyData.leavesShortKv 13 (((mvH hs).map fun kv => keyP kv.1).zip xs) = true ∧ PyData.bulkKv (((mvH hs).map fun kv => keyP kv.1).zip xs) ≤ 300 * hs.length ∧ ∀ t ∈ PyData.shownKv (((mvH hs).map fun kv => keyP kv.1).zip xs), okS t
  | [], _ => ⟨[], fun s n => by simp only [mvH, List.map_nil, datRs], rfl, rfl, by simp [mvH, PyData.bulkKv], fun t h => by simp [mvH, PyData.shownKv] at h⟩
  | x :: hs, h => by
    obtain ⟨h1, h2, h3⟩ := h x (List.mem_cons_self ..)
    obtain ⟨xs, k1, k2, k3, k4, k5⟩ := kv_ok hs fun y hy => h y (List.mem_cons_of_mem _ hy)
    obtain ⟨y1, a1, a2, a3, a4, a5⟩ := ti_str h1 h2
    obtain ⟨y2, b1, b2, b3, b4, b5⟩ := ti_int (i := (x.2 : Int)) (by omega) (by omega)
    have e1 : keyP (.inr x.1) = y1 := by
      have := a1 [] 0
      simp only [datR] at this
      exact Option.some.inj this
    have em : mvH (x :: hs) = (.inr x.1, .int x.2) :: mvH hs := rfl
    refine ⟨y2 :: xs, fun s n => ?_, ?_, ?_, ?_, ?_⟩
    · rw [em]
      simp only [List.map_cons, datRs, b1 s n, k1 s n]
    · rw [em]
      simp only [List.map_cons, List.zip_cons_cons, PyData.showableKv, e1, a2, b2, k2, Bool.and_self]
    · rw [em]
      simp only [List.map_cons, List.zip_cons_cons, PyData.leavesShortKv, e1, a3, b3, k3, Bool.and_self]
    · rw [em]
      simp only [List.map_cons, List.zip_cons_cons, PyData.bulkKv, e1, List.length_cons]
      omega
    · rw [em]
      intro t ht
      simp only [List.map_cons, List.zip_cons_cons, PyData.shownKv, e1, List.mem_cons] at ht
      rcases ht with rfl | ht
      · exact okS_app (okS_app (okS_shown _ a5) okS_of) (okS_shown _ b5)
      · exact k5 t ht
theorem rx_sizes {n : Nat} {hs : List (Str × Nat)} (hn : s[n]? = some (.dK (mvH hs))) (h : ∀ x ∈ hs, okS x.1 ∧ x.1.length ≤ 100 ∧ x.2 < 50) : Rx 3 (300 * hs.length) s (.ref n) := by
  obtain ⟨xs, k1, k2, k3, k4, k5⟩ := kv_ok hs h
  refine ⟨.dict _, fun s' p m => ?_, by simpa only [PyData.showable] using k2, by simpa only [PyData.leavesShort] using k3, by simpa only [PyData.bulk] using k4, ?_⟩
  · rw [show m + 3 = (m + 2) + 1 by omega]
    simp only [datR, p _ _ hn, k1 s' m, Option.map_some]
  · simp only [PyData.shown]
    exact okS_dict k5
theorem Rx.rp (h : Rx k B s d) (hk : k ≤ 60) (hB : B ≤ 1000000) : ∃ t, ∀ s', Pf s s' → Rp s' d t := by
  obtain ⟨x, h1, h2, h3, h4, h5⟩ := h
  refine ⟨x.shown, fun s' p => ⟨⟨x, ?_, h2, ?_, rfl⟩, okS_iff.mpr h5⟩⟩
  · have := h1 s' p (60 - k)
    rw [show 60 - k + k = 60 by omega] at this
    exact this
  · have := PyData.shown_fits_bulk (B := 13) (by decide) (by decide) h3 (by omega)
    exact decide_eq_true (by rw [sizeLine_eq] at this; omega)
theorem rx_arc {a : Arc} (h : a.1 < 4 ∧ a.2.1 < 4) : Rx 3 400 s (aD a) := by
  refine (rx_tup (k := 2) (B := 100) fun d hd => ?_).mono (by omega) (by simp)
  simp only [List.mem_cons, List.not_mem_nil, or_false] at hd
  rcases hd with rfl | rfl | rfl
  · exact rx_ti (ti_int (by omega) (by omega))
  · exact rx_ti (ti_int (by omega) (by omega))
  · exact rx_ti ti_bl
theorem rx_arcs {n : Nat} {A : List Arc} (hn : s[n]? = some (.lst (A.map aD))) (h : ∀ a ∈ A, a.1 < 4 ∧ a.2.1 < 4) (hl : A.length ≤ 40) : Rx 4 20000 s (.ref n) := by
  refine (rx_lst (k := 3) (B := 400) hn fun d hd => ?_).mono (by omega) (by simp; omega)
  obtain ⟨a, ha, rfl⟩ := List.mem_map.mp hd
  exact rx_arc (h a ha)
end
end PB
namespace PB
open PySem Fc P1 P85
open PW (Gd Arcs)
/-- all stays but what stands at n -/
def Kn (n : Nat) (s s' : S) : Prop := s.length ≤ s'.length ∧ ∀ w : Nat, w ≠ n → ∀ o, s[w]? = some o → s'[w]? = some o
theorem Kn.refl {n : Nat} {s : S} : Kn n s s := ⟨Nat.le_refl _, fun _ _ _ h => h⟩
theorem Kn.pf {n : Nat} {s s1 s2 : S} (a : Kn n s s1) (b : Pf s1 s2) : Kn n s s2 := ⟨Nat.le_trans a.1 b.len, fun w hw o h => b _ _ (a.2 w hw o h)⟩
theorem Kn.af {n : Nat} {s s1 s2 : S} (a : Kn n s s1) (b : Af s1 (.ref n) s2) : Kn n s s2 := by
  rcases b with ⟨_, b⟩ | ⟨w, ds, e, _, _, h4, h5⟩
  · exact a.pf b
  · cases e
    exact ⟨Nat.le_trans a.1 h4, fun w hw o h => h5 w hw o (a.2 w hw o h)⟩
section
variable {s : S} {p m k : Nat} {hs : List (Str × Nat)} {l : List Rw} {P : Pst} {R : C} {a1 a2 a3 a4 a5 a6 a7 a9 a10 a11 a12 t8 : Option D}
theorem bv_rx {kk B : Nat} {d : D} (h : Rx kk B s d) (hk : kk ≤ 60) (hB : B ≤ 1000000) (ht : isTy s d .list = some false) : ∃ t, Bv s d t := by
  obtain ⟨t, h1⟩ := h.rp hk hB
  refine ⟨t, .inl ht, fun s' a => ?_⟩
  rcases a with ⟨_, pf⟩ | ⟨n, ds, e, hn, _⟩
  · exact h1 s' pf
  · subst e
    simp [isTy, hn] at ht
theorem Kn.pa {n : Nat} {ds : List D} {s' : S} (h : PA s p m k hs l) (hn : s[n]? = some (.lst ds)) (q : Kn n s s') : PA s' p m k hs l := by
  have n1 : p ≠ n := fun z => by have := h.at_; rw [z, hn] at this; cases this
  have n2 : m ≠ n := fun z => by have := h.many; rw [z, hn] at this; cases this
  have n3 : k ≠ n := fun z => by have := h.known; rw [z, hn] at this; cases this
  exact ⟨q.2 _ n1 _ h.at_, q.2 _ n2 _ h.many, q.2 _ n3 _ h.known⟩
end
end PB
namespace PB
open PySem Fc P1 P85
open PW (Gd Arcs)
section
variable {s : S} {p m k : Nat} {hs : List (Str × Nat)} {l : List Rw} {P : Pst} {R : C} {a0 a1 a2 a3 a4 a5 a6 a7 a9 a10 a11 a12 t8 : Option D}
/-- what turn_prog asks -/
structure PrOk (s : S) (d : D) : Prop where
  j : ∀ s', Af s d s' → isJ s' d ["Program"] = some false
  j0 : isJ s d ["Program"] = some false
  b : ∃ t, Bv s d t
  b2 : ∀ s', Af s d s' → ∃ t, Bv s' d t
theorem bv_lst {n : Nat} {ds : List D} (hn : s[n]? = some (.lst ds)) (ht : ∀ d ∈ ds, Ti d) (hl : ds.length < 49) : ∃ t, Bv s (.ref n) t := by
  obtain ⟨t, h1⟩ := rp_lst (ds := ds ++ [.str "more"]) (fun d hd => by
    rcases List.mem_append.mp hd with hd | hd
    · exact ht d hd
    · simp at hd; subst hd; exact ti_more) (by simp; omega)
  refine ⟨t, .inr ⟨n, ds, rfl, hn, by omega⟩, fun s' a => ?_⟩
  rcases a with ⟨z, _⟩ | ⟨n', ds', e, h2, h3, _⟩
  · simp [isTy, hn] at z
  · cases e
    rw [hn] at h2
    cases h2
    exact h1 _ _ h3
end
end PB
namespace PB
open PySem Fc P1 P85
open PW (Gd Arcs All2)
section
variable {s : S} {P : Pst} {R : C} {nm src tgt : Str} {a o9 : Nat} {A : List Arc} {ds : List D} {p0 c0 q0 z0 : D} {zd : Nat} {t8 t9 t10 t11 t12 : Option D}
def c4 (nm src tgt : Str) (e : D) : D := .tup [.str nm, .str src, .str tgt, e]
end
end PB
namespace PB
open PySem Fc P1 P85
open PW (Gd Arcs All2)
section
variable {s : S} {P : Pst} {R : C} {nm src tgt : Str} {a o9 C p : Nat} {A : List Arc} {ds : List D} {l : List Rw} {p0 q0 z0 : D} {t8 t9 t10 t11 t12 : Option D}
end
section
variable {s : S} {hs : List (Str × Nat)} {l : List Rw} {nm : Str} {x y : Str × Nat} {a : Nat} {A : List Arc}
/-- what is known of the call -/
structure Kc (s : S) (hs : List (Str × Nat)) (nm : Str) (x y : Str × Nat) (a : Nat) (A : List Arc) : Prop where
  n1 : NameOk nm ∧ okS nm
  n2 : NameOk x.1 ∧ okS x.1
  n3 : NameOk y.1 ∧ okS y.1
  hx : x ∈ hs
  hy : y ∈ hs
  k1 : x.2 < 4
  k2 : y.2 < 4
  nd : (hs.map (·.1)).Nodup
  at_ : s[a]? = some (.lst (A.map aD))
  arcs : ∀ b ∈ A, b.1 < x.2 ∧ b.2.1 < y.2
  len : A.length ≤ 20
theorem Kc.go {s' : S} (h : Kc s hs nm x y a A) (k : s'[a]? = some (.lst (A.map aD))) : Kc s' hs nm x y a A := ⟨h.n1, h.n2, h.n3, h.hx, h.hy, h.k1, h.k2, h.nd, k, h.arcs, h.len⟩
theorem nl_len {z : Str} (h : NameOk z) : z.length ≤ 100 := by have := h.2.1; omega
theorem Kc.rx (h : Kc s hs nm x y a A) : Rx 4 20000 s (.ref a) := rx_arcs h.at_ (fun b hb => by have := h.arcs b hb; have := h.k1; have := h.k2; omega) (by have := h.len; omega)
end
end PB
namespace PB
open PySem Fc P1 P85
open PW (Gd Arcs All2)
section
variable {s : S}
theorem te_tup_rx4 {ds : List D} (h1 : ∀ d ∈ ds, Te d) (h2 : ∀ d ∈ ds, Ti d) (hl : ds.length ≤ 4) : De s (.tup ds) ∧ Rx 3 500 s (.tup ds) :=
  ⟨de_ints h1, (rx_tup (k := 2) (B := 100) fun d hd => rx_ti (h2 d hd)).mono (by omega) (by omega)⟩
/-- small data -/
def Sm (d : D) : Prop := Te d ∧ Ti d
theorem sm_int {i : Int} (h1 : -50 ≤ i) (h2 : i < 50) : Sm (.int i) := ⟨te_int, ti_int h1 h2⟩
theorem sm_bl {b : Bool} : Sm (.bl b) := ⟨te_bl, ti_bl⟩
theorem sm_non : Sm .non := ⟨te_non, ti_non⟩
theorem sm_0 : Sm (.str "0") := ⟨te_str okS_of, ti_str okS_of (by decide +kernel)⟩
theorem sm3 {a b c : D} (h1 : Sm a) (h2 : Sm b) (h3 : Sm c) : De s (.tup [a, b, c]) ∧ Rx 3 500 s (.tup [a, b, c]) := by
  refine te_tup_rx4 (fun d hd => ?_) (fun d hd => ?_) (by simp)
  · simp only [List.mem_cons, List.not_mem_nil, or_false] at hd
    rcases hd with rfl | rfl | rfl
    · exact h1.1
    · exact h2.1
    · exact h3.1
  · simp only [List.mem_cons, List.not_mem_nil, or_false] at hd
    rcases hd with rfl | rfl | rfl
    · exact h1.2
    · exact h2.2
    · exact h3.2
end
end PB
namespace PB
open PySem Fc P1 P85
open PW (Gd Arcs All2)
section
variable {s : S} {p m k C zd : Nat} {hs : List (Str × Nat)} {l : List Rw} {q : Rw} {X : Xc} {Q : D → S → Prop}
theorem Gd.hok (g : Gd hs l) {x : Str × Nat} (hx : x ∈ hs) : NameOk x.1 ∧ okS x.1 :=
  ⟨PW.nameOk_of ⟨(g.wd.hn x hx).1, g.n1 x hx, (g.wd.hn x hx).2.1⟩, (g.wd.hn x hx).1.okS⟩
end
end PB
namespace P20
open PySem Fc
noncomputable section
def b_law_bad_arcs : C :=
 (cSeq (cSet (eN mLst (lCons (eC .non) (lCons (eC (.int 5)) (lCons (eC (.str "0>1")) (lCons (eCut (eVar 0) pNo (pYes (eC (.int 2)))) (lCons (e2 oAdd (eVar 0) (eN mTup (lCons (eC (.int 0)) lNil))) (lCons (eN fList (lCons (eVar 0) lNil)) (lCons (e2 oAdd (eN mTup (lCons (eC (.bl true)) lNil)) (eCut (eVar 0) (pYes (eC (.int 1))) pNo)) (lCons (e2 oAdd (eCut (eVar 0) pNo (pYes (eC (.int 2)))) (eN mTup (lCons (eC (.int 1)) lNil))) (lCons (e2 oAdd (eCut (eVar 0) pNo (pYes (eC (.int 2)))) (eN mTup (lCons (eC .non) lNil))) lNil)))))))))) (gName 1))
 (cSeq (cFor (iSrc .seq (eN mLst (lCons (eC .non) (lCons (eC (.str "0")) (lCons (eN mLst (lCons (eC (.int 0)) lNil)) (lCons (eN mTup lNil) (lCons (e1 oNeg (eC (.int 1))) lNil))))))) (gName 2)
 (cSet (e2 oAdd (eVar 1) (eN mLst (lCons (e2 oAdd (eN mTup (lCons (eVar 2) lNil)) (eCut (eVar 0) (pYes (eC (.int 1))) pNo)) (lCons (eN mTup (lCons (e2 oAt (eVar 0) (eC (.int 0))) (lCons (eVar 2) (lCons (e2 oAt (eVar 0) (eC (.int 2))) lNil)))) lNil)))) (gName 1)))
 (cRet (e2 oAdd (eVar 1) (eN mLst (lCons (eN mTup (lCons (e2 oAt (eVar 0) (eC (.int 0))) (lCons (eC (.bl true)) (lCons (e2 oAt (eVar 0) (eC (.int 2))) lNil)))) (lCons (eN mTup (lCons (e2 oAt (eVar 0) (eC (.int 0))) (lCons (eC (.bl false)) (lCons (e2 oAt (eVar 0) (eC (.int 2))) lNil)))) lNil)))))))
def d_law_bad_arcs : F := defF 1 3 b_law_bad_arcs
def b_law_bent : C :=
 (cSeq (cSet (eVar 0) (gTup 3 (gCons (gName 1) (gCons (gName 2) (gCons (gName 3) gNil)))))
 (cSeq (cSet (eN mLst (lCons (eC .non) (lCons (eC (.int 3)) (lCons (eC (.str "table")) (lCons (eN (fun _ => mDK) lNil) (lCons (eC (.bl true)) (lCons (eN mTup lNil) (lCons (eN mLst (lCons (eVar 1) (lCons (eVar 2) (lCons (eVar 3) lNil)))) (lCons (eN mTup (lCons (eVar 1) (lCons (eVar 2) lNil))) (lCons (eN mTup (lCons (eVar 1) (lCons (eVar 2) (lCons (eVar 3) (lCons (eC (.int 0)) lNil))))) lNil)))))))))) (gName 4))
 (cSeq (cExpr (eM mAppend (eVar 4) (lCons (eN mTup (lCons (eVar 1) (lCons (eVar 2) (lCons (eN fList (lCons (eVar 3) lNil)) lNil)))) lNil)))
 (cSeq (cFor (iSrc .seq (eN mLst (lCons (eC .non) (lCons (eC (.int 5)) (lCons (eC (.str "")) (lCons (eC (.str "F")) (lCons (eC (.str "f1")) (lCons (eC (.str "abcdefghijklm")) (lCons (eN mLst (lCons (eC (.str "f")) lNil)) (lCons (eC (.str "f ")) (lCons (eC (.str "f\n")) (lCons (eC (.bl true)) lNil)))))))))))) (gName 5)
 (cSet (e2 oAdd (eVar 4) (eN mLst (lCons (eN mTup (lCons (eVar 5) (lCons (eVar 2) (lCons (eVar 3) lNil)))) (lCons (eN mTup (lCons (eVar 1) (lCons (eVar 5) (lCons (eVar 3) lNil)))) lNil)))) (gName 4)))
 (cSeq (cFor (iSrc .seq (eN mLst (lCons (eC .non) (lCons (eC (.int 3)) (lCons (eN (fun _ => mDK) lNil) (lCons (eC (.str "arcs")) (lCons (eN mTup (lCons (eC .non) lNil)) (lCons (eN mTup (lCons (eN mTup (lCons (eC (.int 0)) (lCons (eC (.int 0)) lNil))) lNil)) (lCons (eN mTup (lCons (eN mTup (lCons (eC (.int 0)) (lCons (eC (.int 3)) (lCons (eC (.bl true)) lNil)))) lNil)) (lCons (eN mTup (lCons (eN mTup (lCons (eC (.int 3)) (lCons (eC (.int 0)) (lCons (eC (.bl false)) lNil)))) lNil)) (lCons (eN mTup (lCons (eN mTup (lCons (e1 oNeg (eC (.int 1))) (lCons (eC (.int 0)) (lCons (eC (.bl true)) lNil)))) lNil)) lNil))))))))))) (gName 5)
 (cExpr (eM mAppend (eVar 4) (lCons (eN mTup (lCons (eVar 1) (lCons (eVar 2) (lCons (eVar 5) lNil)))) lNil))))
 (cSeq (cFor (iSrc .seq (eCall d_law_bad_arcs [] (lCons (eN mTup (lCons (eC (.int 2)) (lCons (eC (.int 2)) (lCons (eC (.bl true)) lNil)))) lNil))) (gName 5)
 (cExpr (eM mAppend (eVar 4) (lCons (eN mTup (lCons (eVar 1) (lCons (eVar 2) (lCons (e2 oAdd (eN fTuple (lCons (eLc [6] (iSrc .seq (eVar 3)) (gName 6) (tB (e2 oNe (eCut (eVar 6) pNo (pYes (eC (.int 2)))) (eN mTup (lCons (eC (.int 2)) (lCons (eC (.int 2)) lNil))))) (eVar 6)) lNil)) (eN mTup (lCons (eVar 5) lNil))) lNil)))) lNil))))
 (cSeq (cFor (iSrc .seq (e2 oAdd (eCall d_law_bad_arcs [] (lCons (eN mTup (lCons (eC (.int 0)) (lCons (eC (.int 0)) (lCons (eC (.bl true)) lNil)))) lNil)) (eN mLst (lCons (eN mTup (lCons (eC (.int 0)) (lCons (eC (.int 3)) (lCons (eC (.bl true)) lNil)))) (lCons (eN mTup (lCons (eC (.int 3)) (lCons (eC (.int 0)) (lCons (eC (.bl true)) lNil)))) (lCons (eN mTup (lCons (eC (.int 0)) (lCons (eC (.int 5)) (lCons (eC (.bl false)) lNil)))) lNil)))))) (gName 5)
 (cExpr (eM mAppend (eVar 4) (lCons (eN mTup (lCons (eVar 1) (lCons (eVar 2) (lCons (eN mTup (lCons (eVar 5) (lCons (eN mTup (lCons (eC (.int 2)) (lCons (eC (.int 2)) (lCons (eC (.bl true)) lNil)))) lNil))) lNil)))) lNil))))
 (cSeq (cIf (tB (e2 oNe (eVar 3) (eN mTup lNil)))
 (cSeq (cSet (e2 oAdd (eCut (e2 oAt (eVar 3) (eC (.int 0))) pNo (pYes (eC (.int 2)))) (eN mTup (lCons (eNotT (tE (e2 oAt (e2 oAt (eVar 3) (eC (.int 0))) (eC (.int 2))))) lNil))) (gName 7))
 (cSet (e2 oAdd (eVar 4) (eN mLst (lCons (eN mTup (lCons (eVar 1) (lCons (eVar 2) (lCons (e2 oAdd (eVar 3) (eCut (eVar 3) (pYes (e1 oNeg (eC (.int 1)))) pNo)) lNil)))) (lCons (eN mTup (lCons (eVar 1) (lCons (eVar 2) (lCons (e2 oAdd (e2 oAdd (eCut (eVar 3) pNo (pYes (eC (.int 1)))) (eN mTup (lCons (eVar 7) lNil))) (eCut (eVar 3) (pYes (eC (.int 1))) pNo)) lNil)))) lNil)))) (gName 4)))
 cNil)
 (cSeq (cIf (tB (e2 oGt (eN fLen (lCons (eVar 3) lNil)) (eC (.int 1))))
 (cExpr (eM mAppend (eVar 4) (lCons (eN mTup (lCons (eVar 1) (lCons (eVar 2) (lCons (e1 oRevT (eVar 3)) lNil)))) lNil)))
 cNil)
 (cRet (eVar 4)))))))))))
def d_law_bent : F := defF 1 8 b_law_bent
def b_check_table : C :=
 (cIf (tNot (tE (eCall P1.d_is_table [] (lCons (eVar 0) lNil))))
 (cRaise "InvalidTable" "value" (eVar 0))
 cNil)
def d_check_table : F := defF 1 1 b_check_table
def b_has_fall : C :=
 (cSeq (cExpr (eCall d_check_table [] (lCons (eVar 0) lNil)))
 (cRet (eAnd (e2 oEq (e2 oAt (eVar 0) (eC (.int 0))) (e2 oAt (eVar 0) (eC (.int 1)))) (eCall P1.d_falls_around [] (lCons (eVar 0) lNil)))))
def d_has_fall : F := defF 1 1 b_has_fall
def b_check_whole : C :=
 (cIf (tOr (tNot (tE (eCall P1.d_is_whole [] (lCons (eVar 0) lNil)))) (tOr (tB (e2 oLt (eVar 0) (eVar 1))) (tAnd (tB (e1 oNotN (eVar 2))) (tB (e2 oGt (eVar 0) (eVar 2))))))
 (cRaise "InvalidNumber" "value" (eVar 0))
 cNil)
def d_check_whole : F := defF 3 3 b_check_whole
def b_power : C :=
 (cSeq (cExpr (eCall d_check_table [] (lCons (eVar 0) lNil)))
 (cSeq (cIf (tB (e2 oNe (e2 oAt (eVar 0) (eC (.int 0))) (e2 oAt (eVar 0) (eC (.int 1)))))
 (cRaise "InvalidTable" "value" (eVar 0))
 cNil)
 (cSeq (cExpr (eCall d_check_whole [.non] (lCons (eVar 1) (lCons (eC (.int 1)) lNil))))
 (cSeq (cPar3 2 3 4 (lCons (eC .non) (lCons (eVar 0) (lCons (eVar 1) lNil))))
 (cSeq (cWhile (tB (e2 oGt (eVar 4) (eC (.int 0))))
 (cSeq (cIf (tB (e2 oEq (e2 oMod (eVar 4) (eC (.int 2))) (eC (.int 1))))
 (cSet (eIf (tB (e1 oIsN (eVar 2))) (eVar 3) (eCall P1.d_joined [] (lCons (eVar 2) (lCons (eVar 3) lNil)))) (gName 2))
 cNil)
 (cPar 3 4 (lCons (eCall P1.d_joined [] (lCons (eVar 3) (lCons (eVar 3) lNil))) (lCons (e2 oDiv (eVar 4) (eC (.int 2))) lNil)))))
 (cRet (eVar 2)))))))
def d_power : F := defF 2 5 b_power
def b_product : C :=
 (cSeq (cExpr (eCall d_check_table [] (lCons (eVar 0) lNil)))
 (cSeq (cExpr (eCall d_check_table [] (lCons (eVar 1) lNil)))
 (cSeq (cIf (tB (e2 oNe (e2 oAt (eVar 0) (eC (.int 1))) (e2 oAt (eVar 1) (eC (.int 0)))))
 (cRaise "InvalidTable" "value" (eVar 1))
 cNil)
 (cRet (eCall P1.d_joined [] (lCons (eVar 0) (lCons (eVar 1) lNil)))))))
def d_product : F := defF 2 2 b_product
def b_law_caught : C :=
 (cSeq (cSet (eC .non) (gName 3))
 (cSeq (cTryE ["CallsError", "InvalidTable", "InvalidNumber"] 4 3
 (cIf (tB (e2 oEq (eVar 0) (eC (.int 0))))
 (cExpr (eCall d_has_fall [] (lCons (eVar 1) lNil)))
 (cIf (tB (e2 oEq (eVar 0) (eC (.int 1))))
 (cExpr (eCall d_power [] (lCons (eVar 1) (lCons (eVar 2) lNil))))
 (cExpr (eCall d_product [] (lCons (eVar 1) (lCons (eVar 2) lNil)))))))
 (cSeq (cIf (tB (e1 oIsN (eVar 3)))
 (cRet (eC .non))
 cNil)
 (cSeq (cIf (tE (e1 (oIs .list) (e1 (oFld "value") (eVar 3))))
 (cExpr (eM mAppend (e1 (oFld "value") (eVar 3)) (lCons (eC (.str "more")) lNil)))
 cNil)
 (cRet (eN mLst (lCons (e1 (oIsJ ["InvalidTable"]) (eVar 3)) (lCons (e1 (oIsJ ["InvalidNumber"]) (eVar 3)) (lCons (eN fReprR (lCons (e1 (oFld "value") (eVar 3)) lNil)) lNil)))))))))
def d_law_caught : F := defF 3 5 b_law_caught
def b_law_refused : C :=
 (cSeq (cFor (iSrc .seq (eCall d_law_bent [] (lCons (eVar 0) lNil))) (gName 2)
 (cSeq (cIf (tB (e2 oNe (eN fReprR (lCons (eCall P1.d_is_table [] (lCons (eVar 2) lNil)) lNil)) (eC (.str "False"))))
 (cRet (eC (.bl false)))
 cNil)
 (cSeq (cFor (iRange (eC (.int 0)) (eC (.int 2))) (gName 3)
 (cIf (tB (e2 oNe (eCall d_law_caught [] (lCons (eVar 3) (lCons (eVar 2) (lCons (eC .non) lNil)))) (eN mLst (lCons (eC (.bl true)) (lCons (eC (.bl false)) (lCons (eN fReprR (lCons (eVar 2) lNil)) lNil))))))
 (cRet (eC (.bl false)))
 cNil))
 (cFor (iSrc .seq (eN mLst (lCons (eN mTup (lCons (eVar 2) (lCons (eC .non) lNil))) (lCons (eN mTup (lCons (eVar 0) (lCons (eVar 2) lNil))) (lCons (eN mTup (lCons (eVar 2) (lCons (eVar 2) lNil))) (lCons (eN mTup (lCons (eVar 2) (lCons (eVar 0) lNil))) lNil)))))) (gTup 2 (gCons (gName 4) (gCons (gName 5) gNil)))
 (cIf (tB (e2 oNe (eCall d_law_caught [] (lCons (eC (.int 2)) (lCons (eVar 4) (lCons (eVar 5) lNil)))) (eN mLst (lCons (eC (.bl true)) (lCons (eC (.bl false)) (lCons (eN fReprR (lCons (eVar 2) lNil)) lNil))))))
 (cRet (eC (.bl false)))
 cNil)))))
 (cSeq (cIf (tOr (tB (e2 oNe (eCall d_law_caught [] (lCons (eC (.int 2)) (lCons (eVar 0) (lCons (eVar 1) lNil)))) (eN mLst (lCons (eC (.bl true)) (lCons (eC (.bl false)) (lCons (eN fReprR (lCons (eVar 1) lNil)) lNil)))))) (tB (e2 oNe (eCall d_law_caught [] (lCons (eC (.int 1)) (lCons (eVar 1) (lCons (eC .non) lNil)))) (eN mLst (lCons (eC (.bl true)) (lCons (eC (.bl false)) (lCons (eN fReprR (lCons (eVar 1) lNil)) lNil)))))))
 (cRet (eC (.bl false)))
 cNil)
 (cSeq (cFor (iSrc .seq (eN mLst (lCons (eC .non) (lCons (eC (.int 0)) (lCons (e1 oNeg (eC (.int 1))) (lCons (eC (.bl true)) (lCons (eC (.str "1")) (lCons (eN mLst (lCons (eC (.int 1)) lNil)) (lCons (eN mTup (lCons (eC (.int 1)) lNil)) (lCons (eN (fun _ => mDK) lNil) lNil)))))))))) (gName 2)
 (cIf (tB (e2 oNe (eCall d_law_caught [] (lCons (eC (.int 1)) (lCons (eVar 0) (lCons (eVar 2) lNil)))) (eN mLst (lCons (eC (.bl false)) (lCons (eC (.bl true)) (lCons (eN fReprR (lCons (eVar 2) lNil)) lNil))))))
 (cRet (eC (.bl false)))
 cNil))
 (cSeq (cIf (tOr (tB (e1 oNotN (eCall d_law_caught [] (lCons (eC (.int 0)) (lCons (eVar 1) (lCons (eC .non) lNil)))))) (tB (e1 oNotN (eCall d_law_caught [] (lCons (eC (.int 1)) (lCons (eVar 0) (lCons (eC (.int 1)) lNil)))))))
 (cRet (eC (.bl false)))
 cNil)
 (cSeq (cIf (tB (e2 oNe (eCall d_law_caught [] (lCons (eC (.int 2)) (lCons (eVar 1) (lCons (eVar 1) lNil)))) (eN mLst (lCons (eC (.bl true)) (lCons (eC (.bl false)) (lCons (eN fReprR (lCons (eVar 1) lNil)) lNil))))))
 (cRet (eC (.bl false)))
 cNil)
 (cSeq (cIf (tAnd (tB (e2 oNe (e2 oAt (eVar 1) (eC (.int 1))) (e2 oAt (eVar 0) (eC (.int 0))))) (tB (e2 oNe (eCall d_law_caught [] (lCons (eC (.int 2)) (lCons (eVar 1) (lCons (eVar 0) lNil)))) (eN mLst (lCons (eC (.bl true)) (lCons (eC (.bl false)) (lCons (eN fReprR (lCons (eVar 0) lNil)) lNil)))))))
 (cRet (eC (.bl false)))
 cNil)
 (cRet (e1 oIsN (eCall d_law_caught [] (lCons (eC (.int 2)) (lCons (eVar 0) (lCons (eVar 0) lNil))))))))))))
def d_law_refused : F := defF 2 6 b_law_refused
def b_law : C :=
 (cSeq (cFor (iRange (eC (.int 0)) (eC (.int 4))) (gName 1)
 (cSeq (cSet (eCall P1.d_law_generator [] (lCons (eVar 0) (lCons (eVar 1) lNil))) (gName 2))
 (cSeq (cSet (eCall P85.d_law_title [] (lCons (eVar 2) (lCons (eC (.int 12)) lNil))) (gName 3))
 (cSeq (cSet (eCall P1.d_law_listed [] (lCons (eCall P1.d_law_grid [] (lCons (eCall P1.d_law_arcs [] (lCons (eVar 2) (lCons (eC (.int 3)) (lCons (eC (.int 3)) (lCons (e2 oAdd (eC (.int 1)) (eCall P1.d_law_random [] (lCons (eVar 2) (lCons (eC (.int 3)) lNil)))) lNil))))) lNil)) lNil)) (gName 4))
 (cSeq (cSet (eN mTup (lCons (eVar 3) (lCons (eVar 3) (lCons (eVar 4) lNil)))) (gName 5))
 (cSeq (cSet (eCall P85.d_law_title [] (lCons (eVar 2) (lCons (eC (.int 5)) lNil))) (gName 6))
 (cSeq (cSet (eN mTup (lCons (e2 oAt (eN mLst (lCons (eVar 6) (lCons (e2 oMulS (eC (.str "z")) (eC (.int 12))) lNil))) (eN fInt (lCons (e2 oEq (eVar 6) (eVar 3)) lNil))) (lCons (e2 oAdd (eCut (eVar 3) pNo (pYes (eC (.int 11)))) (eC (.str "q"))) (lCons (eVar 4) lNil)))) (gName 7))
 (cSeq (cIf (tOr (tB (e2 oEq (e2 oAt (eVar 7) (eC (.int 0))) (eVar 3))) (tB (e2 oEq (e2 oAt (eVar 7) (eC (.int 0))) (e2 oAt (eVar 7) (eC (.int 1))))))
 (cSet (eN mTup (lCons (eC (.str "zzq")) (lCons (eC (.str "zzz")) (lCons (eVar 4) lNil)))) (gName 7))
 cNil)
 (cSeq (cIf (tB (e2 oNe (eN fReprR (lCons (eN mLst (lCons (eCall P1.d_is_table [] (lCons (eVar 5) lNil)) (lCons (eCall P1.d_is_table [] (lCons (eVar 7) lNil)) (lCons (eCall P1.d_is_table [] (lCons (eN mTup (lCons (eVar 3) (lCons (eVar 6) (lCons (eN mTup lNil) lNil)))) lNil)) lNil)))) lNil)) (eN fReprR (lCons (e2 oMul (eN mLst (lCons (eC (.bl true)) lNil)) (eC (.int 3))) lNil))))
 (cRet (eC (.bl false)))
 cNil)
 (cIf (tAnd (tB (e2 oNe (e2 oAt (eVar 7) (eC (.int 0))) (eVar 3))) (tNot (tE (eCall d_law_refused [] (lCons (eVar 5) (lCons (eVar 7) lNil))))))
 (cRet (eC (.bl false)))
 cNil))))))))))
 (cRet (eC (.bl true))))
def d_law : F := defF 1 8 b_law
end
end P20
namespace Fc
open PySem
section
variable {s : S} {σ : Env}
@[simp ↓] theorem o_revT {ds : List D} {X : Xc} {Q : D → S → Prop} : wE (oRevT (.tup ds) s) Q X ↔ Q (.tup ds.reverse) s := by
  with_unfolding_all
    exact Iff.rfl
@[simp ↓] theorem k_tryE_if {sub : List Str} {i j : Nat} {t : T} {a b : C} {P : Pst} : wC (cTryE sub i j (cIf t a b) σ s) P ↔ wE (t σ s) (fun c s1 => onT c (wC (cTryE sub i j a σ s1) P) (wC (cTryE sub i j b σ s1) P)) (fun c fs s' => onT (sub.contains c) (P.nx (((σ.set i (some (.ref s'.length))).set j (some (.ref s'.length))).set i none) (s' ++ [.err c fs])) (P.xc c fs s')) := by
  with_unfolding_all
    unfold cTryE cIf ex
    cases h : t σ s with
    | none => rfl
    | some r =>
      cases r with
      | ok d s' => cases d <;> rfl
      | exc c fs s' =>
        dsimp only
        cases hc : sub.contains c with
        | true =>
          rw [if_pos rfl, w_exc, hc, onT_t]
          exact Iff.rfl
        | false =>
          rw [if_neg (by simp), w_exc, hc, onT_f]
          exact Iff.rfl
end
end Fc
namespace P20
open PySem Fc P1 P85 PB
theorem sp_title12 {s : S} {g B : Nat} {m : Int} {X : Xc} {Q : D → S → Prop} (hg : Gen s g (B + 1000)) (h1 : 0 < m) (h2 : m ≤ 12) (hQ : ∀ (s' : S) (x : Str), Fr g s s' → Gen s' g B → Ltr x → 1 ≤ x.length → (x.length : Int) ≤ m → Q (.str x) s') : wE (P85.d_law_title [.ref g, .int m] s) Q X := by
  unfold P85.d_law_title
  refine (v_def (by rfl)).mpr ?_
  unfold P85.b_law_title
  simp
  refine sp_random (B := B + 960) (by exact hg) h1 (by omega) fun z o p1 p2 g1 => ?_
  simp
  rw [show small (1 + z) = true by unfold small; simp; omega, onT_t]
  have hlen : (rangeL 0 (1 + z)).length = (1 + z).toNat := by rw [rangeL_len]; simp
  generalize rangeL 0 (1 + z) = ds at hlen
  refine wC_forV (fun (r : List D) (σ : Fc.Env) (s' : S) => ∃ (x : Str) (t : Option D), σ = [some (.ref g), some (.int m), some (.str x), t] ∧ Ltr x ∧ x.length + r.length = ds.length ∧ Fr g s s' ∧ Gen s' g (B + 80 * r.length)) ds ⟨"", none, rfl, ltr_nil, by show 0 + ds.length = ds.length; omega, Fr.set, g1.mono (by omega)⟩ ?_ ?_
  · rintro d r σ s' ⟨x, t, rfl, hx, hl, hf, hgn⟩
    refine ⟨_, rfl, ?_⟩
    simp at hl
    simp
    refine sp_random (B := B + 80 * r.length) (hgn.mono (by simp; omega)) (by decide) (by decide) fun z2 o2 q1 q2 g2 => ?_
    obtain ⟨y, ea, hy, ly⟩ := at_letter (s := s'.set g o2) q1 q2
    have ea : atD (s'.set g o2) (.str "abcdefghijklmnopqrstuvwxyz") (.int z2) = some (.str y) := ea
    simp [ea]
    rw [sz_lit (by omega), onT_t]
    refine ⟨ltr_app hx hy, ?_, hf.trans Fr.set, g2⟩
    rw [len_app, ly]
    omega
  · rintro σ s' ⟨x, t, rfl, hx, hl, hf, hgn⟩
    simp at hl
    simp
    exact hQ s' x hf (hgn.mono (by omega)) hx (by omega) (by omega)
section
variable {s : S}
/-- no table -/
def NT (s : S) (d : D) : Prop := ∀ s', Pf s s' → ∀ (Q : D → S → Prop) (X : Xc), (∀ s2, Pf s' s2 → Q (.bl false) s2) → wE (P1.d_is_table [d] s') Q X
theorem NT.pf {s' : S} {d : D} (h : NT s d) (p : Pf s s') : NT s' d := fun s2 q => h s2 (p.trans q)
theorem nt_no {d : D} (h : isTy s d .tuple = some false) : NT s d := fun s' pf Q X hq => by
  unfold d_is_table
  refine (v_def (by rfl)).mpr ?_
  unfold b_is_table
  simp [isTy_pf h pf]
  exact hq _ Pf.refl
theorem nt_len {ds : List D} (h : ds.length ≠ 3) : NT s (.tup ds) := fun s' pf Q X hq => by
  unfold d_is_table
  refine (v_def (by rfl)).mpr ?_
  unfold b_is_table
  have : ¬ (ds.length : Int) = 3 := by omega
  have hb : ((ds.length : Int) == 3) = false := by simpa using this
  have ht : isTy s' (.tup ds) .tuple = some true := rfl
  have hl : lenD s' (.tup ds) = some ds.length := rfl
  simp [ht, hl, eqD_int]
  rw [hb]
  exact hq _ Pf.refl
theorem nt_0 {a b c : D} (ha : Nm s a false) : NT s (.tup [a, b, c]) := fun s' pf Q X hq => by
  unfold d_is_table
  refine (v_def (by rfl)).mpr ?_
  unfold b_is_table
  have ht : isTy s' (.tup [a, b, c]) .tuple = some true := rfl
  have hl : lenD s' (.tup [a, b, c]) = some 3 := rfl
  simp [ht, hl, eqD_int]
  refine ha s' pf _ _ fun s1 p1 => ?_
  simp
  exact hq _ p1
theorem nt_1 {a b c : D} (ha : Nm s a true) (hb : Nm s b false) : NT s (.tup [a, b, c]) := fun s' pf Q X hq => by
  unfold d_is_table
  refine (v_def (by rfl)).mpr ?_
  unfold b_is_table
  have ht : isTy s' (.tup [a, b, c]) .tuple = some true := rfl
  have hl : lenD s' (.tup [a, b, c]) = some 3 := rfl
  simp [ht, hl, eqD_int]
  refine ha s' pf _ _ fun s1 p1 => ?_
  simp
  refine hb s1 (pf.trans p1) _ _ fun s2 p2 => ?_
  simp
  exact hq _ (p1.trans p2)
theorem nt_2 {a b c : D} (ha : Nm s a true) (hb : Nm s b true) (h : isTy s c .tuple = some false) : NT s (.tup [a, b, c]) := fun s' pf Q X hq => by
  unfold d_is_table
  refine (v_def (by rfl)).mpr ?_
  unfold b_is_table
  have ht : isTy s' (.tup [a, b, c]) .tuple = some true := rfl
  have hl : lenD s' (.tup [a, b, c]) = some 3 := rfl
  simp [ht, hl, eqD_int]
  refine ha s' pf _ _ fun s1 p1 => ?_
  simp
  refine hb s1 (pf.trans p1) _ _ fun s2 p2 => ?_
  simp [isTy_pf h (pf.trans (p1.trans p2))]
  exact hq _ (p1.trans p2)
def Arc3 (d : D) : Prop := ∃ a : Arc, d = aD a ∧ a.1 < 3 ∧ a.2.1 < 3
open Classical in
noncomputable def arO (d : D) : Option D := if Arc3 d then none else some d
theorem arc3_na {d : D} (h : Arc3 d) (k : NA s 3 3 d) : False := by
  obtain ⟨a, rfl, h1, h2⟩ := h
  have z1 : wE (d_is_arc [aD a, .int (3 : Nat), .int (3 : Nat)] s) (fun x _ => x = .bl true) (fun _ _ _ => False) := sp_is_arcG h1 h2 rfl
  have z2 := k s Pf.refl (fun x _ => x = .bl false) (fun _ _ _ => False) rfl
  obtain ⟨x, _, e1, e2⟩ := wE_both z1 z2
  rw [e1] at e2
  cases e2
theorem nt_arc {a b : D} {ds : List D} (ha : Nm s a true) (hb : Nm s b true) (hd : ∀ d ∈ ds, Arc3 d ∨ (NA s 3 3 d ∧ De s d)) (hx : ∃ d ∈ ds, NA s 3 3 d) (hl : ds.length < 1000) : NT s (.tup [a, b, .tup ds]) := fun s' pf Q X hq => by
  unfold d_is_table
  refine (v_def (by rfl)).mpr ?_
  unfold b_is_table
  have ht : isTy s' (.tup [a, b, .tup ds]) .tuple = some true := rfl
  have hl2 : lenD s' (.tup [a, b, .tup ds]) = some 3 := rfl
  simp [ht, hl2, eqD_int]
  refine ha s' pf _ _ fun s1 p1 => ?_
  simp
  refine hb s1 (pf.trans p1) _ _ fun s2 p2 => ?_
  have ht2 : isTy s2 (.tup ds) .tuple = some true := rfl
  simp [ht2, srcOf]
  have p02 := pf.trans (p1.trans p2)
  refine w_lcP arO (by omega) (fun d hd' s4 p4 => ⟨_, rfl, ?_⟩) fun s4 p4 h4 => ?_
  · simp [Fc.wipe]
    rcases hd d hd' with h | ⟨h, _⟩
    · have h' := h
      obtain ⟨c, rfl, k1, k2⟩ := h
      refine sp_is_arcG (p := 3) (q := 3) k1 k2 ?_
      have ea : arO (aD c) = none := by unfold arO; rw [if_pos h']
      simp [ea, Pf.refl]
    · refine h s4 (p02.trans p4) _ _ ?_
      have ea : arO d = some d := by unfold arO; rw [if_neg fun z => arc3_na z h]
      simp [ea, Pf.refl]
  · have q : Pf s4 (s4 ++ [O.lst []]) := Pf.app
    have e5 := eq_nilD (s := s4 ++ [O.lst []]) (ds := ds.filterMap arO) (fun d hd' => by
      obtain ⟨y, hy, e⟩ := List.mem_filterMap.mp hd'
      unfold arO at e
      split at e
      · cases e
      · rename_i hn
        cases e
        rcases hd d hy with h | ⟨_, h⟩
        · exact absurd h hn
        · exact h.pf (p02.trans (p4.trans q))) (q _ _ h4) get_new
    have ne : (ds.filterMap arO).isEmpty = false := by
      obtain ⟨d, h1, h2⟩ := hx
      cases hh : ds.filterMap arO with
      | nil =>
        have : d ∈ ds.filterMap arO := List.mem_filterMap.mpr ⟨d, h1, by unfold arO; rw [if_neg fun z => arc3_na z h2]⟩
        rw [hh] at this
        cases this
      | cons _ _ => rfl
    rw [e5, ne]
    exact hq _ (p1.trans (p2.trans (p4.trans q)))
def pI (x : List Int) : PyData := .tuple (x.map .int)
theorem eqv_ints : ∀ {x y : List Int}, PyData.eqvAll (x.map .int) (y.map .int) = true → x = y
  | [], [], _ => rfl
  | [], _ :: _, h => by simp [PyData.eqvAll] at h
  | _ :: _, [], h => by simp [PyData.eqvAll] at h
  | a :: x, b :: y, h => by
    simp [PyData.eqvAll, PyData.eqv] at h
    rw [h.1, eqv_ints h.2]
theorem eqv_pIs : ∀ {x y : List (List Int)}, PyData.eqvAll (x.map pI) (y.map pI) = true → x = y
  | [], [], _ => rfl
  | [], _ :: _, h => by simp [PyData.eqvAll] at h
  | _ :: _, [], h => by simp [PyData.eqvAll] at h
  | a :: x, b :: y, h => by
    simp [PyData.eqvAll, PyData.eqv, pI] at h
    rw [eqv_ints h.1, eqv_pIs (x := x) (y := y) (by simpa [pI] using h.2)]
theorem pI_ok : ∀ L : List (List Int), PyData.canLayAll0 (L.map pI) = true ∧ PyData.depthAll (L.map pI) ≤ 1
  | [] => by simp [PyData.canLayAll0, PyData.depthAll]
  | x :: L => by
    obtain ⟨h1, h2⟩ := pI_ok L
    have i1 : ∀ x : List Int, PyData.canLayAll0 (x.map .int) = true ∧ PyData.depthAll (x.map .int) = 0 := fun x => by
      induction x with
      | nil => simp [PyData.canLayAll0, PyData.depthAll]
      | cons a x ih => simp [PyData.canLayAll0, PyData.canLay0, PyData.depthAll, PyData.depth, ih.1, ih.2]
    simp only [List.map_cons, PyData.canLayAll0, PyData.depthAll, pI, PyData.canLay0, PyData.depth, (i1 x).1, (i1 x).2]
    refine ⟨by simpa [pI] using h1, ?_⟩
    simp [pI] at h2 ⊢
    omega
theorem dats_ints {n : Nat} : ∀ x : List Int, dats s (n + 1) (x.map .int) = some (x.map .int)
  | [] => by simp
  | a :: x => dats_cons dat_int (dats_ints x)
theorem dats_pI {n : Nat} : ∀ L : List (List Int), dats s (n + 2) (L.map fun x => D.tup (x.map .int)) = some (L.map pI)
  | [] => by simp
  | x :: L => dats_cons (by rw [dat_tup, dats_ints]; rfl) (dats_pI L)
theorem eq_plI {n m : Nat} {L M : List (List Int)} (h : s[n]? = some (.lst (L.map fun x => .tup (x.map .int)))) (h2 : s[m]? = some (.lst (M.map fun x => .tup (x.map .int)))) (hne : L ≠ M) : eqD s (.ref n) (.ref m) = some false := by
  have sh : ∀ L : List (List Int), SeqAt.shaped (.list (L.map pI)) = true := fun L => by
    obtain ⟨k1, k2⟩ := pI_ok L
    refine Bool.and_eq_true_iff.mpr ⟨by simp only [PyData.canLay0, k1], decide_eq_true ?_⟩
    simp only [PyData.depth]
    omega
  rw [eq_of (x := .list (L.map pI)) (y := .list (M.map pI)) (by rw [dat_ref h, dats_pI]; rfl) (by rw [dat_ref h2, dats_pI]; rfl) (sh _) (sh _)]
  congr 1
  cases hh : PyData.eqv (.list (L.map pI)) (.list (M.map pI)) with
  | false => rfl
  | true => exact absurd (eqv_pIs (by simpa [PyData.eqv] using hh)) hne
theorem nt_pl {a b : D} {A : List Arc} (ha : Nm s a true) (hb : Nm s b true) (hA : In3 A) (hl : A.length < 64) (hne : A.map plc ≠ sortI (A.map plc)) : NT s (.tup [a, b, .tup (A.map aD)]) := fun s' pf Q X hq => by
  unfold d_is_table
  refine (v_def (by rfl)).mpr ?_
  unfold b_is_table
  have ht : isTy s' (.tup [a, b, .tup (A.map aD)]) .tuple = some true := rfl
  have hl2 : lenD s' (.tup [a, b, .tup (A.map aD)]) = some 3 := rfl
  simp [ht, hl2, eqD_int]
  refine ha s' pf _ _ fun s1 p1 => ?_
  simp
  refine hb s1 (pf.trans p1) _ _ fun s2 p2 => ?_
  have ht2 : isTy s2 (.tup (A.map aD)) .tuple = some true := rfl
  simp [ht2, srcOf]
  refine w_lcP (fun _ => none) (by simp; omega) (fun d hd s' pf => ?_) fun s3 p3 h3 => ?_
  · obtain ⟨c, hc, rfl⟩ := List.mem_map.mp hd
    have h := hA c hc
    refine ⟨_, rfl, ?_⟩
    simp [Fc.wipe]
    refine sp_is_arc h.1 h.2 ?_
    simp
    exact Pf.refl
  · rw [fm_none] at h3
    have e4 : eqD (s3 ++ [O.lst []]) (.ref s2.length) (.ref s3.length) = some true := eq_nil (A := []) (Pf.app _ _ h3) get_new
    rw [e4]
    simp
    have p4 : Pf s2 (s3 ++ [O.lst []]) := p3.trans Pf.app
    refine w_lcP plOf (by simp; omega) (fun d hd s' pf => ?_) fun s5 p5 h5 => ?_
    · obtain ⟨c, hc, rfl⟩ := List.mem_map.mp hd
      refine ⟨_, rfl, ?_⟩
      simp [Fc.wipe, aD, plOf]
      exact Pf.refl
    · rw [fm_map aD plOf plD (fun a => rfl)] at h5
      have e5 : fSortSet [D.ref (List.length (s3 ++ [O.lst []]))] s5 = new (.lst ((sortI (A.map plc)).map fun x => D.tup (x.map .int))) s5 := by
        unfold fSortSet
        simp only [h5, tupI_plc, setOk_plc _ hl, if_true]
      rw [e5, v_new]
      rw [← plc_back] at h5
      rw [eq_plI (Pf.app _ _ h5) get_new hne]
      exact hq _ (p1.trans (p2.trans (p4.trans (p5.trans Pf.app))))
end
end P20
namespace P20
open PySem Fc P1 P85 PB
def P2 (x : List Int) : Prop := ∃ a b, x = [a, b]
theorem lex_pp {a b c d : Int} : lexI [a, b] [c, d] = (decide (a < c) || (decide (a = c) && decide (b < d))) := by
  simp [lexI]
theorem lex_irr {x : List Int} (h : P2 x) : lexI x x = false := by
  obtain ⟨a, b, rfl⟩ := h
  simp [lexI]
theorem lex_tr {x y z : List Int} (hx : P2 x) (hy : P2 y) (hz : P2 z) (h1 : lexI x y = true) (h2 : lexI y z = true) : lexI x z = true := by
  obtain ⟨a, b, rfl⟩ := hx
  obtain ⟨c, d, rfl⟩ := hy
  obtain ⟨e, f, rfl⟩ := hz
  rw [lex_pp] at *
  simp at *
  omega
theorem lex_tot {x y : List Int} (hx : P2 x) (hy : P2 y) (h1 : ¬ lexI x y = true) (h2 : x ≠ y) : lexI y x = true := by
  obtain ⟨a, b, rfl⟩ := hx
  obtain ⟨c, d, rfl⟩ := hy
  rw [lex_pp] at *
  simp at *
  omega
theorem mem_put {x z : List Int} : ∀ {l : List (List Int)}, z ∈ putI x l → z = x ∨ z ∈ l
  | [], h => by simp [putI] at h; exact .inl h
  | y :: r, h => by
    unfold putI at h
    split at h
    · rcases List.mem_cons.mp h with h | h
      · exact .inl h
      · exact .inr h
    · split at h
      · exact .inr h
      · rcases List.mem_cons.mp h with h | h
        · exact .inr (by rw [h]; exact List.mem_cons_self ..)
        · rcases mem_put h with h | h
          · exact .inl h
          · exact .inr (List.mem_cons_of_mem _ h)
theorem put_pw {x : List Int} (hx : P2 x) : ∀ {l : List (List Int)}, (∀ y ∈ l, P2 y) → l.Pairwise (fun a b => lexI a b = true) → (putI x l).Pairwise (fun a b => lexI a b = true)
  | [], _, _ => by simp [putI]
  | y :: r, hp, h => by
    obtain ⟨h1, h2⟩ := List.pairwise_cons.mp h
    have py := hp y (List.mem_cons_self ..)
    unfold putI
    split
    · rename_i hxy
      refine List.pairwise_cons.mpr ⟨fun z hz => ?_, h⟩
      rcases List.mem_cons.mp hz with rfl | hz
      · exact hxy
      · exact lex_tr hx py (hp z (List.mem_cons_of_mem _ hz)) hxy (h1 z hz)
    · rename_i hxy
      split
      · exact h
      · rename_i hne
        refine List.pairwise_cons.mpr ⟨fun z hz => ?_, put_pw hx (fun y hy => hp y (List.mem_cons_of_mem _ hy)) h2⟩
        rcases mem_put hz with rfl | hz
        · exact lex_tot hx py hxy hne
        · exact h1 z hz
theorem mem_sort {z : List Int} : ∀ {l : List (List Int)}, z ∈ sortI l → z ∈ l
  | [], h => by simp [sortI] at h
  | x :: l, h => by
    unfold sortI at h
    rcases mem_put h with rfl | h
    · exact List.mem_cons_self ..
    · exact List.mem_cons_of_mem _ (mem_sort h)
theorem sort_pw : ∀ {l : List (List Int)}, (∀ y ∈ l, P2 y) → (sortI l).Pairwise (fun a b => lexI a b = true)
  | [], _ => by simp [sortI]
  | x :: l, h => by
    unfold sortI
    exact put_pw (h x (List.mem_cons_self ..)) (fun y hy => h y (List.mem_cons_of_mem _ (mem_sort hy))) (sort_pw fun y hy => h y (List.mem_cons_of_mem _ hy))
theorem p2_plc {A : List Arc} : ∀ y ∈ A.map plc, P2 y := fun y hy => by
  obtain ⟨a, _, rfl⟩ := List.mem_map.mp hy
  exact ⟨_, _, rfl⟩
/-- arcs in order: each place once -/
theorem pw_of_sorted {A : List Arc} (h : A.map plc = sortI (A.map plc)) : (A.map plc).Pairwise (fun a b => lexI a b = true) := by
  rw [h]
  exact sort_pw p2_plc
theorem p2p {a : Arc} : P2 (plc a) := ⟨_, _, rfl⟩
theorem ne_dup {A : List Arc} {a : Arc} : (A ++ [a] ++ [a]).map plc ≠ sortI ((A ++ [a] ++ [a]).map plc) := fun h => by
  have pw := pw_of_sorted h
  rw [List.map_append, List.pairwise_append] at pw
  have := pw.2.2 (plc a) (by simp) (plc a) (by simp)
  rw [lex_irr p2p] at this
  cases this
theorem ne_twin {A : List Arc} {a b : Arc} (hb : plc b = plc a) : (a :: b :: A).map plc ≠ sortI ((a :: b :: A).map plc) := fun h => by
  have pw := pw_of_sorted h
  rw [List.map_cons, List.map_cons, hb] at pw
  have := (List.pairwise_cons.mp pw).1 (plc a) (by simp)
  rw [lex_irr p2p] at this
  cases this
theorem ne_rev {A : List Arc} (hs : (A.map plc).Pairwise (fun a b => lexI a b = true)) (hl : 1 < A.length) : A.reverse.map plc ≠ sortI (A.reverse.map plc) := fun h => by
  have pw := pw_of_sorted h
  rw [List.map_reverse, List.pairwise_reverse] at pw
  match A, hl with
  | a :: b :: r, _ =>
    have h1 := (List.pairwise_cons.mp hs).1 (plc b) (by simp)
    have h2 := (List.pairwise_cons.mp pw).1 (plc b) (by simp)
    have := lex_tr (x := plc a) (y := plc b) (z := plc a) ⟨_, _, rfl⟩ ⟨_, _, rfl⟩ ⟨_, _, rfl⟩ h1 h2
    rw [lex_irr p2p] at this
    cases this
section
variable {s : S}
theorem nm_long {x : Str} (hl : 13 ≤ x.length) (hl2 : x.length < 1000) : Nm s (.str x) false := fun s' pf Q X hq => by
  unfold d_is_name
  refine (v_def (by rfl)).mpr ?_
  unfold b_is_name
  have hs : sz x.length = true := sz_lit (by omega)
  have e1 : decide (1 ≤ (x.length : Int)) = true := decide_eq_true (by omega)
  have e2 : decide ((x.length : Int) ≤ 12) = false := decide_eq_false (by omega)
  simp [isTy, lenD, hs, e1, e2]
  exact hq _ Pf.refl
theorem nm_bad {x : Str} (ho : okS x) (h1 : 1 ≤ x.length) (h2 : x.length ≤ 12) (hb : ∃ c ∈ x.cps.toList, (Builtin.Str.occurrences letters ⟨#[c]⟩ 0 letters.length 1).isEmpty = true) : Nm s (.str x) false := nn_bad ho h1 h2 hb
/-- P holds of d, by what stands at one address at most -/
def Fz (P : S → D → Prop) (E : Nat → Prop) (s : S) (d : D) : Prop := (∀ s', P s' d) ∨ ∃ w o, E w ∧ s[w]? = some o ∧ ∀ s', s'[w]? = some o → P s' d
variable {P P' : S → D → Prop} {E E' : Nat → Prop} {d d' : D} {s' : S}
theorem Fz.map (h : Fz P E s d) (k : ∀ s', P s' d → P' s' d') : Fz P' E s d' := by
  rcases h with h | ⟨w, o, h1, h2, h3⟩
  · exact .inl fun s' => k s' (h s')
  · exact .inr ⟨w, o, h1, h2, fun s' e => k s' (h3 s' e)⟩
theorem Fz.go (h : Fz P E s d) (k : ∀ w o, E w → s[w]? = some o → s'[w]? = some o ∧ E' w) : Fz P E' s' d := by
  rcases h with h | ⟨w, o, h1, h2, h3⟩
  · exact .inl h
  · exact .inr ⟨w, o, (k w o h1 h2).2, (k w o h1 h2).1, h3⟩
theorem Fz.at (h : Fz P E s d) (k : ∀ w o, E w → s[w]? = some o → s'[w]? = some o) : P s' d := by
  rcases h with h | ⟨w, o, h1, h2, h3⟩
  · exact h s'
  · exact h3 s' (k w o h1 h2)
theorem Fz.pf (h : Fz P E s d) (p : Pf s s') : Fz P E s' d := h.go fun w o h1 h2 => ⟨p w o h2, h1⟩
/-- a bad arc -/
def Ba (s : S) (d : D) : Prop := NA s 3 3 d ∧ De s d ∧ Rx 4 500 s d
/-- a name that is none -/
def Bn (s : S) (d : D) : Prop := Nm s d false ∧ Rx 4 500 s d
/-- what is no tuple of arcs -/
def Bt (s : S) (d : D) : Prop := (isTy s d .tuple = some false ∧ Rx 5 6000 s d) ∨ ∃ b, d = .tup [b] ∧ Ba s b
/-- a value that is refused, no list -/
def Ok (s : S) (d : D) : Prop := isTy s d .list = some false ∧ NT s d ∧ Rx 6 100000 s d
theorem bn_ti (h : isTy s d .str = some false) (k : Ti d) : Bn s d := ⟨nn_no h, (rx_ti k).mono (by omega) (by omega)⟩
theorem bn_str {x : Str} (h : Nm s (.str x) false) (k : okS x) (hl : x.length ≤ 100) : Bn s (.str x) := ⟨h, (rx_ti (ti_str k hl)).mono (by omega) (by omega)⟩
theorem bn_f {w : Nat} (h : s[w]? = some (.lst [.str "f"])) : Bn s (.ref w) := ⟨nn_no (by simp [isTy, h]), (rx_lst (k := 2) (B := 100) h fun d hd => by
  simp only [List.mem_cons, List.not_mem_nil, or_false] at hd
  subst hd
  exact rx_ti (ti_str okS_of (by decide +kernel))).mono (by omega) (by simp)⟩
def names (w : Nat) : List D := [.non, .int 5, .str "", .str "F", .str "f1", .str "abcdefghijklm", .ref w, .str "f ", .str "f\n", .bl true]
theorem bn_names {w : Nat} (h : s[w]? = some (.lst [.str "f"])) (hE : E w) : ∀ d ∈ names w, Fz Bn E s d := fun d hd => by
  simp only [names, List.mem_cons, List.not_mem_nil, or_false] at hd
  rcases hd with rfl | rfl | rfl | rfl | rfl | rfl | rfl | rfl | rfl | rfl
  · exact .inl fun s' => bn_ti rfl ti_non
  · exact .inl fun s' => bn_ti rfl (ti_int (by omega) (by omega))
  · exact .inl fun s' => bn_str nn_nil okS_of (by decide +kernel)
  · exact .inl fun s' => bn_str (nm_bad okS_of (by decide +kernel) (by decide +kernel) ⟨70, by decide +kernel, by decide +kernel⟩) okS_of (by decide +kernel)
  · exact .inl fun s' => bn_str (nm_bad okS_of (by decide +kernel) (by decide +kernel) ⟨49, by decide +kernel, by decide +kernel⟩) okS_of (by decide +kernel)
  · exact .inl fun s' => bn_str (nm_long (by decide +kernel) (by decide +kernel)) okS_of (by decide +kernel)
  · exact .inr ⟨w, _, hE, h, fun s' e => bn_f e⟩
  · exact .inl fun s' => bn_str (nm_bad okS_of (by decide +kernel) (by decide +kernel) ⟨32, by decide +kernel, by decide +kernel⟩) okS_of (by decide +kernel)
  · exact .inl fun s' => bn_str (nm_bad okS_of (by decide +kernel) (by decide +kernel) ⟨10, by decide +kernel, by decide +kernel⟩) okS_of (by decide +kernel)
  · exact .inl fun s' => bn_ti rfl ti_bl
/-- a name, told in each store -/
def Nx (x : Str) : Prop := NameOk x ∧ okS x
theorem rx_nx {x : Str} {k B : Nat} (h : Nx x) (hk : 2 ≤ k) (hB : 100 ≤ B) : Rx k B s (.str x) := (rx_ti (ti_str h.2 (nl_len h.1))).mono hk hB
theorem rx3 {a b c : D} (ha : Rx 5 6000 s a) (hb : Rx 5 6000 s b) (hc : Rx 5 6000 s c) : Rx 6 100000 s (.tup [a, b, c]) :=
  (rx_tup (k := 5) (B := 6000) fun d hd => by
    simp only [List.mem_cons, List.not_mem_nil, or_false] at hd
    rcases hd with rfl | rfl | rfl
    · exact ha
    · exact hb
    · exact hc).mono (by omega) (by simp)
/-- arcs of a table, told by repr -/
theorem rx_A {A : List Arc} (hA : In3 A) (hl : A.length ≤ 12) : Rx 5 6000 s (.tup (A.map aD)) :=
  (rx_tup (k := 3) (B := 400) fun d hd => by
    obtain ⟨a, ha, rfl⟩ := List.mem_map.mp hd
    have := hA a ha
    exact rx_arc ⟨by omega, by omega⟩).mono (by omega) (by simp; omega)
theorem ok_n0 {d c : D} {y : Str} (h : Bn s d) (hy : Nx y) (hc : Rx 5 6000 s c) : Ok s (.tup [d, .str y, c]) := ⟨rfl, nt_0 h.1, rx3 (h.2.mono (by omega) (by omega)) (rx_nx hy (by omega) (by omega)) hc⟩
theorem ok_n1 {d c : D} {x : Str} (h : Bn s d) (hx : Nx x) (hc : Rx 5 6000 s c) : Ok s (.tup [.str x, d, c]) := ⟨rfl, nt_1 (nm_of hx.1) h.1, rx3 (rx_nx hx (by omega) (by omega)) (h.2.mono (by omega) (by omega)) hc⟩
theorem ok_bt {d : D} {x y : Str} (h : Bt s d) (hx : Nx x) (hy : Nx y) : Ok s (.tup [.str x, .str y, d]) := by
  rcases h with ⟨h1, h2⟩ | ⟨b, rfl, h1, h2, h3⟩
  · exact ⟨rfl, nt_2 (nm_of hx.1) (nm_of hy.1) h1, rx3 (rx_nx hx (by omega) (by omega)) (rx_nx hy (by omega) (by omega)) h2⟩
  · refine ⟨rfl, nt_arc (nm_of hx.1) (nm_of hy.1) (fun d hd => ?_) ⟨b, by simp, h1⟩ (by simp), rx3 (rx_nx hx (by omega) (by omega)) (rx_nx hy (by omega) (by omega)) ?_⟩
    · simp at hd; subst hd; exact .inr ⟨h1, h2⟩
    · exact (rx_tup (k := 4) (B := 500) fun d hd => by simp at hd; subst hd; exact h3).mono (by omega) (by simp)
/-- good arcs with a bad one among them -/
theorem ok_ba {d : D} {x y : Str} {A B : List Arc} (h : Ba s d) (hx : Nx x) (hy : Nx y) (hA : In3 A) (hB : In3 B) (hl : A.length + B.length ≤ 9) : Ok s (.tup [.str x, .str y, .tup (A.map aD ++ d :: B.map aD)]) := by
  obtain ⟨h1, h2, h3⟩ := h
  have g : ∀ {C : List Arc} {e : D}, In3 C → e ∈ C.map aD → Arc3 e := fun {C e} hC he => by
    obtain ⟨a, ha, rfl⟩ := List.mem_map.mp he
    exact ⟨a, rfl, (hC a ha).1, (hC a ha).2⟩
  refine ⟨rfl, nt_arc (nm_of hx.1) (nm_of hy.1) (fun e he => ?_) ⟨d, by simp, h1⟩ (by simp; omega), rx3 (rx_nx hx (by omega) (by omega)) (rx_nx hy (by omega) (by omega)) ?_⟩
  · rcases List.mem_append.mp he with he | he
    · exact .inl (g hA he)
    · rcases List.mem_cons.mp he with rfl | he
      · exact .inr ⟨h1, h2⟩
      · exact .inl (g hB he)
  · refine (rx_tup (k := 4) (B := 500) fun e he => ?_).mono (by omega) (by simp; omega)
    have r : ∀ {C : List Arc}, In3 C → e ∈ C.map aD → Rx 4 500 s e := fun {C} hC he => by
      obtain ⟨a, ha, rfl⟩ := List.mem_map.mp he
      have := hC a ha
      exact (rx_arc ⟨by omega, by omega⟩).mono (by omega) (by omega)
    rcases List.mem_append.mp he with he | he
    · exact r hA he
    · rcases List.mem_cons.mp he with rfl | he
      · exact h3
      · exact r hB he
end
end P20
namespace P20
open PySem Fc P1 P85 PB
section
variable {s : S} {X : Xc} {Q : D → S → Prop} {i w : Nat}
theorem te_tup0 : Te (.tup []) := ⟨rfl, .tuple [], fun s n => by rw [dat_tup, dats_nil]; rfl, rfl, by decide⟩
theorem sm_tup0 : Sm (.tup []) := ⟨te_tup0, ti_tup0⟩
theorem sm_i (hi : i < 3) : Sm (.int i) := sm_int (by omega) (by omega)
theorem ba_of {d : D} (h1 : NA s 3 3 d) (h2 : De s d ∧ Rx 3 500 s d) : Ba s d := ⟨h1, h2.1, h2.2.mono (by omega) (by omega)⟩
theorem ba_sm {d : D} (h1 : NA s 3 3 d) (h2 : Sm d) : Ba s d := ⟨h1, de_te h2.1, (rx_ti h2.2).mono (by omega) (by omega)⟩
theorem dr_ref (h : s[w]? = some (.lst [.int 0])) (hi : i < 3) : (De s (.tup [.ref w, .int i, .bl true]) ∧ Rx 4 500 s (.tup [.ref w, .int i, .bl true])) ∧ (De s (.tup [.int i, .ref w, .bl true]) ∧ Rx 4 500 s (.tup [.int i, .ref w, .bl true])) := by
  have e : ∀ s', Pf s s' → ∀ n, dat s' (n + 3) (.ref w) = some (.list [.int 0]) := fun s' p n => by
    rw [dat_ref (p _ _ h), dats_cons dat_int dats_nil]
    rfl
  have rw' : Rx 3 110 s (.ref w) := (rx_lst (k := 2) (B := 100) h fun d hd => by
    simp only [List.mem_cons, List.not_mem_nil, or_false] at hd
    subst hd
    exact rx_ti (ti_int (by omega) (by omega))).mono (by omega) (by simp)
  have ri : Rx 3 110 s (.int i) := (rx_ti (sm_i hi).2).mono (by omega) (by omega)
  have rb : Rx 3 110 s (.bl true) := (rx_ti sm_bl.2).mono (by omega) (by omega)
  have r3 : ∀ {a b c : D}, Rx 3 110 s a → Rx 3 110 s b → Rx 3 110 s c → Rx 4 500 s (.tup [a, b, c]) := fun {a b c} ha hb hc => (rx_tup (k := 3) (B := 110) fun d hd => by
    simp only [List.mem_cons, List.not_mem_nil, or_false] at hd
    rcases hd with rfl | rfl | rfl
    · exact ha
    · exact hb
    · exact hc).mono (by omega) (by simp)
  refine ⟨⟨⟨.tuple [.list [.int 0], .int i, .bool true], fun s' p n => ?_, by simp [PyData.canLay0, PyData.canLayAll0], by simp [PyData.depth, PyData.depthAll]⟩, r3 rw' ri rb⟩, ⟨⟨.tuple [.int i, .list [.int 0], .bool true], fun s' p n => ?_, by simp [PyData.canLay0, PyData.canLayAll0], by simp [PyData.depth, PyData.depthAll]⟩, r3 ri rw' rb⟩⟩
  · rw [dat_tup, dats_cons (e s' p n) (dats_cons dat_int (dats_cons dat_bl dats_nil))]
    rfl
  · rw [dat_tup, dats_cons dat_int (dats_cons (e s' p n) (dats_cons dat_bl dats_nil))]
    rfl
def lit9 (i w : Nat) : List D := [.non, .int 5, .str "0>1", .tup [.int i, .int i], .tup [.int i, .int i, .bl true, .int 0], .ref w, .tup [.bl true, .int i, .bl true], .tup [.int i, .int i, .int 1], .tup [.int i, .int i, .non]]
theorem ba_9 {E : Nat → Prop} (hi : i < 3) (hw : s[w]? = some (.lst [.int i, .int i, .bl true])) (hE : E w) : ∀ d ∈ lit9 i w, Fz Ba E s d := fun d hd => by
  have si := sm_i hi
  simp only [lit9, List.mem_cons, List.not_mem_nil, or_false] at hd
  rcases hd with rfl | rfl | rfl | rfl | rfl | rfl | rfl | rfl | rfl
  · exact .inl fun s' => ba_sm (na_no rfl) sm_non
  · exact .inl fun s' => ba_sm (na_no rfl) (sm_int (by omega) (by omega))
  · exact .inl fun s' => ba_sm (na_no rfl) ⟨te_str okS_of, ti_str okS_of (by decide +kernel)⟩
  · refine .inl fun s' => ba_of (na_len (by simp)) (te_tup_rx4 (fun d hd => ?_) (fun d hd => ?_) (by simp))
    · simp only [List.mem_cons, List.not_mem_nil, or_false, or_self] at hd; subst hd; exact si.1
    · simp only [List.mem_cons, List.not_mem_nil, or_false, or_self] at hd; subst hd; exact si.2
  · refine .inl fun s' => ba_of (na_len (by simp)) (te_tup_rx4 (fun d hd => ?_) (fun d hd => ?_) (by simp))
    · simp only [List.mem_cons, List.not_mem_nil, or_false] at hd
      rcases hd with rfl | rfl | rfl | rfl
      · exact si.1
      · exact si.1
      · exact sm_bl.1
      · exact te_int
    · simp only [List.mem_cons, List.not_mem_nil, or_false] at hd
      rcases hd with rfl | rfl | rfl | rfl
      · exact si.2
      · exact si.2
      · exact sm_bl.2
      · exact ti_int (by omega) (by omega)
  · refine .inr ⟨w, _, hE, hw, fun s' h => ba_of (na_no (by simp [isTy, h])) ⟨de_lst h fun d hd => ?_, (rx_lst (k := 2) (B := 100) h fun d hd => ?_).mono (by omega) (by simp)⟩⟩
    · simp only [List.mem_cons, List.not_mem_nil, or_false] at hd
      rcases hd with rfl | rfl | rfl
      · exact si.1
      · exact si.1
      · exact sm_bl.1
    · simp only [List.mem_cons, List.not_mem_nil, or_false] at hd
      rcases hd with rfl | rfl | rfl
      · exact rx_ti si.2
      · exact rx_ti si.2
      · exact rx_ti sm_bl.2
  · exact .inl fun s' => ba_of na_b (sm3 sm_bl si sm_bl)
  · exact .inl fun s' => ba_of (na_int (.inr (.inr fun _ => rfl))) (sm3 si si (sm_int (by omega) (by omega)))
  · exact .inl fun s' => ba_of (na_int (.inr (.inr fun _ => rfl))) (sm3 si si sm_non)
def lit5 (w : Nat) : List D := [.non, .str "0", .ref w, .tup [], .int (-1)]
def Bp (i : Nat) (s : S) (d : D) : Prop := Ba s (.tup [d, .int i, .bl true]) ∧ Ba s (.tup [.int i, d, .bl true])
theorem bp_5 {E : Nat → Prop} (hi : i < 3) (hw : s[w]? = some (.lst [.int 0])) (hE : E w) : ∀ d ∈ lit5 w, Fz (Bp i) E s d := fun d hd => by
  have si := sm_i hi
  have pure : ∀ {s' : S} {d : D}, Sm d → isTy s' d .int = some false → Bp i s' d := fun {s' d} h k =>
    ⟨ba_of (na_0 k) (sm3 h si sm_bl), ba_of (na_1 k) (sm3 si h sm_bl)⟩
  simp only [lit5, List.mem_cons, List.not_mem_nil, or_false] at hd
  rcases hd with rfl | rfl | rfl | rfl | rfl
  · exact .inl fun s' => pure sm_non rfl
  · exact .inl fun s' => pure sm_0 rfl
  · refine .inr ⟨w, _, hE, hw, fun s' h => ?_⟩
    obtain ⟨⟨k1, k2⟩, ⟨k3, k4⟩⟩ := dr_ref h hi
    have ty : isTy s' (.ref w) .int = some false := by simp [isTy, h]
    exact ⟨⟨na_0 ty, k1, k2⟩, ⟨na_1 ty, k3, k4⟩⟩
  · exact .inl fun s' => pure sm_tup0 rfl
  · exact .inl fun s' => ⟨ba_of (na_int (.inl (by omega))) (sm3 (sm_int (by omega) (by omega)) si sm_bl), ba_of (na_int (.inr (.inl (by omega)))) (sm3 si (sm_int (by omega) (by omega)) sm_bl)⟩
theorem sp_bad_arcs {i : Nat} (hi : i < 3) (hQ : ∀ s' m ds, Pf s s' → s'[m]? = some (.lst ds) → ds.length ≤ 30 → s.length ≤ m → (∀ d ∈ ds, Fz Ba (fun w => s.length ≤ w ∧ w ≠ m) s' d) → Q (.ref m) s') : wE (d_law_bad_arcs [.tup [.int i, .int i, .bl true]] s) Q X := by
  unfold d_law_bad_arcs
  refine (v_def (by rfl)).mpr ?_
  unfold b_law_bad_arcs
  generalize hR : cSeq (cFor _ _ _) _ = R
  have c1 : cutL [D.int i, .int i, .bl true] none (some 2) = [.int i, .int i] := rfl
  have c2 : cutL [D.int i, .int i, .bl true] (some 1) none = [.int i, .bl true] := rfl
  simp [c1, c2]
  have q1 : Pf s (s ++ [O.lst [D.int i, D.int i, D.bl true], O.lst (lit9 i s.length)]) := Pf.app
  have g1 : (s ++ [O.lst [D.int i, D.int i, D.bl true], O.lst (lit9 i s.length)])[s.length + 1]? = some (.lst (lit9 i s.length)) := by rw [app_get (s := s) 1 (by omega)]; rfl
  have g0 : (s ++ [O.lst [D.int i, D.int i, D.bl true], O.lst (lit9 i s.length)])[s.length]? = some (.lst [D.int i, D.int i, D.bl true]) := by rw [app_get (s := s) 0 (by omega)]; rfl
  have b1 := ba_9 (s := s ++ [O.lst [D.int i, D.int i, D.bl true], O.lst (lit9 i s.length)]) (E := fun w => s.length ≤ w ∧ w ≠ s.length + 1) hi g0 ⟨Nat.le_refl _, by omega⟩
  show wC (R [some (D.tup [D.int i, D.int i, D.bl true]), some (D.ref (s.length + 1)), none] (s ++ [O.lst [D.int i, D.int i, D.bl true], O.lst (lit9 i s.length)])) _
  have l1 : s.length + 1 < (s ++ [O.lst [D.int i, D.int i, D.bl true], O.lst (lit9 i s.length)]).length := by simp
  have lm : s.length ≤ s.length + 1 := by omega
  have ll : (lit9 i s.length).length ≤ 9 := by simp [lit9]
  generalize lit9 i s.length = ds1 at *
  generalize s ++ [O.lst [D.int i, D.int i, D.bl true], O.lst ds1] = s1 at *
  generalize s.length + 1 = m1 at *
  clear g0
  rw [← hR]
  generalize hB : cSet (e2 oAdd (eVar 1) _) _ = B
  simp
  have q2 : Pf s1 (s1 ++ [O.lst [.int 0], O.lst (lit5 s1.length)]) := Pf.app
  have g2 : (s1 ++ [O.lst [.int 0], O.lst (lit5 s1.length)])[s1.length]? = some (.lst [.int 0]) := by rw [app_get (s := s1) 0 (by omega)]; rfl
  have g3 : (s1 ++ [O.lst [.int 0], O.lst (lit5 s1.length)])[s1.length + 1]? = some (.lst (lit5 s1.length)) := by rw [app_get (s := s1) 1 (by omega)]; rfl
  have b2 := bp_5 (s := s1 ++ [O.lst [.int 0], O.lst (lit5 s1.length)]) (E := fun w => s1.length = w) hi g2 rfl
  have ls1 := q1.len
  have g3' : (s1 ++ [O.lst [.int 0], O.lst [.non, .str "0", .ref s1.length, .tup [], .int (-1)]])[s1.length + 1]? = some (.lst (lit5 s1.length)) := g3
  simp [srcOf, g3']
  show wC (forL _ _ _ (lit5 s1.length).length 0 _ (s1 ++ [O.lst [.int 0], O.lst (lit5 s1.length)])) _
  have l5 : (lit5 s1.length).length = 5 := rfl
  generalize hLL : lit5 s1.length = lits at *
  clear g3'
  have ll2 : s1.length < (s1 ++ [O.lst [.int 0], O.lst lits]).length := by simp
  generalize hs2 : s1 ++ [O.lst [.int 0], O.lst lits] = s2 at *
  refine wC_forL (n := s1.length + 1) (ds := lits) (fun r σ s' => Pf s2 s' ∧ (∃ m ds t, σ = [some (D.tup [D.int i, D.int i, D.bl true]), some (.ref m), t] ∧ s'[m]? = some (.lst ds) ∧ ds.length + 2 * r.length ≤ 20 ∧ s.length ≤ m ∧ ∀ d ∈ ds, Fz Ba (fun w => s.length ≤ w ∧ w ≠ m) s' d) ∧ ∀ d ∈ r, d ∈ lits)
    (fun r σ s' h => h.1 _ _ g3) ?_ ?_ _ 0 (by simp) ⟨Pf.refl, ⟨m1, ds1, _, rfl, q2 _ _ g1, by simp; omega, lm, fun d hd => (b1 d hd).pf q2⟩, fun d hd => hd⟩
  · rintro d r σ s' ⟨pf, ⟨m, ds, t, rfl, hm, hl, hsm, hb⟩, hr⟩
    refine ⟨_, rfl, ?_⟩
    rw [← hB]
    simp [c1, c2]
    have bd : Bp i s' d := (b2 d (hr d (List.mem_cons_self ..))).at fun w o _ e => pf _ _ e
    have bdz := (b2 d (hr d (List.mem_cons_self ..))).go (s' := s') (E' := fun w => s1.length = w) fun w o e1 e2 => ⟨pf _ _ e2, e1⟩
    simp at hl
    have q4 : Pf s' (s' ++ [O.lst [.tup [d, .int i, .bl true], .tup [.int i, d, .bl true]]]) := Pf.app
    rw [o_add_l (q4 _ _ hm) get_new (by simp; omega)]
    have q5 : Pf s' ((s' ++ [O.lst [.tup [d, .int i, .bl true], .tup [.int i, d, .bl true]]]) ++ [O.lst (ds ++ [.tup [d, .int i, .bl true], .tup [.int i, d, .bl true]])]) := q4.trans Pf.app
    have pl := pf.len
    have lq := q4.len
    refine ⟨pf.trans q5, ?_, fun e he => hr e (List.mem_cons_of_mem _ he)⟩
    refine ⟨_, rfl, _, get_new, by simp; omega, by omega, fun e he => ?_⟩
    rcases List.mem_append.mp he with he | he
    · refine (hb e he).go fun w o e1 e2 => ⟨q5 _ _ e2, e1.1, ?_⟩
      have := lt_of_get e2
      omega
    · have bz := bdz.go (s' := (s' ++ [O.lst [.tup [d, .int i, .bl true], .tup [.int i, d, .bl true]]]) ++ [O.lst (ds ++ [.tup [d, .int i, .bl true], .tup [.int i, d, .bl true]])]) (E' := fun w => s.length ≤ w ∧ w ≠ (s' ++ [O.lst [.tup [d, .int i, .bl true], .tup [.int i, d, .bl true]]]).length) fun w o e1 e2 => ⟨q5 _ _ e2, by omega, by have := lt_of_get e2; omega⟩
      simp only [List.mem_cons, List.not_mem_nil, or_false] at he
      rcases he with rfl | rfl
      · exact bz.map fun s' h => h.1
      · exact bz.map fun s' h => h.2
  · rintro σ s' ⟨pf, ⟨m, ds, t, rfl, hm, hl, hsm, hb⟩, _⟩
    simp
    have q4 : Pf s' (s' ++ [O.lst [.tup [.int i, .bl true, .bl true], .tup [.int i, .bl false, .bl true]]]) := Pf.app
    rw [o_add_l (q4 _ _ hm) get_new (by simp; omega)]
    have q5 : Pf s' ((s' ++ [O.lst [.tup [.int i, .bl true, .bl true], .tup [.int i, .bl false, .bl true]]]) ++ [O.lst (ds ++ [.tup [.int i, .bl true, .bl true], .tup [.int i, .bl false, .bl true]])]) := q4.trans Pf.app
    have pl := pf.len
    have lq := q4.len
    have ql := q2.len
    refine hQ _ _ _ (q1.trans (q2.trans (pf.trans q5))) get_new (by simp at hl ⊢; omega) (by omega) fun e he => ?_
    rcases List.mem_append.mp he with he | he
    · refine (hb e he).go fun w o e1 e2 => ⟨q5 _ _ e2, e1.1, ?_⟩
      have := lt_of_get e2
      omega
    · simp only [List.mem_cons, List.not_mem_nil, or_false] at he
      have na : ∀ {s' : S} {b : Bool}, NA s' 3 3 (.tup [.int i, .bl b, .bl true]) := fun {s' b} => fun s2 pf Q X hq => by
        unfold d_is_arc
        refine (v_def (by rfl)).mpr ?_
        unfold b_is_arc
        simp [isTy, lenD, eqD_int]
        refine sp_whole ?_
        simp
        refine sp_whole_b ?_
        simp
        exact hq
      rcases he with rfl | rfl
      · exact .inl fun s' => ba_of na (sm3 (sm_i hi) sm_bl sm_bl)
      · exact .inl fun s' => ba_of na (sm3 (sm_i hi) sm_bl sm_bl)
end
end P20
namespace P20
open PySem Fc P1 P85 PB
noncomputable section
def B9 : C := (cRet (eVar 4))
def B8 : C := cSeq (cIf (tB (e2 oGt (eN fLen (lCons (eVar 3) lNil)) (eC (.int 1))))
 (cExpr (eM mAppend (eVar 4) (lCons (eN mTup (lCons (eVar 1) (lCons (eVar 2) (lCons (e1 oRevT (eVar 3)) lNil)))) lNil)))
 cNil) B9
def B7 : C := cSeq (cIf (tB (e2 oNe (eVar 3) (eN mTup lNil)))
 (cSeq (cSet (e2 oAdd (eCut (e2 oAt (eVar 3) (eC (.int 0))) pNo (pYes (eC (.int 2)))) (eN mTup (lCons (eNotT (tE (e2 oAt (e2 oAt (eVar 3) (eC (.int 0))) (eC (.int 2))))) lNil))) (gName 7))
 (cSet (e2 oAdd (eVar 4) (eN mLst (lCons (eN mTup (lCons (eVar 1) (lCons (eVar 2) (lCons (e2 oAdd (eVar 3) (eCut (eVar 3) (pYes (e1 oNeg (eC (.int 1)))) pNo)) lNil)))) (lCons (eN mTup (lCons (eVar 1) (lCons (eVar 2) (lCons (e2 oAdd (e2 oAdd (eCut (eVar 3) pNo (pYes (eC (.int 1)))) (eN mTup (lCons (eVar 7) lNil))) (eCut (eVar 3) (pYes (eC (.int 1))) pNo)) lNil)))) lNil)))) (gName 4)))
 cNil) B8
def B6 : C := cSeq (cFor (iSrc .seq (e2 oAdd (eCall d_law_bad_arcs [] (lCons (eN mTup (lCons (eC (.int 0)) (lCons (eC (.int 0)) (lCons (eC (.bl true)) lNil)))) lNil)) (eN mLst (lCons (eN mTup (lCons (eC (.int 0)) (lCons (eC (.int 3)) (lCons (eC (.bl true)) lNil)))) (lCons (eN mTup (lCons (eC (.int 3)) (lCons (eC (.int 0)) (lCons (eC (.bl true)) lNil)))) (lCons (eN mTup (lCons (eC (.int 0)) (lCons (eC (.int 5)) (lCons (eC (.bl false)) lNil)))) lNil)))))) (gName 5)
 (cExpr (eM mAppend (eVar 4) (lCons (eN mTup (lCons (eVar 1) (lCons (eVar 2) (lCons (eN mTup (lCons (eVar 5) (lCons (eN mTup (lCons (eC (.int 2)) (lCons (eC (.int 2)) (lCons (eC (.bl true)) lNil)))) lNil))) lNil)))) lNil)))) B7
def B5 : C := cSeq (cFor (iSrc .seq (eCall d_law_bad_arcs [] (lCons (eN mTup (lCons (eC (.int 2)) (lCons (eC (.int 2)) (lCons (eC (.bl true)) lNil)))) lNil))) (gName 5)
 (cExpr (eM mAppend (eVar 4) (lCons (eN mTup (lCons (eVar 1) (lCons (eVar 2) (lCons (e2 oAdd (eN fTuple (lCons (eLc [6] (iSrc .seq (eVar 3)) (gName 6) (tB (e2 oNe (eCut (eVar 6) pNo (pYes (eC (.int 2)))) (eN mTup (lCons (eC (.int 2)) (lCons (eC (.int 2)) lNil))))) (eVar 6)) lNil)) (eN mTup (lCons (eVar 5) lNil))) lNil)))) lNil)))) B6
def B4 : C := cSeq (cFor (iSrc .seq (eN mLst (lCons (eC .non) (lCons (eC (.int 3)) (lCons (eN (fun _ => mDK) lNil) (lCons (eC (.str "arcs")) (lCons (eN mTup (lCons (eC .non) lNil)) (lCons (eN mTup (lCons (eN mTup (lCons (eC (.int 0)) (lCons (eC (.int 0)) lNil))) lNil)) (lCons (eN mTup (lCons (eN mTup (lCons (eC (.int 0)) (lCons (eC (.int 3)) (lCons (eC (.bl true)) lNil)))) lNil)) (lCons (eN mTup (lCons (eN mTup (lCons (eC (.int 3)) (lCons (eC (.int 0)) (lCons (eC (.bl false)) lNil)))) lNil)) (lCons (eN mTup (lCons (eN mTup (lCons (e1 oNeg (eC (.int 1))) (lCons (eC (.int 0)) (lCons (eC (.bl true)) lNil)))) lNil)) lNil))))))))))) (gName 5)
 (cExpr (eM mAppend (eVar 4) (lCons (eN mTup (lCons (eVar 1) (lCons (eVar 2) (lCons (eVar 5) lNil)))) lNil)))) B5
def B3 : C := cSeq (cFor (iSrc .seq (eN mLst (lCons (eC .non) (lCons (eC (.int 5)) (lCons (eC (.str "")) (lCons (eC (.str "F")) (lCons (eC (.str "f1")) (lCons (eC (.str "abcdefghijklm")) (lCons (eN mLst (lCons (eC (.str "f")) lNil)) (lCons (eC (.str "f ")) (lCons (eC (.str "f\n")) (lCons (eC (.bl true)) lNil)))))))))))) (gName 5)
 (cSet (e2 oAdd (eVar 4) (eN mLst (lCons (eN mTup (lCons (eVar 5) (lCons (eVar 2) (lCons (eVar 3) lNil)))) (lCons (eN mTup (lCons (eVar 1) (lCons (eVar 5) (lCons (eVar 3) lNil)))) lNil)))) (gName 4))) B4
def B2 : C := cSeq (cExpr (eM mAppend (eVar 4) (lCons (eN mTup (lCons (eVar 1) (lCons (eVar 2) (lCons (eN fList (lCons (eVar 3) lNil)) lNil)))) lNil))) B3
def B1 : C := cSeq (cSet (eN mLst (lCons (eC .non) (lCons (eC (.int 3)) (lCons (eC (.str "table")) (lCons (eN (fun _ => mDK) lNil) (lCons (eC (.bl true)) (lCons (eN mTup lNil) (lCons (eN mLst (lCons (eVar 1) (lCons (eVar 2) (lCons (eVar 3) lNil)))) (lCons (eN mTup (lCons (eVar 1) (lCons (eVar 2) lNil))) (lCons (eN mTup (lCons (eVar 1) (lCons (eVar 2) (lCons (eVar 3) (lCons (eC (.int 0)) lNil))))) lNil)))))))))) (gName 4)) B2
def B0 : C := cSeq (cSet (eVar 0) (gTup 3 (gCons (gName 1) (gCons (gName 2) (gCons (gName 3) gNil))))) B1
theorem B_eq : b_law_bent = B0 := rfl
end
/-- the list at n grows; the list l stands at x0 -/
structure Bs (s0 : S) (x0 n : Nat) (l ds : List D) (k : Nat) (s : S) : Prop where
  lst : s[n]? = some (.lst ds)
  x : s[x0]? = some (.lst l)
  ne : x0 < n
  lo : s0.length ≤ x0
  pf : Pf s0 s
  le : ds.length ≤ k
  odd : ∀ d ∈ ds, d = .ref x0 ∨ Fz Ok (fun w => w ≠ x0 ∧ w ≠ n) s d
section
variable {s0 s s1 : S} {x0 n k : Nat} {l ds : List D} {d a b : D} {P : Pst} {X : Xc} {Q : D → S → Prop}
theorem Bs.stay (h : Bs s0 x0 n l ds k s) (p : Pf s s1) : Bs s0 x0 n l ds k s1 :=
  ⟨p _ _ h.lst, p _ _ h.x, h.ne, h.lo, h.pf.trans p, h.le, fun d hd => (h.odd d hd).imp id fun f => f.pf p⟩
theorem kn_set (h : s[n]? = some (.lst ds)) {o : O} : Kn n s (s.set n o) := ⟨by simp, fun w hw o e => by rw [set_ne (Ne.symm hw)]; exact e⟩
theorem Bs.push (h : Bs s0 x0 n l ds k s) (hd : Fz Ok (fun w => w ≠ x0 ∧ w ≠ n) s d) : Bs s0 x0 n l (ds ++ [d]) (k + 1) (s.set n (.lst (ds ++ [d]))) := by
  have kn := kn_set (o := .lst (ds ++ [d])) h.lst
  have hne := h.ne
  refine ⟨set_get (lt_of_get h.lst), kn.2 _ (by omega) _ h.x, h.ne, h.lo, fun w o e => ?_, by have := h.le; simp; omega, fun e he => ?_⟩
  · have := lt_of_get e
    have := h.lo
    exact kn.2 w (by omega) _ (h.pf _ _ e)
  · rcases List.mem_append.mp he with he | he
    · rcases h.odd e he with z | z
      · exact .inl z
      · exact .inr (z.go fun w o e1 e2 => ⟨kn.2 w e1.2 o e2, e1⟩)
    · simp at he
      subst he
      exact .inr (hd.go fun w o e1 e2 => ⟨kn.2 w e1.2 o e2, e1⟩)
theorem Bs.cat (h : Bs s0 x0 n l ds k s) (p : Pf s s1) (ha : Fz Ok (fun w => w ≠ x0) s1 a) (hb : Fz Ok (fun w => w ≠ x0) s1 b) : Bs s0 x0 s1.length l (ds ++ [a, b]) (k + 2) (s1 ++ [O.lst (ds ++ [a, b])]) := by
  have q : Pf s1 (s1 ++ [O.lst (ds ++ [a, b])]) := Pf.app
  have g := h.stay p
  have hx := lt_of_get g.x
  refine ⟨get_new, q _ _ g.x, hx, h.lo, g.pf.trans q, by have := h.le; simp; omega, fun e he => ?_⟩
  have up : ∀ {e : D} {E : Nat → Prop}, (∀ w, E w → w ≠ x0) → Fz Ok E s1 e → Fz Ok (fun w => w ≠ x0 ∧ w ≠ s1.length) (s1 ++ [O.lst (ds ++ [a, b])]) e := fun {e E} hE z => z.go fun w o e1 e2 => ⟨q _ _ e2, hE w e1, by have := lt_of_get e2; omega⟩
  rcases List.mem_append.mp he with he | he
  · rcases g.odd e he with z | z
    · exact .inl z
    · exact .inr (up (fun w e => e.1) z)
  · simp only [List.mem_cons, List.not_mem_nil, or_false] at he
    rcases he with rfl | rfl
    · exact .inr (up (fun w e => e) ha)
    · exact .inr (up (fun w e => e) hb)
variable {T xa xb ar : D} {t5 t6 t7 : Option D}
/-- a loop that puts one thing behind for each thing of a list -/
theorem push_loop {L : Nat} {lits : List D} {body : C} {item : D → D} (h : Bs s0 x0 n l ds k s) (hL : s[L]? = some (.lst lits)) (hne : L ≠ n) (hk : k + lits.length < 1000)
    (hb : ∀ d ∈ lits, Fz Ok (fun w => w ≠ x0 ∧ w ≠ n) s (item d))
    (hstep : ∀ d ∈ lits, ∀ (s' : S) (ds' : List D) (P : Pst), s'[n]? = some (.lst ds') → ds'.length < 1000 → Kn n s s' → (∀ s3, Pf s' s3 → P.nx [some T, some xa, some xb, some ar, some (.ref n), some d, none, none] (s3.set n (.lst (ds' ++ [item d])))) → wC (body [some T, some xa, some xb, some ar, some (.ref n), some d, none, none] s') P)
    (hQ : ∀ s' ds' t, Bs s0 x0 n l ds' (k + lits.length) s' → P.nx [some T, some xa, some xb, some ar, some (.ref n), t, none, none] s') :
    wC (forL L (gName 5) body lits.length 0 [some T, some xa, some xb, some ar, some (.ref n), t5, none, none] s) P := by
  refine wC_forL (n := L) (ds := lits) (fun r σ s' => Kn n s s' ∧ (∃ t, σ = [some T, some xa, some xb, some ar, some (.ref n), t, none, none]) ∧ (∃ ds' k', Bs s0 x0 n l ds' k' s' ∧ k' + r.length = k + lits.length) ∧ ∀ d ∈ r, d ∈ lits)
    (fun r σ s' h' => h'.1.2 _ hne _ hL) ?_ ?_ _ 0 (by simp) ⟨Kn.refl, ⟨_, rfl⟩, ⟨ds, k, h, by simp⟩, fun d hd => hd⟩
  · rintro d r σ s' ⟨kn, ⟨t, rfl⟩, ⟨ds', k', b', hk'⟩, hr⟩
    have hd := hr d (List.mem_cons_self ..)
    have hle := b'.le
    simp at hk'
    refine ⟨_, rfl, hstep d hd s' ds' _ b'.lst (by omega) kn fun s3 p3 => ?_⟩
    have b3 := b'.stay p3
    have it := (hb d hd).go (s' := s3) (E' := fun w => w ≠ x0 ∧ w ≠ n) fun w o e1 e2 => ⟨p3 _ _ (kn.2 w e1.2 o e2), e1⟩
    have b4 := b3.push it
    have kk := kn_set (o := .lst (ds' ++ [item d])) b3.lst
    exact ⟨⟨by have := kn.1; have := p3.len; have := kk.1; omega, fun w hw o e => kk.2 w hw o (p3 _ _ (kn.2 w hw o e))⟩, ⟨_, rfl⟩, ⟨_, _, b4, by omega⟩, fun e he => hr e (List.mem_cons_of_mem _ he)⟩
  · rintro σ s' ⟨kn, ⟨t, rfl⟩, ⟨ds', k', b', hk'⟩, hr⟩
    simp at hk'
    subst hk'
    exact hQ s' ds' t b'
end
end P20
namespace P20
open PySem Fc P1 P85 PB
section
variable {s0 s s1 : S} {x0 n k : Nat} {l ds : List D} {P : Pst} {X : Xc} {Q : D → S → Prop} {x y : Str} {A : List Arc}
def tb (x y : Str) (A : List Arc) : D := .tup [.str x, .str y, .tup (A.map aD)]
def l3 (x y : Str) (A : List Arc) : List D := [.str x, .str y, .tup (A.map aD)]
theorem ok_ti {d : D} (h : isTy s d .tuple = some false) (h2 : isTy s d .list = some false) (k : Ti d) : Ok s d := ⟨h2, nt_no h, (rx_ti k).mono (by omega) (by omega)⟩
theorem ok_tup {ds : List D} (h : ds.length ≠ 3) (h2 : ds.length ≤ 4) (k : ∀ d ∈ ds, Rx 5 6000 s d) : Ok s (.tup ds) := ⟨rfl, nt_len h, (rx_tup (k := 5) (B := 6000) k).mono (by omega) (by simp; omega)⟩
theorem ok_dict {w : Nat} (h : s[w]? = some (.dK [])) : Ok s (.ref w) := ⟨by simp [isTy, h], nt_no (by simp [isTy, h]), (rx_sizes (hs := []) h fun x hx => by cases hx).mono (by omega) (by simp)⟩
theorem ok_lst {w : Nat} (h : s[w]? = some (.lst (A.map aD))) (hx : Nx x) (hy : Nx y) (hA : In3 A) (hl : A.length ≤ 12) : Ok s (.tup [.str x, .str y, .ref w]) :=
  ⟨rfl, nt_2 (nm_of hx.1) (nm_of hy.1) (by simp [isTy, h]), rx3 (rx_nx hx (by omega) (by omega)) (rx_nx hy (by omega) (by omega)) ((rx_lst (k := 3) (B := 400) h fun d hd => by
    obtain ⟨a, ha, rfl⟩ := List.mem_map.mp hd
    have := hA a ha
    exact rx_arc ⟨by omega, by omega⟩).mono (by omega) (by simp; omega))⟩
def ini (x y : Str) (A : List Arc) (e : Nat) : List D := [.non, .int 3, .str "table", .ref e, .bl true, .tup [], .ref (e + 1), .tup [.str x, .str y], .tup [.str x, .str y, .tup (A.map aD), .int 0]]
theorem bs_ini (hx : Nx x) (hy : Nx y) (hA : In3 A) (hl : A.length ≤ 9) : Bs s (s.length + 1) (s.length + 2) (l3 x y A) (ini x y A s.length) 9 (s ++ [O.dK [], O.lst (l3 x y A), O.lst (ini x y A s.length)]) := by
  have g0 : (s ++ [O.dK [], O.lst (l3 x y A), O.lst (ini x y A s.length)])[s.length]? = some (.dK []) := by rw [app_get (s := s) 0 (by omega)]; rfl
  have g1 : (s ++ [O.dK [], O.lst (l3 x y A), O.lst (ini x y A s.length)])[s.length + 1]? = some (.lst (l3 x y A)) := by rw [app_get (s := s) 1 (by omega)]; rfl
  have g2 : (s ++ [O.dK [], O.lst (l3 x y A), O.lst (ini x y A s.length)])[s.length + 2]? = some (.lst (ini x y A s.length)) := by rw [app_get (s := s) 2 (by omega)]; rfl
  refine ⟨g2, g1, by omega, by omega, Pf.app, by simp [ini], fun d hd => ?_⟩
  simp only [ini, List.mem_cons, List.not_mem_nil, or_false] at hd
  rcases hd with rfl | rfl | rfl | rfl | rfl | rfl | rfl | rfl | rfl
  · exact .inr (.inl fun s' => ok_ti rfl rfl ti_non)
  · exact .inr (.inl fun s' => ok_ti rfl rfl (ti_int (by omega) (by omega)))
  · exact .inr (.inl fun s' => ok_ti rfl rfl (ti_str okS_of (by decide +kernel)))
  · exact .inr (.inr ⟨s.length, _, ⟨by omega, by omega⟩, g0, fun s' h => ok_dict h⟩)
  · exact .inr (.inl fun s' => ok_ti rfl rfl ti_bl)
  · exact .inr (.inl fun s' => ok_tup (by simp) (by simp) fun d hd => by cases hd)
  · exact .inl rfl
  · refine .inr (.inl fun s' => ok_tup (by simp) (by simp) fun d hd => ?_)
    simp only [List.mem_cons, List.not_mem_nil, or_false] at hd
    rcases hd with rfl | rfl
    · exact rx_nx hx (by omega) (by omega)
    · exact rx_nx hy (by omega) (by omega)
  · refine .inr (.inl fun s' => ok_tup (by simp) (by simp) fun d hd => ?_)
    simp only [List.mem_cons, List.not_mem_nil, or_false] at hd
    rcases hd with rfl | rfl | rfl | rfl
    · exact rx_nx hx (by omega) (by omega)
    · exact rx_nx hy (by omega) (by omega)
    · exact rx_A hA (by omega)
    · exact (rx_ti (ti_int (by omega) (by omega))).mono (by omega) (by omega)
theorem st_b0 (hx : Nx x) (hy : Nx y) (hA : In3 A) (hl : A.length ≤ 9) (hQ : ∀ s' n ds, Bs s (s.length + 1) n (l3 x y A) ds 10 s' → wC (B3 [some (tb x y A), some (.str x), some (.str y), some (.tup (A.map aD)), some (.ref n), none, none, none] s') P) :
    wC (B0 [some (tb x y A), none, none, none, none, none, none, none] s) P := by
  unfold B0
  simp [tb]
  unfold B1
  simp
  show wC (B2 _ (s ++ [O.dK [], O.lst (l3 x y A), O.lst (ini x y A s.length)])) P
  have b := bs_ini (s := s) hx hy hA hl
  generalize s ++ [O.dK [], O.lst (l3 x y A), O.lst (ini x y A s.length)] = s1 at *
  generalize ini x y A s.length = ds at *
  generalize s.length + 2 = n at *
  unfold B2
  have b2 := b.stay (Pf.app (s := s1) (t := [O.lst (A.map aD)]))
  have hle := b.le
  have i1 : isLst (s1 ++ [O.lst (A.map aD)]) (.ref n) = true := isl b2.lst
  have i2 : lstAt (s1 ++ [O.lst (A.map aD)]) n = some ds := lstAt_of b2.lst
  have i3 : isLst s1 (.ref n) = true := isl b.lst
  simp [i1, i2, i3]
  rw [decide_eq_true (by omega), onT_t]
  have hn := lt_of_get b.lst
  have hx0 := lt_of_get b.x
  refine hQ _ _ _ (b2.push (.inr ⟨s1.length, _, ⟨by omega, by omega⟩, get_new, fun s' h => ok_lst h hx hy hA (by omega)⟩))
theorem src_l {n : Nat} {ds : List D} (h : s[n]? = some (.lst ds)) : srcOf Src.seq (.ref n) s = some (.list n ds.length) := by simp [srcOf, h]
/-- the names that are none -/
theorem st_b3 (hx : Nx x) (hy : Nx y) (hA : In3 A) (hl : A.length ≤ 9) (b : Bs s0 x0 n (l3 x y A) ds k s) (hk : k < 200) (hQ : ∀ s' n ds t, Bs s0 x0 n (l3 x y A) ds (k + 20) s' → wC (B4 [some (tb x y A), some (.str x), some (.str y), some (.tup (A.map aD)), some (.ref n), t, none, none] s') P) :
    wC (B3 [some (tb x y A), some (.str x), some (.str y), some (.tup (A.map aD)), some (.ref n), none, none, none] s) P := by
  unfold B3
  generalize hB : cSet (e2 oAdd (eVar 4) _) _ = Bd
  simp
  have q2 : Pf s (s ++ [O.lst [.str "f"], O.lst (names s.length)]) := Pf.app
  have g2 : (s ++ [O.lst [.str "f"], O.lst (names s.length)])[s.length]? = some (.lst [.str "f"]) := by rw [app_get (s := s) 0 (by omega)]; rfl
  have g3 : (s ++ [O.lst [.str "f"], O.lst (names s.length)])[s.length + 1]? = some (.lst (names s.length)) := by rw [app_get (s := s) 1 (by omega)]; rfl
  have bn := bn_names (s := s ++ [O.lst [.str "f"], O.lst (names s.length)]) (E := fun w => s.length = w) g2 rfl
  change onO (srcOf Src.seq (D.ref (s.length + 1)) (s ++ [O.lst [.str "f"], O.lst (names s.length)])) _
  rw [src_l g3, onO_some]
  show wC (forL _ _ _ (names s.length).length 0 _ (s ++ [O.lst [.str "f"], O.lst (names s.length)])) _
  have b1 := b.stay q2
  have hx0 := lt_of_get b.x
  have l10 : (names s.length).length = 10 := rfl
  generalize hw : names s.length = lits at *
  generalize hs1 : s ++ [O.lst [.str "f"], O.lst lits] = s1 at *
  refine wC_forL (n := s.length + 1) (ds := lits) (fun r σ s' => Pf s1 s' ∧ (∃ n' t ds', σ = [some (tb x y A), some (.str x), some (.str y), some (.tup (A.map aD)), some (.ref n'), t, none, none] ∧ ∃ k', Bs s0 x0 n' (l3 x y A) ds' k' s' ∧ k' + 2 * r.length = k + 20) ∧ ∀ d ∈ r, d ∈ lits)
    (fun r σ s' h' => h'.1 _ _ g3) ?_ ?_ _ 0 (by simp) ⟨Pf.refl, ⟨n, none, ds, rfl, k, b1, by simp; omega⟩, fun d hd => hd⟩
  · rintro d r σ s' ⟨pf, ⟨n', t, ds', rfl, k', b', hk'⟩, hr⟩
    have hd := hr d (List.mem_cons_self ..)
    have fz := (bn d hd).go (s' := s') (E' := fun w => s.length = w) fun w o e1 e2 => ⟨pf _ _ e2, e1⟩
    have hle := b'.le
    simp at hk'
    refine ⟨_, rfl, ?_⟩
    rw [← hB]
    simp
    have q4 : Pf s' (s' ++ [O.lst [.tup [d, .str y, .tup (A.map aD)], .tup [.str x, d, .tup (A.map aD)]]]) := Pf.app
    rw [o_add_l (q4 _ _ b'.lst) get_new (by simp; omega)]
    have fz' := fz.go (s' := s' ++ [O.lst [.tup [d, .str y, .tup (A.map aD)], .tup [.str x, d, .tup (A.map aD)]]]) (E' := fun w => w ≠ x0) fun w o e1 e2 => ⟨q4 _ _ e2, by omega⟩
    have b4 := b'.cat q4 (fz'.map fun s' h => ok_n0 h hy (rx_A hA (by omega))) (fz'.map fun s' h => ok_n1 h hx (rx_A hA (by omega)))
    exact ⟨pf.trans (q4.trans Pf.app), ⟨_, rfl, _, _, b4, by omega⟩, fun e he => hr e (List.mem_cons_of_mem _ he)⟩
  · rintro σ s' ⟨pf, ⟨n', t, ds', rfl, k', b', hk'⟩, hr⟩
    simp at hk'
    subst hk'
    exact hQ s' n' ds' t b'
end
end P20
namespace P20
open PySem Fc P1 P85 PB
section
variable {s0 s s1 : S} {x0 n k : Nat} {l ds : List D} {P : Pst} {X : Xc} {Q : D → S → Prop} {x y : Str} {A : List Arc}
def lit8 (e : Nat) : List D := [.non, .int 3, .ref e, .str "arcs", .tup [.non], .tup [.tup [.int 0, .int 0]], .tup [.tup [.int 0, .int 3, .bl true]], .tup [.tup [.int 3, .int 0, .bl false]], .tup [.tup [.int (-1), .int 0, .bl true]]]
theorem bt_8 {E : Nat → Prop} {w : Nat} (hw : s[w]? = some (.dK [])) (hE : E w) : ∀ d ∈ lit8 w, Fz Bt E s d := fun d hd => by
  have i0 : Sm (.int 0) := sm_int (by omega) (by omega)
  have ti : ∀ {s' : S} {d : D}, isTy s' d .tuple = some false → Ti d → Bt s' d := fun {s' d} h k => .inl ⟨h, (rx_ti k).mono (by omega) (by omega)⟩
  simp only [lit8, List.mem_cons, List.not_mem_nil, or_false] at hd
  rcases hd with rfl | rfl | rfl | rfl | rfl | rfl | rfl | rfl | rfl
  · exact .inl fun s' => ti rfl ti_non
  · exact .inl fun s' => ti rfl (ti_int (by omega) (by omega))
  · exact .inr ⟨w, _, hE, hw, fun s' h => .inl ⟨by simp [isTy, h], (rx_sizes (hs := []) h fun x hx => by cases hx).mono (by omega) (by simp)⟩⟩
  · exact .inl fun s' => ti rfl (ti_str okS_of (by decide +kernel))
  · exact .inl fun s' => .inr ⟨_, rfl, ba_sm (na_no rfl) sm_non⟩
  · refine .inl fun s' => .inr ⟨_, rfl, ba_of (na_len (by simp)) (te_tup_rx4 (fun d hd => ?_) (fun d hd => ?_) (by simp))⟩
    · simp only [List.mem_cons, List.not_mem_nil, or_false, or_self] at hd; subst hd; exact i0.1
    · simp only [List.mem_cons, List.not_mem_nil, or_false, or_self] at hd; subst hd; exact i0.2
  · exact .inl fun s' => .inr ⟨_, rfl, ba_of (na_int (.inr (.inl (by omega)))) (sm3 i0 (sm_int (by omega) (by omega)) sm_bl)⟩
  · exact .inl fun s' => .inr ⟨_, rfl, ba_of (na_int (.inl (by omega))) (sm3 (sm_int (by omega) (by omega)) i0 sm_bl)⟩
  · exact .inl fun s' => .inr ⟨_, rfl, ba_of (na_int (.inl (by omega))) (sm3 (sm_int (by omega) (by omega)) i0 sm_bl)⟩
/-- what is no tuple of arcs -/
theorem st_b4 {t : Option D} (hx : Nx x) (hy : Nx y) (b : Bs s0 x0 n (l3 x y A) ds k s) (hk : k < 200) (hQ : ∀ s' ds t, Bs s0 x0 n (l3 x y A) ds (k + 9) s' → wC (B5 [some (tb x y A), some (.str x), some (.str y), some (.tup (A.map aD)), some (.ref n), t, none, none] s') P) :
    wC (B4 [some (tb x y A), some (.str x), some (.str y), some (.tup (A.map aD)), some (.ref n), t, none, none] s) P := by
  unfold B4
  generalize hB : cExpr _ = Bd
  simp
  have q2 : Pf s (s ++ [O.dK [], O.lst (lit8 s.length)]) := Pf.app
  have g2 : (s ++ [O.dK [], O.lst (lit8 s.length)])[s.length]? = some (.dK []) := by rw [app_get (s := s) 0 (by omega)]; rfl
  have g3 : (s ++ [O.dK [], O.lst (lit8 s.length)])[s.length + 1]? = some (.lst (lit8 s.length)) := by rw [app_get (s := s) 1 (by omega)]; rfl
  have bn := bt_8 (s := s ++ [O.dK [], O.lst (lit8 s.length)]) (E := fun w => s.length = w) g2 rfl
  change onO (srcOf Src.seq (D.ref (s.length + 1)) (s ++ [O.dK [], O.lst (lit8 s.length)])) _
  rw [src_l g3, onO_some]
  show wC (forL _ _ _ (lit8 s.length).length 0 _ (s ++ [O.dK [], O.lst (lit8 s.length)])) _
  have b1 := b.stay q2
  have hx0 := lt_of_get b.x
  have hn := lt_of_get b.lst
  have l10 : (lit8 s.length).length = 9 := rfl
  generalize hw : lit8 s.length = lits at *
  generalize hs1 : s ++ [O.dK [], O.lst lits] = s1 at *
  refine push_loop (item := fun d => .tup [.str x, .str y, d]) b1 g3 (by omega) (by omega) (fun d hd => ?_) (fun d hd s' ds' P' h1 h2 kn hP => ?_) fun s' ds' t b' => ?_
  · exact ((bn d hd).go (s' := s1) (E' := fun w => w ≠ x0 ∧ w ≠ n) fun w o e1 e2 => ⟨e2, by omega, by omega⟩).map fun s' h => ok_bt h hx hy
  · rw [← hB]
    simp [isl h1, lstAt_of h1]
    rw [decide_eq_true (by omega), onT_t]
    exact hP _ Pf.refl
  · rw [l10] at b'
    exact hQ _ _ _ b'
theorem eq_pair {i j : Nat} : eqD s (.tup [.int i, .int j]) (.tup [.int 2, .int 2]) = some (decide (i = 2 ∧ j = 2)) := by
  rw [eq_of (x := .tuple [.int i, .int j]) (y := .tuple [.int 2, .int 2]) (by rw [dat_tup, dats_cons dat_int (dats_cons dat_int dats_nil)]; rfl) (by rw [dat_tup, dats_cons dat_int (dats_cons dat_int dats_nil)]; rfl) ?_ (by decide)]
  · congr 1
    simp [PyData.eqv, PyData.eqvAll]
    by_cases h1 : i = 2 <;> by_cases h2 : j = 2 <;> simp [h1, h2] <;> omega
  · refine Bool.and_eq_true_iff.mpr ⟨by simp [PyData.canLay0, PyData.canLayAll0], decide_eq_true ?_⟩
    simp [PyData.depth, PyData.depthAll]
def fA : D → Option D
  | .tup [.int i, .int j, c] => if i = 2 ∧ j = 2 then none else some (.tup [.int i, .int j, c])
  | _ => none
def no22 (a : Arc) : Bool := !(decide (a.1 = 2 ∧ a.2.1 = 2))
theorem fa_arc {a : Arc} : fA (aD a) = if no22 a = true then some (aD a) else none := by
  obtain ⟨i, j, c⟩ := a
  show (if (i : Int) = 2 ∧ (j : Int) = 2 then none else some (aD (i, j, c))) = _
  by_cases h : i = 2 ∧ j = 2
  · have e : no22 (i, j, c) = false := by simp [no22, h]
    rw [if_pos ⟨by omega, by omega⟩, e]
    rfl
  · have e : no22 (i, j, c) = true := by simp [no22]; omega
    rw [if_neg (by omega), e]
    rfl
theorem fm_fa : ∀ A : List Arc, (A.map aD).filterMap fA = (A.filter no22).map aD
  | [] => rfl
  | a :: A => by
    rw [List.map_cons, List.filterMap_cons, fa_arc, fm_fa A, List.filter_cons]
    cases no22 a <;> rfl
/-- the bad arcs at (2, 2) -/
theorem st_b5 {t : Option D} (hx : Nx x) (hy : Nx y) (hA : In3 A) (hl : A.length ≤ 8 ∨ A.length ≤ 9) (b : Bs s0 x0 n (l3 x y A) ds k s) (hk : k < 200) (hQ : ∀ s' ds t, Bs s0 x0 n (l3 x y A) ds (k + 30) s' → wC (B6 [some (tb x y A), some (.str x), some (.str y), some (.tup (A.map aD)), some (.ref n), t, none, none] s') P) :
    wC (B5 [some (tb x y A), some (.str x), some (.str y), some (.tup (A.map aD)), some (.ref n), t, none, none] s) P := by
  unfold B5
  generalize hB : cExpr _ = Bd
  simp
  refine sp_bad_arcs (i := 2) (by omega) fun s1 m lits p1 hm hlen hsm hb => ?_
  rw [src_l hm, onO_some]
  dsimp only
  have b1 := b.stay p1
  have hx0 := lt_of_get b.x
  have hn := lt_of_get b.lst
  have hA' : In3 (A.filter no22) := fun a ha => hA a (List.mem_filter.mp ha).1
  have hl' : (A.filter no22).length ≤ A.length := List.length_filter_le ..
  refine push_loop (item := fun d => .tup [.str x, .str y, .tup ((A.filter no22).map aD ++ [d])]) b1 hm (by omega) (by omega) (fun d hd => ?_) (fun d hd s' ds' P' h1 h2 kn hP => ?_) fun s' ds' t b' => ?_
  · exact ((hb d hd).go (s' := s1) (E' := fun w => w ≠ x0 ∧ w ≠ n) fun w o e1 e2 => ⟨e2, by omega, by omega⟩).map fun s' h => ok_ba (B := []) h hx hy hA' (fun a ha => by cases ha) (by simp; omega)
  · rw [← hB]
    simp [isl h1, srcOf]
    refine w_lcP fA (by simp; omega) (fun e he s4 p4 => ?_) fun s4 p4 h4 => ?_
    · obtain ⟨a, ha, rfl⟩ := List.mem_map.mp he
      obtain ⟨i, j, c⟩ := a
      refine ⟨_, rfl, ?_⟩
      have ec : cutL [D.int i, .int j, .bl c] none (some 2) = [.int i, .int j] := rfl
      simp [Fc.wipe, aD, ec, eq_pair]
      by_cases h : (i : Int) = 2 ∧ (j : Int) = 2
      · have e1 : fA (.tup [.int i, .int j, .bl c]) = none := if_pos h
        rw [e1]
        simp [Pf.refl]
        omega
      · have e1 : fA (.tup [.int i, .int j, .bl c]) = some (.tup [.int i, .int j, .bl c]) := if_neg h
        rw [e1]
        simp [Pf.refl]
        omega
    · rw [fm_fa] at h4
      have hn4 := p4 _ _ h1
      simp [lstAt_of h4, lstAt_of hn4]
      rw [sz_lit (by omega), onT_t, decide_eq_true (by omega), onT_t]
      exact hP _ p4
  · exact hQ _ _ _ ⟨b'.lst, b'.x, b'.ne, b'.lo, b'.pf, by have := b'.le; omega, b'.odd⟩
theorem st_b6 {t : Option D} (hx : Nx x) (hy : Nx y) (b : Bs s0 x0 n (l3 x y A) ds k s) (hk : k < 200) (hQ : ∀ s' ds t, Bs s0 x0 n (l3 x y A) ds (k + 33) s' → wC (B7 [some (tb x y A), some (.str x), some (.str y), some (.tup (A.map aD)), some (.ref n), t, none, none] s') P) :
    wC (B6 [some (tb x y A), some (.str x), some (.str y), some (.tup (A.map aD)), some (.ref n), t, none, none] s) P := by
  unfold B6
  generalize hB : cExpr _ = Bd
  simp
  refine sp_bad_arcs (i := 0) (by omega) fun s1 m lits p1 hm hlen hsm hb => ?_
  have q4 : Pf s1 (s1 ++ [O.lst [.tup [.int 0, .int 3, .bl true], .tup [.int 3, .int 0, .bl true], .tup [.int 0, .int 5, .bl false]]]) := Pf.app
  rw [o_add_l (q4 _ _ hm) get_new (by simp; omega)]
  have q5 : Pf s1 ((s1 ++ [O.lst [.tup [.int 0, .int 3, .bl true], .tup [.int 3, .int 0, .bl true], .tup [.int 0, .int 5, .bl false]]]) ++ [O.lst (lits ++ [.tup [.int 0, .int 3, .bl true], .tup [.int 3, .int 0, .bl true], .tup [.int 0, .int 5, .bl false]])]) := q4.trans Pf.app
  have gL := get_new (s := s1 ++ [O.lst [.tup [.int 0, .int 3, .bl true], .tup [.int 3, .int 0, .bl true], .tup [.int 0, .int 5, .bl false]]]) (o := O.lst (lits ++ [.tup [.int 0, .int 3, .bl true], .tup [.int 3, .int 0, .bl true], .tup [.int 0, .int 5, .bl false]]))
  rw [src_l gL, onO_some]
  dsimp only
  have b1 := b.stay (p1.trans q5)
  have hx0 := lt_of_get b.x
  have hn := lt_of_get b.lst
  have lp := p1.len
  have hLn : n ≠ (s1 ++ [O.lst [.tup [.int 0, .int 3, .bl true], .tup [.int 3, .int 0, .bl true], .tup [.int 0, .int 5, .bl false]]]).length := by simp; omega
  have hb2 : ∀ d ∈ lits ++ [.tup [.int 0, .int 3, .bl true], .tup [.int 3, .int 0, .bl true], .tup [.int 0, .int 5, .bl false]], Fz Ba (fun w => w ≠ x0 ∧ w ≠ n) ((s1 ++ [O.lst [.tup [.int 0, .int 3, .bl true], .tup [.int 3, .int 0, .bl true], .tup [.int 0, .int 5, .bl false]]]) ++ [O.lst (lits ++ [.tup [.int 0, .int 3, .bl true], .tup [.int 3, .int 0, .bl true], .tup [.int 0, .int 5, .bl false]])]) d := fun d hd => by
    rcases List.mem_append.mp hd with hd | hd
    · exact (hb d hd).go fun w o e1 e2 => ⟨q5 _ _ e2, by omega, by omega⟩
    · have i0 : Sm (.int 0) := sm_int (by omega) (by omega)
      simp only [List.mem_cons, List.not_mem_nil, or_false] at hd
      rcases hd with rfl | rfl | rfl
      · exact .inl fun s' => ba_of (na_int (.inr (.inl (by omega)))) (sm3 i0 (sm_int (by omega) (by omega)) sm_bl)
      · exact .inl fun s' => ba_of (na_int (.inl (by omega))) (sm3 (sm_int (by omega) (by omega)) i0 sm_bl)
      · exact .inl fun s' => ba_of (na_int (.inr (.inl (by omega)))) (sm3 i0 (sm_int (by omega) (by omega)) sm_bl)
  have hll : (lits ++ [D.tup [.int 0, .int 3, .bl true], .tup [.int 3, .int 0, .bl true], .tup [.int 0, .int 5, .bl false]]).length ≤ 33 := by simp; omega
  generalize lits ++ [D.tup [.int 0, .int 3, .bl true], .tup [.int 3, .int 0, .bl true], .tup [.int 0, .int 5, .bl false]] = lt2 at *
  refine push_loop (item := fun d => .tup [.str x, .str y, .tup [d, .tup [.int 2, .int 2, .bl true]]]) b1 gL (Ne.symm hLn) (by omega) (fun d hd => ?_) (fun d hd s' ds' P' h1 h2 kn hP => ?_) fun s' ds' t b' => ?_
  · exact (hb2 d hd).map fun s' h => ok_ba (A := []) (B := [(2, 2, true)]) h hx hy (fun a ha => by cases ha) (fun a ha => by simp at ha; subst ha; exact ⟨by decide, by decide⟩) (by simp)
  · rw [← hB]
    simp [isl h1, lstAt_of h1]
    rw [decide_eq_true (by omega), onT_t]
    exact hP _ Pf.refl
  · exact hQ _ _ _ ⟨b'.lst, b'.x, b'.ne, b'.lo, b'.pf, by have := b'.le; omega, b'.odd⟩
end
end P20
namespace P20
open PySem Fc P1 P85 PB
section
variable {s0 s s1 : S} {x0 n k : Nat} {l ds : List D} {P : Pst} {X : Xc} {Q : D → S → Prop} {x y : Str} {A : List Arc}
theorem cutL_last {α : Type} {xs : List α} {d : α} : cutL (xs ++ [d]) (some (-1)) none = [d] := by
  unfold cutL
  have e1 : HT.sIx (xs ++ [d]).length 0 (some (-1)) = xs.length := by
    show (if (-1 : Int) < 0 then ((-1 : Int) + (((xs ++ [d]).length : Nat) : Int)).toNat else min (-1 : Int).toNat (xs ++ [d]).length) = _
    rw [if_pos (by omega)]
    simp
    omega
  have e0 : HT.sIx (xs ++ [d]).length (xs ++ [d]).length none = (xs ++ [d]).length := HT.sIx_none _ _
  rw [e1, e0]
  simp
theorem cutL_head {α : Type} {xs : List α} {d : α} : cutL (d :: xs) none (some 1) = [d] := by
  unfold cutL
  have e1 : HT.sIx (d :: xs).length (d :: xs).length (some 1) = 1 := by
    show (if (1 : Int) < 0 then ((1 : Int) + (((d :: xs).length : Nat) : Int)).toNat else min (1 : Int).toNat (d :: xs).length) = 1
    rw [if_neg (by omega)]
    simp
  rw [e1, HT.sIx_none]
  simp
theorem cutL_tail {α : Type} {xs : List α} {d : α} : cutL (d :: xs) (some 1) none = xs := by
  unfold cutL
  have e1 : HT.sIx (d :: xs).length 0 (some 1) = 1 := by
    show (if (1 : Int) < 0 then ((1 : Int) + (((d :: xs).length : Nat) : Int)).toNat else min (1 : Int).toNat (d :: xs).length) = 1
    rw [if_neg (by omega)]
    simp
  rw [e1, HT.sIx_none]
  simp
theorem eq_tup0 {A : List Arc} : eqD s (.tup (A.map aD)) (.tup []) = some A.isEmpty := by
  have h := shaped_arcs A
  rw [eq_of (x := .tuple (A.map arcP)) (y := .tuple []) (by rw [dat_tup, dats_map arcP (fun a => dat_arc a)]; rfl) (by rw [dat_tup, dats_nil]; rfl) ?_ (by decide)]
  · cases A <;> simp [PyData.eqv, PyData.eqvAll]
  · simpa [SeqAt.shaped, PyData.canLay0, PyData.depth] using h
theorem ok_pl (hx : Nx x) (hy : Nx y) (hA : In3 A) (hl : A.length ≤ 12) (hne : A.map plc ≠ sortI (A.map plc)) : Ok s (tb x y A) :=
  ⟨rfl, nt_pl (nm_of hx.1) (nm_of hy.1) hA (by omega) hne, rx3 (rx_nx hx (by omega) (by omega)) (rx_nx hy (by omega) (by omega)) (rx_A hA hl)⟩
theorem st_b7 {t : Option D} (hx : Nx x) (hy : Nx y) (hA : In3 A) (hl : A.length ≤ 9) (b : Bs s0 x0 n (l3 x y A) ds k s) (hk : k < 200) (hQ : ∀ s' n ds t7, Bs s0 x0 n (l3 x y A) ds (k + 2) s' → wC (B8 [some (tb x y A), some (.str x), some (.str y), some (.tup (A.map aD)), some (.ref n), t, none, t7] s') P) :
    wC (B7 [some (tb x y A), some (.str x), some (.str y), some (.tup (A.map aD)), some (.ref n), t, none, none] s) P := by
  unfold B7
  match A, hl with
  | [], _ =>
    have ee : eqD s (.tup []) (.tup []) = some true := eq_tup0 (A := [])
    simp [ee]
    exact hQ _ _ _ _ ⟨b.lst, b.x, b.ne, b.lo, b.pf, by have := b.le; omega, b.odd⟩
  | a :: r, hl =>
    have ee : eqD s (.tup (aD a :: List.map aD r)) (.tup []) = some false := eq_tup0 (A := a :: r)
    obtain ⟨A0, z, ez⟩ : ∃ (A0 : List Arc) (z : Arc), a :: r = A0 ++ [z] := ⟨(a :: r).dropLast, (a :: r).getLast (by simp), (List.dropLast_concat_getLast (by simp)).symm⟩
    have c1 : cutL (aD a :: List.map aD r) (some (-1)) none = [aD z] := by
      have e : aD a :: List.map aD r = A0.map aD ++ [aD z] := by rw [← List.map_cons, ez]; simp
      rw [e, cutL_last]
    have c2 : cutL (aD a :: List.map aD r) none (some 1) = [aD a] := cutL_head
    have c3 : cutL (aD a :: List.map aD r) (some 1) none = List.map aD r := cutL_tail
    simp at hl
    obtain ⟨i, j, c⟩ := a
    have ec : cutL [D.int i, .int j, .bl c] none (some 2) = [.int i, .int j] := rfl
    have ea : aD (i, j, c) = .tup [D.int i, .int j, .bl c] := rfl
    have at2 : atD s (.tup [D.int i, .int j, .bl c]) (.int 2) = some (.bl c) := rfl
    have tr : truth s (.bl c) = some c := rfl
    have s1 : sz (r.length + 1 + 1) = true := sz_lit (by omega)
    have s2 : sz (1 + 1 + r.length) = true := sz_lit (by omega)
    simp [ee, c1, c2, c3]
    simp only [ea, o_cut_t, ec, at2, onO_some, tr]
    simp [s1, s2]
    have hle := b.le
    generalize e1 : D.tup [.str x, .str y, .tup (.tup [.int i, .int j, .bl c] :: (List.map aD r ++ [aD z]))] = i1
    generalize e2 : D.tup [.str x, .str y, .tup (.tup [.int i, .int j, .bl c] :: .tup [.int i, .int j, .bl !c] :: List.map aD r)] = i2
    have q4 : Pf s (s ++ [O.lst [i1, i2]]) := Pf.app
    rw [o_add_l (q4 _ _ b.lst) get_new (by simp; omega)]
    have h1 : ∀ s', Ok s' i1 := fun s' => by
      have : i1 = tb x y ((i, j, c) :: r ++ [z]) := by rw [← e1]; simp [tb, aD]
      rw [this]
      refine ok_pl hx hy (fun w hw => ?_) (by simp; omega) (by rw [ez]; exact ne_dup)
      rcases List.mem_append.mp hw with hw | hw
      · exact hA w hw
      · simp at hw
        subst hw
        exact hA w (by rw [ez]; simp)
    have h2 : ∀ s', Ok s' i2 := fun s' => by
      have : i2 = tb x y ((i, j, c) :: (i, j, !c) :: r) := by rw [← e2]; simp [tb, aD]
      rw [this]
      refine ok_pl hx hy (fun w hw => ?_) (by simp; omega) (ne_twin rfl)
      simp only [List.mem_cons] at hw
      rcases hw with rfl | rfl | hw
      · exact hA _ (List.mem_cons_self ..)
      · exact hA (i, j, c) (List.mem_cons_self ..)
      · exact hA w (List.mem_cons_of_mem _ hw)
    exact hQ _ _ _ _ (b.cat q4 (.inl h1) (.inl h2))
theorem st_b8 {t t7 : Option D} (hx : Nx x) (hy : Nx y) (hA : In3 A) (hs : (A.map plc).Pairwise (fun a b => lexI a b = true)) (hl : A.length ≤ 9) (b : Bs s0 x0 n (l3 x y A) ds k s) (hk : k < 200) (hQ : ∀ s' ds, Bs s0 x0 n (l3 x y A) ds (k + 1) s' → P.rt (.ref n) s') :
    wC (B8 [some (tb x y A), some (.str x), some (.str y), some (.tup (A.map aD)), some (.ref n), t, none, t7] s) P := by
  unfold B8
  have hle := b.le
  by_cases hl1 : 1 < A.length
  · have hd : decide (1 < (A.length : Int)) = true := decide_eq_true (by omega)
    have hd2 : decide (ds.length < 16777216) = true := decide_eq_true (by omega)
    unfold B9
    simp [isl b.lst, lstAt_of b.lst]
    rw [hd, onT_t, hd2, onT_t]
    rw [← List.map_reverse]
    refine hQ _ _ (b.push (d := .tup [.str x, .str y, .tup (A.reverse.map aD)]) (.inl fun s' => ?_))
    exact ok_pl hx hy (fun w hw => hA w (by simpa using hw)) (by simp; omega) (ne_rev hs hl1)
  · have hd : decide (1 < (A.length : Int)) = false := decide_eq_false (by omega)
    unfold B9
    simp
    rw [hd, onT_f]
    exact hQ _ _ ⟨b.lst, b.x, b.ne, b.lo, b.pf, by omega, b.odd⟩
theorem sp_bent (hx : Nx x) (hy : Nx y) (hA : In3 A) (hs : (A.map plc).Pairwise (fun a b => lexI a b = true)) (hl : A.length ≤ 9) (hQ : ∀ s' n ds, Bs s (s.length + 1) n (l3 x y A) ds 120 s' → Q (.ref n) s') : wE (d_law_bent [tb x y A] s) Q X := by
  unfold d_law_bent
  refine (v_def (by rfl)).mpr ?_
  rw [B_eq]
  refine st_b0 hx hy hA hl fun s1 n1 ds1 b1 => ?_
  refine st_b3 hx hy hA hl b1 (by omega) fun s2 n2 ds2 t2 b2 => ?_
  refine st_b4 hx hy b2 (by omega) fun s3 ds3 t3 b3 => ?_
  refine st_b5 hx hy hA (.inr hl) b3 (by omega) fun s4 ds4 t4 b4 => ?_
  refine st_b6 hx hy b4 (by omega) fun s5 ds5 t5 b5 => ?_
  refine st_b7 hx hy hA hl b5 (by omega) fun s6 n6 ds6 t6 b6 => ?_
  refine st_b8 hx hy hA hs hl b6 (by omega) fun s7 ds7 b7 => ?_
  exact hQ _ _ _ ⟨b7.lst, b7.x, b7.ne, b7.lo, b7.pf, by have := b7.le; omega, b7.odd⟩
end
end P20
namespace P20
open PySem Fc P1 P85 PB
section
variable {s s1 : S} {X : Xc} {Q : D → S → Prop} {x y : Str} {A : List Arc} {d one other dv : D} {c t : Str} {k : Nat} {M : Mt}
def Door (s : S) (k : Nat) (one other : D) (Q : D → S → Prop) (X : Xc) : Prop := match k with
  | 0 => wE (d_has_fall [one] s) Q X
  | 1 => wE (d_power [one, other] s) Q X
  | _ => wE (d_product [one, other] s) Q X
def Dx (s : S) (k : Nat) (one other : D) (c : Str) (dv : D) : Prop := ∀ (Q : D → S → Prop) (X : Xc), (∀ s', Pf s s' → X c [("value", dv)] s') → Door s k one other Q X
def subT : List Str := ["CallsError", "InvalidTable", "InvalidNumber"]
theorem sp_caught20 {a b : Bool} (hk : k < 3) (hx : Dx s k one other c dv) (hb : Bv s dv t) (h1 : subT.contains c = true) (h3 : (["InvalidTable"] : List Str).contains c = a) (h4 : (["InvalidNumber"] : List Str).contains c = b)
    (hQ : ∀ (s' : S) (r : Nat), Af s dv s' → s'[r]? = some (.lst [.bl a, .bl b, .str t]) → Q (.ref r) s') : wE (d_law_caught [.int k, one, other] s) Q X := by
  unfold d_law_caught
  refine (v_def (by rfl)).mpr ?_
  unfold b_law_caught
  generalize hR : cSeq (cIf (tB (e1 oIsN (eVar 3))) _ _) _ = R
  have fin : ∀ s', Pf s s' → wC (R [some (.int k), some one, some other, some (.ref s'.length), none] (s' ++ [.err c [("value", dv)]])) { nx := fun _ s' => Q .non s', rt := Q, xc := X } := by
    intro s' f0
    rw [← hR]
    have f1 : Pf s (s' ++ [.err c [("value", dv)]]) := f0.trans Pf.app
    have he : (s' ++ [O.err c [("value", dv)]])[s'.length]? = some (.err c [("value", dv)]) := get_new
    have ll := f0.len
    generalize s' ++ [O.err c [("value", dv)]] = s2 at *
    simp [fld_err he, -List.contains_cons, -List.contains_nil, -List.contains_eq_mem]
    rcases hb.ty with ht | ⟨n, ds, rfl, hn, hl⟩
    · obtain ⟨x0, x1, x2, x3, x4⟩ := (hb.rp s2 (.inl ⟨ht, f1⟩)).ex
      rw [x4] at x3
      simp [isTy_pf ht f1, isJ_err he, h3, h4, fld_err he, x1, x2, x3, x4, -List.contains_cons, -List.contains_nil, -List.contains_eq_mem]
      exact hQ _ _ (.inl ⟨ht, f1.trans Pf.app⟩) get_new
    · have hn2 := f1 _ _ hn
      have hne : n ≠ s'.length := by have := lt_of_get hn; have := f0.len; omega
      have ty : isTy s2 (.ref n) .list = some true := by simp [isTy, hn2]
      simp [ty, isl hn2, lstAt_of hn2, fld_err he, -List.contains_cons, -List.contains_nil, -List.contains_eq_mem]
      rw [decide_eq_true (by omega), onT_t]
      have he2 : (s2.set n (.lst (ds ++ [D.str "more"])))[s'.length]? = some (.err c [("value", .ref n)]) := by rw [set_ne hne]; exact he
      have af : Af s (.ref n) (s2.set n (.lst (ds ++ [D.str "more"]))) := .inr ⟨n, ds, rfl, hn, set_get (lt_of_get hn2), by have := f1.len; simpa using this, fun w hw o e => by rw [set_ne (Ne.symm hw)]; exact f1 _ _ e⟩
      obtain ⟨x0, x1, x2, x3, x4⟩ := (hb.rp _ af).ex
      rw [x4] at x3
      simp [isJ_err he2, h3, h4, fld_err he2, x1, x2, x3, x4, -List.contains_cons, -List.contains_nil, -List.contains_eq_mem]
      have := hQ _ (s2.set n (.lst (ds ++ [D.str "more"]))).length (af.pf (Pf.app (t := [.lst [.bl a, .bl b, .str t]]))) get_new
      simpa using this
  have h1' := h1
  unfold subT at h1'
  match k, hk, hx, fin with
  | 0, _, hx, fin =>
    have hx' : ∀ (Q : D → S → Prop) (X : Xc), (∀ s', Pf s s' → X c [("value", dv)] s') → wE (d_has_fall [one] s) Q X := hx
    simp [eqD_int, -List.contains_cons, -List.contains_nil, -List.contains_eq_mem]
    refine hx' _ _ fun s' f => ?_
    rw [h1', onT_t]
    exact fin s' f
  | 1, _, hx, fin =>
    have hx' : ∀ (Q : D → S → Prop) (X : Xc), (∀ s', Pf s s' → X c [("value", dv)] s') → wE (d_power [one, other] s) Q X := hx
    simp [eqD_int, -List.contains_cons, -List.contains_nil, -List.contains_eq_mem]
    refine hx' _ _ fun s' f => ?_
    rw [h1', onT_t]
    exact fin s' f
  | 2, _, hx, fin =>
    have hx' : ∀ (Q : D → S → Prop) (X : Xc), (∀ s', Pf s s' → X c [("value", dv)] s') → wE (d_product [one, other] s) Q X := hx
    simp [eqD_int, -List.contains_cons, -List.contains_nil, -List.contains_eq_mem]
    refine hx' _ _ fun s' f => ?_
    rw [h1', onT_t]
    exact fin s' f
theorem sp_caught_no (hk : k < 3) (hx : ∀ (Q : D → S → Prop) (X : Xc), (∀ d s', Pf s s' → Q d s') → Door s k one other Q X) (hQ : ∀ s', Pf s s' → Q .non s') : wE (d_law_caught [.int k, one, other] s) Q X := by
  unfold d_law_caught
  refine (v_def (by rfl)).mpr ?_
  unfold b_law_caught
  match k, hk, hx with
  | 0, _, hx =>
    have hx' : ∀ (Q : D → S → Prop) (X : Xc), (∀ d s', Pf s s' → Q d s') → wE (d_has_fall [one] s) Q X := hx
    simp [eqD_int, -List.contains_cons, -List.contains_nil, -List.contains_eq_mem]
    exact hx' _ _ fun d s' f => hQ s' f
  | 1, _, hx =>
    have hx' : ∀ (Q : D → S → Prop) (X : Xc), (∀ d s', Pf s s' → Q d s') → wE (d_power [one, other] s) Q X := hx
    simp [eqD_int, -List.contains_cons, -List.contains_nil, -List.contains_eq_mem]
    exact hx' _ _ fun d s' f => hQ s' f
  | 2, _, hx =>
    have hx' : ∀ (Q : D → S → Prop) (X : Xc), (∀ d s', Pf s s' → Q d s') → wE (d_product [one, other] s) Q X := hx
    simp [eqD_int, -List.contains_cons, -List.contains_nil, -List.contains_eq_mem]
    exact hx' _ _ fun d s' f => hQ s' f
theorem ct_no (h : NT s d) (hX : ∀ s', Pf s s' → X "InvalidTable" [("value", d)] s') : wE (d_check_table [d] s) Q X := by
  unfold d_check_table
  refine (v_def (by rfl)).mpr ?_
  unfold b_check_table
  simp
  refine h s Pf.refl _ _ fun s' p => ?_
  simp
  exact hX _ p
theorem ct_ok (hx : NameOk x) (hy : NameOk y) (hQ : ∀ s', Pf s s' → Q .non s') : wE (d_check_table [tabD x y M] s) Q X := by
  unfold d_check_table
  refine (v_def (by rfl)).mpr ?_
  unfold b_check_table
  simp
  refine sp_is_table hx hy fun s' p => ?_
  simp
  exact hQ _ p
/-- no whole number of at least 1 -/
def NW (s : S) (d : D) : Prop := isTy s d .int = some false ∨ (∃ b, d = .bl b) ∨ ∃ i, i < 1 ∧ d = .int i
theorem cw_no (h : NW s d) (hX : X "InvalidNumber" [("value", d)] s) : wE (d_check_whole [d, .int 1, .non] s) Q X := by
  unfold d_check_whole
  refine (v_def (by rfl)).mpr ?_
  unfold b_check_whole
  rcases h with h | ⟨b, rfl⟩ | ⟨i, hi, rfl⟩
  · simp
    refine sp_whole_no h ?_
    simp
    exact hX
  · simp
    refine sp_whole_b ?_
    simp
    exact hX
  · simp
    refine sp_whole ?_
    simp [decide_eq_true hi]
    exact hX
theorem cw_ok {i : Int} (hi : 1 ≤ i) (hQ : Q .non s) : wE (d_check_whole [.int i, .int 1, .non] s) Q X := by
  unfold d_check_whole
  refine (v_def (by rfl)).mpr ?_
  unfold b_check_whole
  simp
  refine sp_whole ?_
  simp [decide_eq_false (show ¬ i < 1 by omega)]
  exact hQ
theorem dx_0 (h : NT s d) : Dx s 0 d other "InvalidTable" d := fun Q X hX => by
  show wE (d_has_fall [d] s) Q X
  unfold d_has_fall
  refine (v_def (by rfl)).mpr ?_
  unfold b_has_fall
  simp
  exact ct_no h hX
theorem dx_1 (h : NT s d) : Dx s 1 d other "InvalidTable" d := fun Q X hX => by
  show wE (d_power [d, other] s) Q X
  unfold d_power
  refine (v_def (by rfl)).mpr ?_
  unfold b_power
  generalize cSeq (cIf _ _ _) _ = R
  simp
  exact ct_no h hX
theorem dx_2a (h : NT s d) : Dx s 2 d other "InvalidTable" d := fun Q X hX => by
  show wE (d_product [d, other] s) Q X
  unfold d_product
  refine (v_def (by rfl)).mpr ?_
  unfold b_product
  simp
  exact ct_no h hX
theorem dx_2b (h : NT s d) (hx : NameOk x) (hy : NameOk y) : Dx s 2 (tabD x y M) d "InvalidTable" d := fun Q X hX => by
  show wE (d_product [tabD x y M, d] s) Q X
  unfold d_product
  refine (v_def (by rfl)).mpr ?_
  unfold b_product
  simp
  refine ct_ok hx hy fun s1 p1 => ?_
  exact ct_no (h.pf p1) fun s2 p2 => hX _ (p1.trans p2)
end
end P20
namespace P20
open PySem Fc P1 P85 PB
section
variable {s s1 : S} {X : Xc} {Q : D → S → Prop} {x y x' y' : Str} {A : List Arc} {d one other dv : D} {c t : Str} {k : Nat} {M N : Mt}
theorem at_0 {a b c : D} : atD s (.tup [a, b, c]) (.int 0) = some a := rfl
theorem at_1 {a b c : D} : atD s (.tup [a, b, c]) (.int 1) = some b := rfl
theorem dx_2c (hx : Nx x) (hy : Nx y) (hx' : Nx x') (hy' : Nx y') (hne : y ≠ x') : Dx s 2 (tabD x y M) (tabD x' y' N) "InvalidTable" (tabD x' y' N) := fun Q X hX => by
  show wE (d_product [tabD x y M, tabD x' y' N] s) Q X
  unfold d_product
  refine (v_def (by rfl)).mpr ?_
  unfold b_product
  simp
  refine ct_ok hx.1 hy.1 fun s1 p1 => ?_
  refine ct_ok hx'.1 hy'.1 fun s2 p2 => ?_
  have e := P85.eqD_str (s := s2) hy.2 hx'.2
  simp [tabD, at_0, at_1, e, hne]
  exact hX _ (p1.trans p2)
theorem dx_1b (hx : Nx x) (hy : Nx y) (hne : x ≠ y) : Dx s 1 (tabD x y M) other "InvalidTable" (tabD x y M) := fun Q X hX => by
  show wE (d_power [tabD x y M, other] s) Q X
  unfold d_power
  refine (v_def (by rfl)).mpr ?_
  unfold b_power
  generalize cSeq (cExpr (eCall d_check_whole _ _)) _ = R
  simp
  refine ct_ok hx.1 hy.1 fun s1 p1 => ?_
  have e := P85.eqD_str (s := s1) hx.2 hy.2
  simp [tabD, at_0, at_1, e, hne]
  exact hX _ p1
theorem dx_1c (hx : Nx x) (hd : ∀ s', Pf s s' → NW s' d) : Dx s 1 (tabD x x M) d "InvalidNumber" d := fun Q X hX => by
  show wE (d_power [tabD x x M, d] s) Q X
  unfold d_power
  refine (v_def (by rfl)).mpr ?_
  unfold b_power
  generalize cSeq (cPar3 _ _ _ _) _ = R
  simp
  refine ct_ok hx.1 hx.1 fun s1 p1 => ?_
  have e := P85.eqD_str (s := s1) hx.2 hx.2
  simp [tabD, at_0, at_1, e]
  exact cw_no (hd _ p1) (hX _ p1)
theorem ok_0 (hx : Nx x) (hy : Nx y) (hne : x ≠ y) : ∀ (Q : D → S → Prop) (X : Xc), (∀ d s', Pf s s' → Q d s') → Door s 0 (tabD x y M) other Q X := fun Q X hQ => by
  show wE (d_has_fall [tabD x y M] s) Q X
  unfold d_has_fall
  refine (v_def (by rfl)).mpr ?_
  unfold b_has_fall
  simp
  refine ct_ok hx.1 hy.1 fun s1 p1 => ?_
  have e := P85.eqD_str (s := s1) hx.2 hy.2
  simp [tabD, at_0, at_1, e, hne]
  exact hQ _ _ p1
theorem ok_2 (hx : Nx x) : ∀ (Q : D → S → Prop) (X : Xc), (∀ d s', Pf s s' → Q d s') → Door s 2 (tabD x x M) (tabD x x M) Q X := fun Q X hQ => by
  show wE (d_product [tabD x x M, tabD x x M] s) Q X
  unfold d_product
  refine (v_def (by rfl)).mpr ?_
  unfold b_product
  simp
  refine ct_ok hx.1 hx.1 fun s1 p1 => ?_
  refine ct_ok hx.1 hx.1 fun s2 p2 => ?_
  have e := P85.eqD_str (s := s2) hx.2 hx.2
  have a0 : atD s2 (tabD x x M) (.int 0) = some (.str x) := rfl
  have a1 : atD s2 (tabD x x M) (.int 1) = some (.str x) := rfl
  simp [a0, a1, e]
  exact sp_joined fun s3 p3 => hQ _ _ (p1.trans (p2.trans p3))
theorem ok_1 (hx : Nx x) : ∀ (Q : D → S → Prop) (X : Xc), (∀ d s', Pf s s' → Q d s') → Door s 1 (tabD x x M) (.int 1) Q X := fun Q X hQ => by
  show wE (d_power [tabD x x M, .int 1] s) Q X
  unfold d_power
  refine (v_def (by rfl)).mpr ?_
  unfold b_power
  generalize hR : cSeq (cPar3 _ _ _ _) _ = R
  simp
  refine ct_ok hx.1 hx.1 fun s1 p1 => ?_
  have e := P85.eqD_str (s := s1) hx.2 hx.2
  have a0 : atD s1 (tabD x x M) (.int 0) = some (.str x) := rfl
  have a1 : atD s1 (tabD x x M) (.int 1) = some (.str x) := rfl
  simp [a0, a1, e]
  refine cw_ok (by omega) ?_
  rw [← hR]
  have e2 : decide (bits 2 < 8000) = true := by decide +kernel
  generalize hdT : tabD x x M = T
  simp
  refine wC_while (fun n σ s' => (n = 1 ∧ σ = [some T, some (.int 1), some .non, some T, some (.int 1)] ∧ Pf s s') ∨ (n = 0 ∧ ∃ d2 d3, σ = [some T, some (.int 1), some d2, some d3, some (.int 0)] ∧ Pf s s')) 1 (.inl ⟨rfl, rfl, p1⟩) ?_
  rintro n σ s2 (⟨rfl, rfl, p2⟩ | ⟨rfl, d2, d3, rfl, p2⟩)
  · simp [eqD_int, e2]
    rw [← hdT]
    refine sp_joined fun s3 p3 => ?_
    exact p2.trans p3
  · simp
    exact hQ _ _ p2
end
end P20
namespace P20
open PySem Fc P1 P85 PB
noncomputable section
def E6 : C := (cRet (e1 oIsN (eCall d_law_caught [] (lCons (eC (.int 2)) (lCons (eVar 0) (lCons (eVar 0) lNil))))))
def E5 : C := cSeq (cIf (tAnd (tB (e2 oNe (e2 oAt (eVar 1) (eC (.int 1))) (e2 oAt (eVar 0) (eC (.int 0))))) (tB (e2 oNe (eCall d_law_caught [] (lCons (eC (.int 2)) (lCons (eVar 1) (lCons (eVar 0) lNil)))) (eN mLst (lCons (eC (.bl true)) (lCons (eC (.bl false)) (lCons (eN fReprR (lCons (eVar 0) lNil)) lNil)))))))
 (cRet (eC (.bl false)))
 cNil) E6
def E4 : C := cSeq (cIf (tB (e2 oNe (eCall d_law_caught [] (lCons (eC (.int 2)) (lCons (eVar 1) (lCons (eVar 1) lNil)))) (eN mLst (lCons (eC (.bl true)) (lCons (eC (.bl false)) (lCons (eN fReprR (lCons (eVar 1) lNil)) lNil))))))
 (cRet (eC (.bl false)))
 cNil) E5
def E3 : C := cSeq (cIf (tOr (tB (e1 oNotN (eCall d_law_caught [] (lCons (eC (.int 0)) (lCons (eVar 1) (lCons (eC .non) lNil)))))) (tB (e1 oNotN (eCall d_law_caught [] (lCons (eC (.int 1)) (lCons (eVar 0) (lCons (eC (.int 1)) lNil)))))))
 (cRet (eC (.bl false)))
 cNil) E4
def E2 : C := cSeq (cFor (iSrc .seq (eN mLst (lCons (eC .non) (lCons (eC (.int 0)) (lCons (e1 oNeg (eC (.int 1))) (lCons (eC (.bl true)) (lCons (eC (.str "1")) (lCons (eN mLst (lCons (eC (.int 1)) lNil)) (lCons (eN mTup (lCons (eC (.int 1)) lNil)) (lCons (eN (fun _ => mDK) lNil) lNil)))))))))) (gName 2)
 (cIf (tB (e2 oNe (eCall d_law_caught [] (lCons (eC (.int 1)) (lCons (eVar 0) (lCons (eVar 2) lNil)))) (eN mLst (lCons (eC (.bl false)) (lCons (eC (.bl true)) (lCons (eN fReprR (lCons (eVar 2) lNil)) lNil))))))
 (cRet (eC (.bl false)))
 cNil)) E3
def E1 : C := cSeq (cIf (tOr (tB (e2 oNe (eCall d_law_caught [] (lCons (eC (.int 2)) (lCons (eVar 0) (lCons (eVar 1) lNil)))) (eN mLst (lCons (eC (.bl true)) (lCons (eC (.bl false)) (lCons (eN fReprR (lCons (eVar 1) lNil)) lNil)))))) (tB (e2 oNe (eCall d_law_caught [] (lCons (eC (.int 1)) (lCons (eVar 1) (lCons (eC .non) lNil)))) (eN mLst (lCons (eC (.bl true)) (lCons (eC (.bl false)) (lCons (eN fReprR (lCons (eVar 1) lNil)) lNil)))))))
 (cRet (eC (.bl false)))
 cNil) E2
def Bod : C := (cSeq (cIf (tB (e2 oNe (eN fReprR (lCons (eCall P1.d_is_table [] (lCons (eVar 2) lNil)) lNil)) (eC (.str "False"))))
 (cRet (eC (.bl false)))
 cNil)
 (cSeq (cFor (iRange (eC (.int 0)) (eC (.int 2))) (gName 3)
 (cIf (tB (e2 oNe (eCall d_law_caught [] (lCons (eVar 3) (lCons (eVar 2) (lCons (eC .non) lNil)))) (eN mLst (lCons (eC (.bl true)) (lCons (eC (.bl false)) (lCons (eN fReprR (lCons (eVar 2) lNil)) lNil))))))
 (cRet (eC (.bl false)))
 cNil))
 (cFor (iSrc .seq (eN mLst (lCons (eN mTup (lCons (eVar 2) (lCons (eC .non) lNil))) (lCons (eN mTup (lCons (eVar 0) (lCons (eVar 2) lNil))) (lCons (eN mTup (lCons (eVar 2) (lCons (eVar 2) lNil))) (lCons (eN mTup (lCons (eVar 2) (lCons (eVar 0) lNil))) lNil)))))) (gTup 2 (gCons (gName 4) (gCons (gName 5) gNil)))
 (cIf (tB (e2 oNe (eCall d_law_caught [] (lCons (eC (.int 2)) (lCons (eVar 4) (lCons (eVar 5) lNil)))) (eN mLst (lCons (eC (.bl true)) (lCons (eC (.bl false)) (lCons (eN fReprR (lCons (eVar 2) lNil)) lNil))))))
 (cRet (eC (.bl false)))
 cNil))))
def E0 : C := cSeq (cFor (iSrc .seq (eCall d_law_bent [] (lCons (eVar 0) lNil))) (gName 2) Bod) E1
theorem E_eq : b_law_refused = E0 := rfl
end
section
variable {s s' s1 s2 : S} {X : Xc} {Q : D → S → Prop} {x y : Str} {A : List Arc} {d one other dv : D} {c t : Str} {k x0 : Nat} {M : Mt} {l : List D}
theorem rxs2 {k B B' : Nat} : ∀ {as bs : List D}, (∀ d ∈ as, Rx k B s d) → (∀ d ∈ bs, Rx k B' s d) → ∃ xs : List PyData, (∀ s', Pf s s' → ∀ n, datRs s' (n + k) (as ++ bs) = some xs) ∧ PyData.showableAll xs = true ∧ PyData.leavesShortAll 13 xs = true ∧ PyData.bulkAll xs ≤ (B + 1) * as.length + (B' + 1) * bs.length ∧ (∀ t ∈ PyData.shownAll xs, okS t)
  | [], bs, _, h => by
    obtain ⟨xs, k1, k2, k3, k4, k5, k6⟩ := rxs h
    exact ⟨xs, k1, k2, k3, by simpa using k4, k5⟩
  | d :: as, bs, h, hb => by
    obtain ⟨x, h1, h2, h3, h4, h5⟩ := h d (List.mem_cons_self ..)
    obtain ⟨xs, k1, k2, k3, k4, k5⟩ := rxs2 (fun d hd => h d (List.mem_cons_of_mem _ hd)) hb
    refine ⟨x :: xs, fun s' p n => by simp only [List.cons_append, datRs, h1 s' p n, k1 s' p n], ?_, ?_, ?_, ?_⟩
    · simp only [PyData.showableAll, h2, k2, Bool.and_self]
    · simp only [PyData.leavesShortAll, h3, k3, Bool.and_self]
    · simp only [PyData.bulkAll, List.length_cons, Nat.mul_succ]; omega
    · intro t ht
      simp only [PyData.shownAll, List.mem_cons] at ht
      rcases ht with rfl | ht
      · exact h5
      · exact k5 t ht
def more (j : Nat) : List D := List.replicate j (.str "more")
/-- a thing that is refused still -/
def Cd (x0 : Nat) (l : List D) (k : Nat) (s : S) (d : D) : Prop := (d = .ref x0 ∧ ∃ j, j ≤ k ∧ s[x0]? = some (.lst (l ++ more j))) ∨ (d ≠ .ref x0 ∧ Ok s d)
theorem Ok.pf (h : Ok s d) (p : Pf s s') : Ok s' d := ⟨isTy_pf h.1 p, h.2.1.pf p, h.2.2.pf p⟩
theorem Cd.nt (h : Cd x0 l k s d) : NT s d := by
  rcases h with ⟨rfl, j, _, h⟩ | h
  · exact nt_no (by simp [isTy, h])
  · exact h.2.2.1
theorem Cd.mono {k' : Nat} (h : Cd x0 l k s d) (hk : k ≤ k') : Cd x0 l k' s d := by
  rcases h with ⟨rfl, j, h1, h⟩ | h
  · exact .inl ⟨rfl, j, by omega, h⟩
  · exact .inr h
theorem Cd.pf (h : Cd x0 l k s d) (p : Pf s s') : Cd x0 l k s' d := by
  rcases h with ⟨rfl, j, h1, h⟩ | h
  · exact .inl ⟨rfl, j, h1, p _ _ h⟩
  · exact .inr ⟨h.1, h.2.pf p⟩
theorem Cd.af (h : Cd x0 l k s d) (a : Af s d s') : Cd x0 l (k + 1) s' d := by
  rcases h with ⟨rfl, j, h1, h⟩ | h
  · rcases a with ⟨z, _⟩ | ⟨n, ds, e, e1, e2, _⟩
    · simp [isTy, h] at z
    · cases e
      rw [h] at e1
      cases e1
      exact .inl ⟨rfl, j + 1, by omega, by rw [e2, more, more, List.replicate_succ', List.append_assoc]⟩
  · rcases a with ⟨_, p⟩ | ⟨n, ds, e, e1, _⟩
    · exact .inr ⟨h.1, h.2.pf p⟩
    · subst e
      have := h.2.1
      simp [isTy, e1] at this
theorem Cd.bv (h : Cd x0 (l3 x y A) k s d) (hx : Nx x) (hy : Nx y) (hA : In3 A) (hl : A.length ≤ 9) (hk : k ≤ 900) : ∃ t, Bv s d t := by
  rcases h with ⟨rfl, j, h1, h⟩ | h
  · obtain ⟨xs, h1, h2, h3, h4, h5⟩ := rxs2 (k := 5) (B := 6000) (B' := 100) (s := []) (as := l3 x y A) (bs := more (j + 1)) (fun d hd => by
      simp only [l3, List.mem_cons, List.not_mem_nil, or_false] at hd
      rcases hd with rfl | rfl | rfl
      · exact rx_nx hx (by omega) (by omega)
      · exact rx_nx hy (by omega) (by omega)
      · exact rx_A hA (by omega)) (fun d hd => by
      have := List.eq_of_mem_replicate hd
      subst this
      exact (rx_ti ti_more).mono (by omega) (by omega))
    have h4' : PyData.bulkAll xs ≤ 200000 := by simp [l3, more] at h4; omega
    refine ⟨(PyData.list xs).shown, .inr ⟨x0, _, rfl, h, by simp [l3, more]; omega⟩, fun s2 af => ?_⟩
    rcases af with ⟨z, _⟩ | ⟨n', ds', e, e2, e3, e4, e5⟩
    · simp [isTy, h] at z
    · cases e
      rw [h] at e2
      cases e2
      refine ⟨⟨.list xs, ?_, by simpa only [PyData.showable] using h2, ?_, rfl⟩, ?_⟩
      · have e6 : l3 x y A ++ more j ++ [D.str "more"] = l3 x y A ++ more (j + 1) := by rw [more, more, List.replicate_succ', List.append_assoc]
        rw [e6] at e3
        have := h1 s2 (fun w o e => by simp at e) 54
        simp only [datR, e3, this, Option.map_some]
      · have := PyData.shown_fits_bulk (B := 13) (by decide) (by decide) (d := .list xs) (by simpa only [PyData.leavesShort] using h3) (by simp only [PyData.bulk]; omega)
        refine decide_eq_true ?_
        have hb : (PyData.list xs).bulk ≤ 200000 := by simp only [PyData.bulk]; omega
        rw [sizeLine_eq] at this
        omega
      · rw [okS_iff]
        simp only [PyData.shown]
        exact okS_list h5
  · exact bv_rx h.2.2.2 (by omega) (by omega) h.2.1
/-- what a refusal does to the store -/
def Sx (x0 : Nat) (s : S) (d : D) (s' : S) : Prop := (d = .ref x0 ∧ Kn x0 s s') ∨ Pf s s'
theorem Sx.refl : Sx x0 s d s := .inr Pf.refl
theorem kn_tr {n : Nat} (a : Kn n s s1) (b : Kn n s1 s2) : Kn n s s2 := ⟨Nat.le_trans a.1 b.1, fun w hw o e => b.2 w hw o (a.2 w hw o e)⟩
theorem kn_pf {n : Nat} (p : Pf s s1) : Kn n s s1 := ⟨p.len, fun w _ o e => p _ _ e⟩
theorem Sx.kn (h : Sx x0 s d s1) : Kn x0 s s1 := by
  rcases h with ⟨_, h⟩ | h
  · exact h
  · exact kn_pf h
theorem Sx.trans (a : Sx x0 s d s1) (b : Sx x0 s1 d s2) : Sx x0 s d s2 := by
  rcases a with ⟨e, a⟩ | a
  · exact .inl ⟨e, kn_tr a b.kn⟩
  · rcases b with ⟨e, b⟩ | b
    · exact .inl ⟨e, kn_tr (kn_pf a) b⟩
    · exact .inr (a.trans b)
theorem Cd.sx (h : Cd x0 l k s d) (a : Af s d s') : Sx x0 s d s' := by
  rcases h with ⟨rfl, j, h1, h⟩ | h
  · exact .inl ⟨rfl, Kn.af Kn.refl a⟩
  · rcases a with ⟨_, p⟩ | ⟨n, ds, e, e1, _⟩
    · exact .inr p
    · subst e
      have := h.2.1
      simp [isTy, e1] at this
end
end P20
namespace P20
open PySem Fc P1 P85 PB
section
variable {s s' s1 s2 : S} {X : Xc} {Q : D → S → Prop} {x y : Str} {A : List Arc} {d one other dv far : D} {c t : Str} {k x0 : Nat} {M : Mt} {l : List D} {P : Pst}
/-- one refusal: what is told is what is asked for -/
theorem one_ref {n : Nat} {one other : D} {σ : Fc.Env} {b1 b2 : Bool} {cs : Str} (hn : n < 3) (hx : Dx s n one other cs d) (hb : Bv s d t) (h1 : subT.contains cs = true) (h3 : (["InvalidTable"] : List Str).contains cs = b1) (h4 : (["InvalidNumber"] : List Str).contains cs = b2) {ea eb ec ed : E} {K : Bool → S → Prop} {Xk : Xc}
    (ha : ∀ s', ea σ s' = some (.ok (.int n) s')) (hbb : ∀ s', eb σ s' = some (.ok one s')) (hcc : ∀ s', ec σ s' = some (.ok other s')) (hd : ∀ s', ed σ s' = some (.ok d s'))
    (hQ : ∀ s', Af s d s' → K false s') :
    wE ((tB (e2 oNe (eCall d_law_caught [] (lCons ea (lCons eb (lCons ec lNil)))) (eN mLst (lCons (eC (.bl b1)) (lCons (eC (.bl b2)) (lCons (eN fReprR (lCons ed lNil)) lNil)))))) σ s) K Xk := by
  simp [ha, hbb, hcc]
  refine sp_caught20 hn hx hb h1 h3 h4 fun s1 r af hr => ?_
  have rp := hb.rp _ af
  obtain ⟨x0, x1, x2, x3, x4⟩ := rp.ex
  rw [x4] at x3
  simp [hd, x1, x2, x3, x4]
  have q : Pf s1 (s1 ++ [O.lst [.bl b1, .bl b2, .str t]]) := Pf.app
  rw [eq_bbs (s := s1 ++ [O.lst [.bl b1, .bl b2, .str t]]) (q _ _ hr) get_new rp.ok]
  simp
  exact hQ _ (af.pf q)
theorem Cd.go (h : Cd x0 (l3 x y A) k s d) (hx : Nx x) (hy : Nx y) (hA : In3 A) (hl : A.length ≤ 9) (hk : k ≤ 900) : ∃ t, Bv s d t ∧ ∀ s', Af s d s' → Cd x0 (l3 x y A) (k + 1) s' d ∧ Sx x0 s d s' := by
  obtain ⟨t, h1⟩ := h.bv hx hy hA hl hk
  exact ⟨t, h1, fun s' a => ⟨h.af a, h.sx a⟩⟩
theorem c1 : subT.contains "InvalidTable" = true := by decide +kernel
theorem c2 : (["InvalidTable"] : List Str).contains "InvalidTable" = true := by decide +kernel
theorem c3 : (["InvalidNumber"] : List Str).contains "InvalidTable" = false := by decide +kernel
theorem ev {σ : Fc.Env} {i : Nat} {d : D} (h : σ[i]? = some (some d)) : ∀ s, eVar i σ s = some (.ok d s) := fun s => by
  with_unfolding_all
    unfold eVar
    simp [h]
theorem ec {σ : Fc.Env} {d : D} : ∀ s, eC d σ s = some (.ok d s) := fun s => by
  with_unfolding_all
    rfl
theorem sp_turn {t3 t4 t5 : Option D} (hx : Nx x) (hc : Cd x0 (l3 x x (arcsA M)) k s d) (hk : k ≤ 800) (hx0 : x0 < s.length) (hQ : ∀ s' t3 t4 t5, Cd x0 (l3 x x (arcsA M)) (k + 6) s' d → Sx x0 s d s' → P.nx [some (tabD x x M), some far, some d, t3, t4, t5] s') :
    wC (Bod [some (tabD x x M), some far, some d, t3, t4, t5] s) P := by
  have hA : In3 (arcsA M) := in3_arcs
  have hl : (arcsA M).length ≤ 9 := arcs_len
  generalize hT : tabD x x M = T at *
  unfold Bod
  generalize hR : cSeq (cFor (iRange _ _) _ _) _ = R
  simp
  refine hc.nt s Pf.refl _ _ fun s1 p1 => ?_
  have e0 : datR s1 60 (.bl false) = some (.bool false) := by simp only [datR]
  have e1 : ((PyData.bool false).showable && sz (PyData.bool false).shown.length) = true := by decide +kernel
  have e2 : (PyData.bool false).shown = "False" := by decide +kernel
  rw [e0, onO_some, e1, onT_t, e2, P85.eqD_str okS_of okS_of]
  simp
  rw [← hR]
  have hc1 := hc.pf p1
  have sx1 : Sx x0 s d s1 := .inr p1
  clear e0 e1 e2 hR
  refine k_seq.mpr ?_
  generalize hS : cFor (iSrc _ _) _ _ = R2
  generalize hB : cIf _ _ _ = Bd
  simp
  rw [show small 2 = true by decide, onT_t, show rangeL 0 2 = [.int (0 : Nat), .int (1 : Nat)] from rfl]
  refine wC_forV_cons.mpr ⟨_, rfl, ?_⟩
  rw [← hB]
  refine k_if.mpr ?_
  obtain ⟨t1, bv1, go1⟩ := hc1.go hx hx hA hl (by omega)
  refine one_ref (n := 0) (by omega) (dx_0 hc1.nt) bv1 c1 c2 c3 (ev rfl) (ev rfl) ec (ev rfl) fun s2 af2 => ?_
  obtain ⟨hc2, sx2⟩ := go1 _ af2
  simp
  refine wC_forV_cons.mpr ⟨_, rfl, ?_⟩
  refine k_if.mpr ?_
  obtain ⟨t2, bv2, go2⟩ := hc2.go hx hx hA hl (by omega)
  refine one_ref (n := 1) (by omega) (dx_1 hc2.nt) bv2 c1 c2 c3 (ev rfl) (ev rfl) ec (ev rfl) fun s3 af3 => ?_
  obtain ⟨hc3, sx3⟩ := go2 _ af3
  simp
  refine wC_forV_nil.mpr ?_
  rw [← hS]
  have sx := sx1.trans (sx2.trans sx3)
  generalize hB2 : cIf _ _ _ = Bd2
  simp
  rw [src_l get_new, onO_some]
  dsimp only
  have l3' : x0 < s3.length := by have := sx.kn.1; omega
  have q4 : Pf s3 (s3 ++ [O.lst [D.tup [d, D.non], D.tup [T, d], D.tup [d, d], D.tup [d, T]]]) := Pf.app
  have g4 := get_new (s := s3) (o := O.lst [D.tup [d, D.non], D.tup [T, d], D.tup [d, d], D.tup [d, T]])
  have hc4 := hc3.pf q4
  have sx4 : Sx x0 s d (s3 ++ [O.lst [D.tup [d, D.non], D.tup [T, d], D.tup [d, d], D.tup [d, T]]]) := sx.trans (.inr q4)
  have hp : ∀ p ∈ [D.tup [d, D.non], D.tup [T, d], D.tup [d, d], D.tup [d, T]], ∃ one other, p = .tup [one, other] ∧ (one = d ∨ (one = T ∧ other = d)) := fun p hp => by
    simp only [List.mem_cons, List.not_mem_nil, or_false] at hp
    rcases hp with rfl | rfl | rfl | rfl
    · exact ⟨_, _, rfl, .inl rfl⟩
    · exact ⟨_, _, rfl, .inr ⟨rfl, rfl⟩⟩
    · exact ⟨_, _, rfl, .inl rfl⟩
    · exact ⟨_, _, rfl, .inl rfl⟩
  have hlen : [D.tup [d, D.non], D.tup [T, d], D.tup [d, d], D.tup [d, T]].length = 4 := rfl
  generalize [D.tup [d, D.non], D.tup [T, d], D.tup [d, d], D.tup [d, T]] = prs at *
  generalize s3.length = L at *
  generalize s3 ++ [O.lst prs] = s4 at *
  refine wC_forL (n := L) (ds := prs) (fun r σ s' => (∃ j, Cd x0 (l3 x x (arcsA M)) j s' d ∧ j + r.length = k + 6) ∧ Sx x0 s4 d s' ∧ (∃ t3 t4 t5, σ = [some T, some far, some d, t3, t4, t5]) ∧ ∀ p ∈ r, ∃ one other, p = .tup [one, other] ∧ (one = d ∨ (one = T ∧ other = d)))
    (fun r σ s' h => h.2.1.kn.2 _ (by omega) _ g4) ?_ ?_ _ 0 (by simp) ⟨⟨_, hc4, by simp; omega⟩, Sx.refl, ⟨_, _, _, rfl⟩, hp⟩
  · rintro p r σ s' ⟨⟨j, hc', hj⟩, sx', ⟨u3, u4, u5, rfl⟩, hr⟩
    obtain ⟨one, other, rfl, ho⟩ := hr p (List.mem_cons_self ..)
    simp at hj
    refine ⟨[some T, some far, some d, u3, some one, some other], rfl, ?_⟩
    rw [← hB2]
    refine k_if.mpr ?_
    obtain ⟨t6, bv, go⟩ := hc'.go hx hx hA hl (by omega)
    have dx : Dx s' 2 one other "InvalidTable" d := by
      rcases ho with rfl | ⟨rfl, rfl⟩
      · exact dx_2a hc'.nt
      · rw [← hT]
        exact dx_2b hc'.nt hx.1 hx.1
    refine one_ref (n := 2) (by omega) dx bv c1 c2 c3 ec (ev rfl) (ev rfl) (ev rfl) fun s5 af5 => ?_
    obtain ⟨hc5, sx5⟩ := go _ af5
    simp
    exact ⟨⟨_, hc5, by omega⟩, sx'.trans sx5, fun p hp => hr p (List.mem_cons_of_mem _ hp)⟩
  · rintro σ s' ⟨⟨j, hc', hj⟩, sx', ⟨u3, u4, u5, rfl⟩, hr⟩
    simp at hj
    subst hj
    exact hQ _ _ _ _ hc' (sx4.trans sx')
end
end P20
namespace P20
open PySem Fc P1 P85 PB
section
variable {s s' s1 s2 : S} {X : Xc} {Q : D → S → Prop} {x y z : Str} {A : List Arc} {d one other dv far : D} {c t : Str} {k x0 : Nat} {M : Mt} {l : List D} {P : Pst}
theorem st_e0 (hx : Nx x) (hQ : ∀ s' t2 t3 t4 t5, wC (E1 [some (tabD x x M), some far, t2, t3, t4, t5] s') P) :
    wC (E0 [some (tabD x x M), some far, none, none, none, none] s) P := by
  unfold E0
  generalize hB : Bod = Bd
  generalize hT : tabD x x M = T
  simp
  rw [← hT]
  refine sp_bent (A := arcsA M) hx hx in3_arcs plc_srt arcs_len fun s1 n ds b => ?_
  rw [src_l b.lst, onO_some]
  dsimp only
  have bne := b.ne
  have ble := b.le
  have k0 : Cd (s.length + 1) (l3 x x (arcsA M)) 0 s1 (.ref (s.length + 1)) := .inl ⟨rfl, 0, Nat.le_refl _, by rw [b.x]; simp [more]⟩
  refine wC_forL (n := n) (ds := ds) (fun r σ s' => Kn (s.length + 1) s1 s' ∧ (∃ j, s'[s.length + 1]? = some (.lst (l3 x x (arcsA M) ++ more j)) ∧ j + 6 * r.length ≤ 720) ∧ (∃ t2 t3 t4 t5, σ = [some (tabD x x M), some far, t2, t3, t4, t5]) ∧ ∀ d ∈ r, d ∈ ds)
    (fun r σ s' h => h.1.2 _ (by omega) _ b.lst) ?_ ?_ _ 0 (by simp) ⟨Kn.refl, ⟨0, by rw [b.x]; simp [more], by simp; omega⟩, ⟨_, _, _, _, rfl⟩, fun d hd => hd⟩
  · rintro d r σ s' ⟨kn, ⟨j, hj, hl⟩, ⟨t2, t3, t4, t5, rfl⟩, hr⟩
    refine ⟨_, rfl, ?_⟩
    rw [← hB]
    simp at hl
    have cd : Cd (s.length + 1) (l3 x x (arcsA M)) j s' d := by
      rcases b.odd d (hr d (List.mem_cons_self ..)) with rfl | f
      · exact .inl ⟨rfl, j, Nat.le_refl _, hj⟩
      · have o : Ok s' d := f.at fun w o e1 e2 => kn.2 w e1.1 o e2
        refine .inr ⟨fun z => ?_, o⟩
        subst z
        have := o.1
        simp [isTy, hj] at this
    refine sp_turn hx cd (by omega) (lt_of_get hj) fun s2 u3 u4 u5 cd2 sx => ?_
    refine ⟨kn_tr kn sx.kn, ?_, ⟨_, _, _, _, rfl⟩, fun e he => hr e (List.mem_cons_of_mem _ he)⟩
    rcases cd2 with ⟨rfl, j', hj', e⟩ | ⟨hne, o⟩
    · exact ⟨j', e, by omega⟩
    · rcases sx with ⟨z, _⟩ | p
      · exact absurd z hne
      · exact ⟨j, p _ _ hj, by omega⟩
  · rintro σ s' ⟨kn, _, ⟨t2, t3, t4, t5, rfl⟩, _⟩
    exact hQ _ _ _ _ _
theorem ok_tab (hx : Nx x) (hy : Nx y) : Rx 6 100000 s (tabD x y M) := rx3 (rx_nx hx (by omega) (by omega)) (rx_nx hy (by omega) (by omega)) (rx_A in3_arcs (by have := arcs_len (M := M); omega))
theorem bv_tab (hx : Nx x) (hy : Nx y) : ∃ t, Bv s (tabD x y M) t := bv_rx (ok_tab hx hy) (by omega) (by omega) rfl
theorem st_e1 {t2 t3 t4 t5 : Option D} (hx : Nx x) (hy : Nx y) (hz : Nx z) (h1 : x ≠ y) (h2 : y ≠ z) (hQ : ∀ s', wC (E2 [some (tabD x x M), some (tabD y z M), t2, t3, t4, t5] s') P) :
    wC (E1 [some (tabD x x M), some (tabD y z M), t2, t3, t4, t5] s) P := by
  unfold E1
  refine k_seq.mpr (k_if.mpr ?_)
  refine v_tOr.mpr ?_
  obtain ⟨t, bv⟩ := bv_tab (s := s) (M := M) hy hz
  refine one_ref (n := 2) (by omega) (dx_2c hx hx hy hz h1) bv c1 c2 c3 ec (ev rfl) (ev rfl) (ev rfl) fun s1 af => ?_
  rw [onT_f]
  obtain ⟨t', bv'⟩ := bv_tab (s := s1) (M := M) hy hz
  refine one_ref (n := 1) (by omega) (dx_1b hy hz h2) bv' c1 c2 c3 ec (ev rfl) ec (ev rfl) fun s2 af2 => ?_
  rw [onT_f]
  simp
  exact hQ _
theorem bv_more {j : Nat} (hl : ∀ d ∈ l, Rx 5 6000 ([] : S) d) (hlen : l.length ≤ 3) (h : s[x0]? = some (.lst (l ++ more j))) (hj : j ≤ 900) : ∃ t, Bv s (.ref x0) t := by
  obtain ⟨xs, h1, h2, h3, h4, h5⟩ := rxs2 (k := 5) (B := 6000) (B' := 100) (s := []) (as := l) (bs := more (j + 1)) hl (fun d hd => by
    have := List.eq_of_mem_replicate hd
    subst this
    exact (rx_ti ti_more).mono (by omega) (by omega))
  have h4' : PyData.bulkAll xs ≤ 200000 := by simp [more] at h4; omega
  refine ⟨(PyData.list xs).shown, .inr ⟨x0, _, rfl, h, by simp [more]; omega⟩, fun s2 af => ?_⟩
  rcases af with ⟨z, _⟩ | ⟨n', ds', e, e2, e3, e4, e5⟩
  · simp [isTy, h] at z
  · cases e
    rw [h] at e2
    cases e2
    refine ⟨⟨.list xs, ?_, by simpa only [PyData.showable] using h2, ?_, rfl⟩, ?_⟩
    · have e6 : l ++ more j ++ [D.str "more"] = l ++ more (j + 1) := by rw [more, more, List.replicate_succ', List.append_assoc]
      rw [e6] at e3
      have := h1 s2 (fun w o e => by simp at e) 54
      simp only [datR, e3, this, Option.map_some]
    · have := PyData.shown_fits_bulk (B := 13) (by decide) (by decide) (d := .list xs) (by simpa only [PyData.leavesShort] using h3) (by simp only [PyData.bulk]; omega)
      refine decide_eq_true ?_
      have hb : (PyData.list xs).bulk ≤ 200000 := by simp only [PyData.bulk]; omega
      rw [sizeLine_eq] at this
      omega
    · rw [okS_iff]
      simp only [PyData.shown]
      exact okS_list h5
/-- a count that is none, told -/
def Bc (s : S) (d : D) : Prop := isTy s d .list = some false ∧ (∀ s', Pf s s' → NW s' d) ∧ ∃ t, Bv s d t
def lc (w1 w2 : Nat) : List D := [.non, .int 0, .int (-1), .bl true, .str "1", .ref w1, .tup [.int 1], .ref w2]
theorem bc_ti (h : ∀ s', NW s' d) (h2 : isTy s d .list = some false) (k : Ti d) : Bc s d := ⟨h2, fun s' _ => h s', bv_rx ((rx_ti k).mono (k' := 2) (B' := 100) (by omega) (by omega)) (by omega) (by omega) h2⟩
theorem c4 : subT.contains "InvalidNumber" = true := by decide +kernel
theorem c5 : (["InvalidTable"] : List Str).contains "InvalidNumber" = false := by decide +kernel
theorem c6 : (["InvalidNumber"] : List Str).contains "InvalidNumber" = true := by decide +kernel
theorem st_e2 {t2 t3 t4 t5 : Option D} (hx : Nx x) (hQ : ∀ s' t2, wC (E3 [some (tabD x x M), some far, t2, t3, t4, t5] s') P) :
    wC (E2 [some (tabD x x M), some far, t2, t3, t4, t5] s) P := by
  unfold E2
  generalize hB : cIf _ _ _ = Bd
  simp
  have g1 : (s ++ [O.lst [.int 1], O.dK [], O.lst (lc s.length (s.length + 1))])[s.length]? = some (.lst [.int 1]) := by rw [app_get (s := s) 0 (by omega)]; rfl
  have g2 : (s ++ [O.lst [.int 1], O.dK [], O.lst (lc s.length (s.length + 1))])[s.length + 1]? = some (.dK []) := by rw [app_get (s := s) 1 (by omega)]; rfl
  have g3 : (s ++ [O.lst [.int 1], O.dK [], O.lst (lc s.length (s.length + 1))])[s.length + 2]? = some (.lst (lc s.length (s.length + 1))) := by rw [app_get (s := s) 2 (by omega)]; rfl
  change onO (srcOf Src.seq (D.ref (s.length + 2)) (s ++ [O.lst [.int 1], O.dK [], O.lst (lc s.length (s.length + 1))])) _
  rw [src_l g3, onO_some]
  show wC (forL _ _ _ (lc s.length (s.length + 1)).length 0 _ (s ++ [O.lst [.int 1], O.dK [], O.lst (lc s.length (s.length + 1))])) _
  have hll : (lc s.length (s.length + 1)).length = 8 := rfl
  have hin : ∀ d ∈ lc s.length (s.length + 1), d = .ref s.length ∨ d = .ref (s.length + 1) ∨ ∀ s', Bc s' d := fun d hd => by
    simp only [lc, List.mem_cons, List.not_mem_nil, or_false] at hd
    rcases hd with rfl | rfl | rfl | rfl | rfl | rfl | rfl | rfl
    · exact .inr (.inr fun s' => bc_ti (fun s' => .inl rfl) rfl ti_non)
    · exact .inr (.inr fun s' => bc_ti (fun s' => .inr (.inr ⟨0, by omega, rfl⟩)) rfl (ti_int (by omega) (by omega)))
    · exact .inr (.inr fun s' => bc_ti (fun s' => .inr (.inr ⟨-1, by omega, rfl⟩)) rfl (ti_int (by omega) (by omega)))
    · exact .inr (.inr fun s' => bc_ti (fun s' => .inr (.inl ⟨_, rfl⟩)) rfl ti_bl)
    · exact .inr (.inr fun s' => bc_ti (fun s' => .inl rfl) rfl (ti_str okS_of (by decide +kernel)))
    · exact .inl rfl
    · refine .inr (.inr fun s' => ⟨rfl, fun s2 _ => .inl rfl, bv_rx (kk := 3) (B := 101) ((rx_tup (k := 2) (B := 100) fun d hd => ?_).mono (by omega) (by simp)) (by omega) (by omega) rfl⟩)
      simp only [List.mem_cons, List.not_mem_nil, or_false] at hd
      subst hd
      exact rx_ti (ti_int (by omega) (by omega))
    · exact .inr (.inl rfl)
  generalize lc s.length (s.length + 1) = lits at *
  generalize s ++ [O.lst [.int 1], O.dK [], O.lst lits] = s1 at *
  generalize s.length = w1 at *
  refine wC_forL (n := w1 + 2) (ds := lits) (fun r σ s' => Kn w1 s1 s' ∧ (∃ j, s'[w1]? = some (.lst ([.int 1] ++ more j)) ∧ j + r.length ≤ 8) ∧ (∃ t2, σ = [some (tabD x x M), some far, t2, t3, t4, t5]) ∧ ∀ d ∈ r, d ∈ lits)
    (fun r σ s' h => h.1.2 _ (by omega) _ g3) ?_ ?_ _ 0 (by simp) ⟨Kn.refl, ⟨0, by simpa [more] using g1, by simp; omega⟩, ⟨_, rfl⟩, fun d hd => hd⟩
  · rintro d r σ s' ⟨kn, ⟨j, hj, hl⟩, ⟨t2, rfl⟩, hr⟩
    refine ⟨_, rfl, ?_⟩
    rw [← hB]
    simp at hl
    refine k_if.mpr ?_
    have key : (d = .ref w1 ∧ (∀ s2, Pf s' s2 → NW s2 d) ∧ ∃ t, Bv s' d t) ∨ Bc s' d := by
      rcases hin d (hr d (List.mem_cons_self ..)) with rfl | rfl | h
      · have ty : isTy s' (.ref w1) .int = some false := by simp [isTy, hj]
        exact .inl ⟨rfl, fun s2 p => .inl (isTy_pf ty p), bv_more (l := [.int 1]) (fun d hd => by
          simp only [List.mem_cons, List.not_mem_nil, or_false] at hd
          subst hd
          exact (rx_ti (ti_int (by omega) (by omega))).mono (by omega) (by omega)) (by simp) hj (by omega)⟩
      · have g := kn.2 _ (by omega) _ g2
        have ty : isTy s' (.ref (w1 + 1)) .int = some false := by simp [isTy, g]
        have ty2 : isTy s' (.ref (w1 + 1)) .list = some false := by simp [isTy, g]
        exact .inr ⟨ty2, fun s2 p => .inl (isTy_pf ty p), bv_rx (rx_sizes (hs := []) g fun x hx => by cases hx) (by omega) (by simp) ty2⟩
      · exact .inr (h s')
    have nw : ∀ s2, Pf s' s2 → NW s2 d := by
      rcases key with h | h
      · exact h.2.1
      · exact h.2.1
    obtain ⟨t, bv⟩ : ∃ t, Bv s' d t := by
      rcases key with h | h
      · exact h.2.2
      · exact h.2.2
    refine one_ref (n := 1) (by omega) (dx_1c hx nw) bv c4 c5 c6 ec (ev rfl) (ev rfl) (ev rfl) fun s2 af => ?_
    simp
    rcases key with ⟨rfl, _⟩ | ⟨ty, _⟩
    · refine ⟨kn.af af, ?_, fun e he => hr e (List.mem_cons_of_mem _ he)⟩
      rcases af with ⟨z, _⟩ | ⟨n', ds', e, e2, e3, e4, e5⟩
      · simp [isTy, hj] at z
      · cases e
        rw [hj] at e2
        cases e2
        refine ⟨j + 1, ?_, by omega⟩
        rw [e3]
        simp [more, List.replicate_succ']
    · rcases af with ⟨_, p⟩ | ⟨n', ds', e, e2, _⟩
      · exact ⟨kn.pf p, ⟨j, by simpa using p _ _ hj, by omega⟩, fun e he => hr e (List.mem_cons_of_mem _ he)⟩
      · subst e
        simp [isTy, e2] at ty
  · rintro σ s' ⟨kn, _, ⟨t2, rfl⟩, _⟩
    exact hQ _ _
end
end P20
namespace P20
open PySem Fc P1 P85 PB
section
variable {s s' s1 s2 : S} {X : Xc} {Q : D → S → Prop} {x y z : Str} {A : List Arc} {d one other dv far : D} {c t : Str} {k x0 : Nat} {M : Mt} {l : List D} {P : Pst}
theorem st_e3 {t2 t3 t4 t5 : Option D} (hx : Nx x) (hy : Nx y) (hz : Nx z) (h1 : x ≠ y) (h2 : y ≠ z) (hQ : ∀ s', P.rt (.bl true) s') :
    wC (E3 [some (tabD x x M), some (tabD y z M), t2, t3, t4, t5] s) P := by
  unfold E3
  generalize hR : E4 = R
  generalize hT : tabD x x M = T
  generalize hF : tabD y z M = F
  simp
  rw [← hF]
  refine sp_caught_no (k := 0) (by omega) (ok_0 hy hz h2) fun s1 p1 => ?_
  simp
  rw [← hT]
  refine sp_caught_no (k := 1) (by omega) (ok_1 hx) fun s2 p2 => ?_
  simp
  rw [← hR]
  unfold E4
  refine k_seq.mpr (k_if.mpr ?_)
  obtain ⟨t, bv⟩ := bv_tab (s := s2) (M := M) hy hz
  refine one_ref (n := 2) (by omega) (dx_2c hy hz hy hz (Ne.symm h2)) bv c1 c2 c3 ec (ev rfl) (ev rfl) (ev rfl) fun s3 af => ?_
  simp
  unfold E5
  refine k_seq.mpr (k_if.mpr ?_)
  have fin : ∀ s, wC (E6 [some (tabD x x M), some (tabD y z M), t2, t3, t4, t5] s) P := fun s => by
    unfold E6
    generalize hT : tabD x x M = T
    simp
    rw [← hT]
    refine sp_caught_no (k := 2) (by omega) (ok_2 hx) fun s2 p2 => ?_
    simp
    exact hQ _
  refine v_tAnd.mpr ?_
  have e := P85.eqD_str (s := s3) hz.2 hx.2
  have a1 : atD s3 (tabD y z M) (.int 1) = some (.str z) := rfl
  have a0 : atD s3 (tabD x x M) (.int 0) = some (.str x) := rfl
  obtain ⟨t', bv'⟩ := bv_tab (s := s3) (M := M) hx hx
  have dx : z ≠ x → Dx s3 2 (tabD y z M) (tabD x x M) "InvalidTable" (tabD x x M) := fun h => dx_2c hy hz hx hx h
  have one : z ≠ x → ∀ {K : Bool → S → Prop} {Xk : Xc}, (∀ s', Af s3 (tabD x x M) s' → K false s') → wE ((tB (e2 oNe (eCall d_law_caught [] (lCons (eC (.int 2)) (lCons (eVar 1) (lCons (eVar 0) lNil)))) (eN mLst (lCons (eC (.bl true)) (lCons (eC (.bl false)) (lCons (eN fReprR (lCons (eVar 0) lNil)) lNil)))))) [some (tabD x x M), some (tabD y z M), t2, t3, t4, t5] s3) K Xk :=
    fun h K Xk => one_ref (n := 2) (by omega) (dx h) bv' c1 c2 c3 ec (ev rfl) (ev rfl) (ev rfl)
  clear dx bv'
  generalize tabD x x M = T at *
  generalize tabD y z M = F at *
  generalize hT2 : tB (e2 oNe (eCall d_law_caught _ _) _) = T2 at *
  by_cases hzx : z = x
  · have e' : eqD s3 (.str z) (.str x) = some true := by rw [e, decide_eq_true hzx]
    simp [a1, a0, e']
    exact fin _
  · have e' : eqD s3 (.str z) (.str x) = some false := by rw [e, decide_eq_false hzx]
    simp [a1, a0, e']
    refine one hzx fun s4 _ => ?_
    simp
    exact fin _
theorem sp_refused20 (hx : Nx x) (hy : Nx y) (hz : Nx z) (h1 : x ≠ y) (h2 : y ≠ z) (hQ : ∀ s', Q (.bl true) s') : wE (d_law_refused [tabD x x M, tabD y z M] s) Q X := by
  unfold d_law_refused
  refine (v_def (by rfl)).mpr ?_
  rw [E_eq]
  refine st_e0 hx fun s1 t2 t3 t4 t5 => ?_
  refine st_e1 hx hy hz h1 h2 fun s2 => ?_
  refine st_e2 hx fun s3 t2' => ?_
  exact st_e3 hx hy hz h1 h2 hQ
end
end P20
namespace Fc
open PySem
section
variable {s : S} {X : Xc} {Q : D → S → Prop}
@[simp ↓] theorem o_cut_s {z : Str} {lo hi : Option Int} : wE (oCut (.str z) lo hi s) Q X ↔ onT (sz z.length) (Q (.str (L2.cutS z lo hi)) s) False := by
  with_unfolding_all
    unfold oCut
    dsimp only
    cases h : sz z.length
    · rw [if_neg (by simp)]
      exact Iff.rfl
    · rw [if_pos rfl]
      exact Iff.rfl
theorem o_mulS {a : Str} {k : Int} (h : (decide (2 ≤ k) && decide (k < 1000) && decide (1 ≤ a.length) && decide (a.length ≤ 100)) = true) : wE (oMulS (.str a) (.int k) s) Q X ↔ Q (.str (repS a k.toNat)) s := by
  with_unfolding_all
    unfold oMulS
    dsimp only
    rw [if_pos h]
    exact Iff.rfl
end
end Fc
namespace P20
open PySem Fc P1 P85 PB
noncomputable section
def W8 : C := (cIf (tAnd (tB (e2 oNe (e2 oAt (eVar 7) (eC (.int 0))) (eVar 3))) (tNot (tE (eCall d_law_refused [] (lCons (eVar 5) (lCons (eVar 7) lNil))))))
 (cRet (eC (.bl false)))
 cNil)
def W7 : C := cSeq (cIf (tB (e2 oNe (eN fReprR (lCons (eN mLst (lCons (eCall P1.d_is_table [] (lCons (eVar 5) lNil)) (lCons (eCall P1.d_is_table [] (lCons (eVar 7) lNil)) (lCons (eCall P1.d_is_table [] (lCons (eN mTup (lCons (eVar 3) (lCons (eVar 6) (lCons (eN mTup lNil) lNil)))) lNil)) lNil)))) lNil)) (eN fReprR (lCons (e2 oMul (eN mLst (lCons (eC (.bl true)) lNil)) (eC (.int 3))) lNil))))
 (cRet (eC (.bl false)))
 cNil) W8
def W6 : C := cSeq (cIf (tOr (tB (e2 oEq (e2 oAt (eVar 7) (eC (.int 0))) (eVar 3))) (tB (e2 oEq (e2 oAt (eVar 7) (eC (.int 0))) (e2 oAt (eVar 7) (eC (.int 1))))))
 (cSet (eN mTup (lCons (eC (.str "zzq")) (lCons (eC (.str "zzz")) (lCons (eVar 4) lNil)))) (gName 7))
 cNil) W7
def W5 : C := cSeq (cSet (eN mTup (lCons (e2 oAt (eN mLst (lCons (eVar 6) (lCons (e2 oMulS (eC (.str "z")) (eC (.int 12))) lNil))) (eN fInt (lCons (e2 oEq (eVar 6) (eVar 3)) lNil))) (lCons (e2 oAdd (eCut (eVar 3) pNo (pYes (eC (.int 11)))) (eC (.str "q"))) (lCons (eVar 4) lNil)))) (gName 7)) W6
def W4 : C := cSeq (cSet (eCall P85.d_law_title [] (lCons (eVar 2) (lCons (eC (.int 5)) lNil))) (gName 6)) W5
def W3 : C := cSeq (cSet (eN mTup (lCons (eVar 3) (lCons (eVar 3) (lCons (eVar 4) lNil)))) (gName 5)) W4
def W2 : C := cSeq (cSet (eCall P1.d_law_listed [] (lCons (eCall P1.d_law_grid [] (lCons (eCall P1.d_law_arcs [] (lCons (eVar 2) (lCons (eC (.int 3)) (lCons (eC (.int 3)) (lCons (e2 oAdd (eC (.int 1)) (eCall P1.d_law_random [] (lCons (eVar 2) (lCons (eC (.int 3)) lNil)))) lNil))))) lNil)) lNil)) (gName 4)) W3
def W1 : C := cSeq (cSet (eCall P85.d_law_title [] (lCons (eVar 2) (lCons (eC (.int 12)) lNil))) (gName 3)) W2
def W0 : C := cSeq (cSet (eCall P1.d_law_generator [] (lCons (eVar 0) (lCons (eVar 1) lNil))) (gName 2)) W1
end
section
variable {s s' s1 s2 : S} {X : Xc} {Q : D → S → Prop} {x y z : Str} {P : Pst}
def zz : Str := "zzzzzzzzzzzz"
theorem rep_zz : repS "z" 12 = zz := by rfl
theorem nx_zz : Nx zz := ⟨⟨by decide, by decide, by decide +kernel⟩, okS_of⟩
theorem nx_q : Nx "zzq" := ⟨⟨by decide, by decide, by decide +kernel⟩, okS_of⟩
theorem nx_z : Nx "zzz" := ⟨⟨by decide, by decide, by decide +kernel⟩, okS_of⟩
theorem nx_of (h : Ltr x) (h1 : 1 ≤ x.length) (h2 : x.length ≤ 12) : Nx x := ⟨PW.nameOk_of ⟨h, h1, h2⟩, h.okS⟩
theorem cut_ltr (h : Ltr x) : Ltr (L2.cutS x none (some 11)) := fun c hc => by
  unfold L2.cutS at hc
  simp only [List.toList_toArray] at hc
  exact h c (List.mem_of_mem_drop (List.mem_of_mem_take hc))
theorem cut_len : (L2.cutS x none (some 11)).length ≤ 11 := by
  have e : HT.sIx x.length x.length (some 11) ≤ 11 := by
    show (if (11 : Int) < 0 then ((11 : Int) + ((x.length : Nat) : Int)).toNat else min (11 : Int).toNat x.length) ≤ 11
    rw [if_neg (by omega)]
    exact Nat.min_le_left _ _
  show ((x.cps.toList.drop _).take _).toArray.size ≤ 11
  rw [List.size_toArray, List.length_take]
  omega
theorem nx_cut (h : Ltr x) : Nx (L2.cutS x none (some 11) ++ "q") := by
  have l := cut_len (x := x)
  have e : (L2.cutS x none (some 11) ++ ("q" : Str)).length = (L2.cutS x none (some 11)).length + 1 := len_app
  exact nx_of (ltr_app (cut_ltr h) (by unfold Ltr; decide +kernel)) (by omega) (by omega)
theorem st_w0 {ns : List Int} {i : Nat} {t2 t3 t4 t5 t6 t7 : Option D} (hi : i < 1000000) (hQ : ∀ s' g M x w, Nx x → Ltr x → Nx w → Ltr w → wC (W5 [some (.rol (ns.map .int)), some (.int i), some (.ref g), some (.str x), some (.tup ((arcsA M).map aD)), some (tabD x x M), some (.str w), t7] s') P) :
    wC (W0 [some (.rol (ns.map .int)), some (.int i), t2, t3, t4, t5, t6, t7] s) P := by
  unfold W0
  simp
  refine sp_generator hi fun o gn => ?_
  generalize hg : s.length = g at *
  generalize s ++ [o] = s1 at *
  unfold W1
  simp
  refine sp_title12 (B := 10000) (gn.mono (by decide)) (by omega) (by omega) fun s2 x f2 g2 hx h1 h2 => ?_
  unfold W2
  simp
  refine sp_random (B := 8000) (g2.mono (by omega)) (by decide) (by decide) fun z o z1 z2 g3 => ?_
  simp
  refine sp_arcs (B := 6000) (p := 3) (q := 3) (g3.mono (by omega)) (by omega) (by omega) (by omega) (Int.lt_of_lt_of_le (show 1 + z < 10 by omega) (by decide)) fun n s4 A f4 g4 hn hA hl => ?_
  refine sp_grid (A := A) (.inr ⟨n, rfl, hn⟩) hA ?_
  refine sp_listed gridO_at fun o' => ?_
  have p5 : Pf s4 (s4 ++ gridO s4.length (foldG (fun _ _ => 0) A) ++ [o']) := Pf.app2
  have g5 := p5.gen g4
  generalize s4 ++ gridO s4.length (foldG (fun _ _ => 0) A) ++ [o'] = s5 at *
  generalize foldG (fun _ _ => 0) A = M at *
  unfold W3
  simp
  unfold W4
  simp
  refine sp_title12 (B := 3000) (g5.mono (by omega)) (by omega) (by omega) fun s6 w f6 g6 hw h3 h4 => ?_
  have e5 : (5 : Int) ≤ 12 := by omega
  exact hQ s6 g M x w (nx_of hx h1 (by omega)) hx (nx_of hw h3 (by omega)) hw
theorem st_w5 {ns : List Int} {i g : Nat} {M : Mt} {w : Str} {t7 : Option D} (hx : Nx x) (hlx : Ltr x) (hw : Nx w) (hQ : ∀ s' y z, Nx y → Nx z → y ≠ z → wC (W7 [some (.rol (ns.map .int)), some (.int i), some (.ref g), some (.str x), some (.tup ((arcsA M).map aD)), some (tabD x x M), some (.str w), some (tabD y z M)] s') P) :
    wC (W5 [some (.rol (ns.map .int)), some (.int i), some (.ref g), some (.str x), some (.tup ((arcsA M).map aD)), some (tabD x x M), some (.str w), t7] s) P := by
  unfold W5
  simp
  rw [o_mulS (by decide +kernel)]
  simp
  have hcut := nx_cut hlx
  have hl1 : (L2.cutS x none (some 11)).length ≤ 11 := cut_len
  have hxl : x.length ≤ 12 := hx.1.2.1
  have z1 : sz x.length = true := sz_lit (by omega)
  have z2 : sz ((L2.cutS x none (some 11)).length + (Str.ofString "q").length) = true := sz_lit (by have : (Str.ofString "q").length = 1 := rfl; omega)
  have hr : repS (Str.ofString "z") 12 = zz := rep_zz
  rw [P85.eqD_str hw.2 hx.2, onO_some, z1, z2, hr]
  obtain ⟨y0, hy0, e0⟩ : ∃ y0, Nx y0 ∧ atD (s ++ [O.lst [D.str w, D.str zz]]) (D.ref s.length) (D.int (if decide (w = x) = true then 1 else 0)) = some (.str y0) := by
    by_cases h : w = x
    · exact ⟨zz, nx_zz, by rw [if_pos (by simpa using h), at_ref get_new]; rfl⟩
    · exact ⟨w, hw, by rw [if_neg (by simpa using h), at_ref get_new]; rfl⟩
  rw [e0, onO_some, onT_t, onT_t]
  generalize L2.cutS x none (some 11) ++ Str.ofString "q" = z0 at *
  generalize s ++ [O.lst [D.str w, D.str zz]] = s1 at *
  clear e0
  unfold W6
  have e1 := P85.eqD_str (s := s1) hy0.2 hx.2
  have e2 := P85.eqD_str (s := s1) hy0.2 hcut.2
  simp [at_0, at_1, e1, e2]
  by_cases h1 : y0 = x
  · simp [h1]
    exact hQ _ "zzq" "zzz" nx_q nx_z (by decide)
  · by_cases h2 : y0 = z0
    · simp [h1, h2]
      cases decide (z0 = x)
      · exact hQ _ "zzq" "zzz" nx_q nx_z (by decide)
      · exact hQ _ "zzq" "zzz" nx_q nx_z (by decide)
    · simp [h1, h2]
      exact hQ _ _ _ hy0 hcut h2
def M0 : Mt := fun _ _ => 0
theorem tab_0' {x w : Str} : D.tup [.str x, .str w, .tup []] = tabD x w M0 := by rfl
theorem st_w7 {ns : List Int} {i g : Nat} {M : Mt} {w : Str} {t3 : D} (hx : Nx x) (hw : Nx w) (hy : Nx y) (hz : Nx z) (hne : y ≠ z) (hQ : ∀ s', P.nx [some (.rol (ns.map .int)), some (.int i), some (.ref g), some (.str x), some t3, some (tabD x x M), some (.str w), some (tabD y z M)] s') :
    wC (W7 [some (.rol (ns.map .int)), some (.int i), some (.ref g), some (.str x), some t3, some (tabD x x M), some (.str w), some (tabD y z M)] s) P := by
  have a0 : ∀ s, atD s (tabD y z M) (.int 0) = some (.str y) := fun s => rfl
  have e1 := fun s => P85.eqD_str (s := s) hy.2 hx.2
  have rf : y ≠ x → ∀ (s : S) (Q : D → S → Prop) (X : Xc), (∀ s', Q (.bl true) s') → wE (d_law_refused [tabD x x M, tabD y z M] s) Q X := fun h s Q X hq => sp_refused20 hx hy hz (Ne.symm h) hne hq
  have t1 : ∀ (s : S) (Q : D → S → Prop) (X : Xc), (∀ s', Pf s s' → Q (.bl true) s') → wE (P1.d_is_table [tabD x x M] s) Q X := fun s Q X hq => sp_is_table hx.1 hx.1 hq
  have t2 : ∀ (s : S) (Q : D → S → Prop) (X : Xc), (∀ s', Pf s s' → Q (.bl true) s') → wE (P1.d_is_table [tabD y z M] s) Q X := fun s Q X hq => sp_is_table hy.1 hz.1 hq
  generalize tabD x x M = T at *
  generalize tabD y z M = F at *
  unfold W7
  simp
  refine t1 _ _ _ fun s1 p1 => ?_
  refine t2 _ _ _ fun s2 p2 => ?_
  rw [tab_0']
  refine sp_is_table hx.1 hw.1 fun s3 p3 => ?_
  have dr : ∀ (s : S) (n : Nat), s[n]? = some (.lst [.bl true, .bl true, .bl true]) → datR s 60 (.ref n) = some (.list [.bool true, .bool true, .bool true]) := fun s n h => by simp only [datR, h, datRs, Option.map_some]
  rw [dr _ _ get_new, onO_some]
  have k1 : ((PyData.list [.bool true, .bool true, .bool true]).showable && sz (PyData.list [.bool true, .bool true, .bool true]).shown.length) = true := by decide +kernel
  have k2 : PyData.strOk (PyData.list [.bool true, .bool true, .bool true]).shown = true := by decide +kernel
  rw [k1, onT_t]
  have g1 : (s3 ++ [O.lst [D.bl true, D.bl true, D.bl true], O.lst [D.bl true]])[s3.length + 1]? = some (.lst [.bl true]) := by rw [app_get (s := s3) 1 (by omega)]; rfl
  refine (v_rep (k := 3) g1 (by omega)).mpr ?_
  rw [show List.replicate 3 (D.bl true) = [.bl true, .bl true, .bl true] from rfl]
  generalize s3 ++ [O.lst [D.bl true, D.bl true, D.bl true], O.lst [D.bl true]] = s4
  rw [dr _ _ get_new, onO_some, k1, onT_t, P1.eqD_str k2 k2]
  generalize s4 ++ [O.lst [D.bl true, D.bl true, D.bl true]] = s4
  simp
  unfold W8
  by_cases h : y = x
  · have e : eqD s4 (.str y) (.str x) = some true := by rw [e1, decide_eq_true h]
    simp [a0, e]
    exact hQ _
  · have e : eqD s4 (.str y) (.str x) = some false := by rw [e1, decide_eq_false h]
    simp [a0, e]
    refine rf h _ _ _ fun s5 => ?_
    simp
    exact hQ _
theorem turn20 {ns : List Int} {i : Nat} {t2 t3 t4 t5 t6 t7 : Option D} (hi : i < 1000000) (hQ : ∀ s' t2 t3 t4 t5 t6 t7, P.nx [some (.rol (ns.map .int)), some (.int i), t2, t3, t4, t5, t6, t7] s') :
    wC (W0 [some (.rol (ns.map .int)), some (.int i), t2, t3, t4, t5, t6, t7] s) P := by
  refine st_w0 hi fun s1 g M x w hx hlx hw hlw => ?_
  refine st_w5 hx hlx hw fun s2 y z hy hz hne => ?_
  exact st_w7 hx hw hy hz hne fun s3 => hQ _ _ _ _ _ _ _
theorem pure20 (ns : List Int) : ∃ s', d_law [.rol (ns.map .int)] [] = some (.ok (.bl true) s') := by
  have key : wE (d_law [.rol (ns.map .int)] []) (fun d s' => d = .bl true) (fun _ _ _ => False) := by
    unfold d_law
    refine (v_def (by rfl)).mpr ?_
    have eb : b_law = cSeq (cFor (iRange (eC (.int 0)) (eC (.int 4))) (gName 1) W0) (cRet (eC (.bl true))) := rfl
    rw [eb]
    generalize hW : W0 = W
    simp
    rw [show small 4 = true by decide, onT_t, show rangeL 0 4 = [.int (0 : Nat), .int (1 : Nat), .int (2 : Nat), .int (3 : Nat)] from rfl, ← hW]
    refine wC_forV_cons.mpr ⟨_, rfl, ?_⟩
    refine turn20 (by omega) fun s' t2 t3 t4 t5 t6 t7 => ?_
    refine wC_forV_cons.mpr ⟨_, rfl, ?_⟩
    refine turn20 (by omega) fun s' t2 t3 t4 t5 t6 t7 => ?_
    refine wC_forV_cons.mpr ⟨_, rfl, ?_⟩
    refine turn20 (by omega) fun s' t2 t3 t4 t5 t6 t7 => ?_
    refine wC_forV_cons.mpr ⟨_, rfl, ?_⟩
    refine turn20 (by omega) fun s' t2 t3 t4 t5 t6 t7 => ?_
    refine wC_forV_nil.mpr ?_
    simp
  obtain ⟨x, s', e, rfl⟩ := wE_out key
  exact ⟨s', e⟩
end
end P20
namespace Law_k20
open PySem PySem.Spec PyProof.Rows L2 Fc
noncomputable section
def b_law_cell : C :=
 (cSeq (cIf (tB (e2 oLt (eVar 1) (eN fLen (lCons (eVar 0) lNil))))
 (cRet (e2 oAt (eVar 0) (eVar 1)))
 cNil)
 (cRet (eC (.int 0))))
def d_law_cell : F := defF 2 2 b_law_cell
def b_law_generator : C :=
 (cSeq (cSet (eCall d_law_cell [] (lCons (eVar 0) (lCons (eVar 1) lNil))) (gName 2))
 (cRet (eN mLst (lCons (e2 oMod (eN fInt (lCons (eN fMax (lCons (e2 oSub (eVar 2) (e2 oPow (eC (.int 10)) (eC (.int 18)))) (lCons (eC (.int 0)) lNil))) lNil)) (e2 oPow (e2 oPow (eC (.int 10)) (eC (.int 60))) (eC (.int 10)))) (lCons (e2 oMod (eN fInt (lCons (eVar 2) lNil)) (eC (.int 2147483647))) (lCons (e2 oMul (eC (.int 1000)) (eVar 1)) lNil))))))
def d_law_generator : F := defF 2 3 b_law_generator
def b_law_hash : C :=
 (cSeq (cSet (e2 oMod (eN fInt (lCons (e2 oAdd (e2 oAdd (e2 oAdd (e2 oMul (eVar 0) (eC (.int 1103515245))) (e2 oMul (e2 oMul (eC (.int 7919)) (eVar 1)) (eVar 1))) (eVar 1)) (eC (.int 1))) lNil)) (eC (.int 2147483647))) (gName 2))
 (cSeq (cSet (e2 oMod (eN fInt (lCons (e2 oAdd (e2 oMul (eVar 2) (eVar 2)) (eC (.int 69621))) lNil)) (eC (.int 2147483629))) (gName 2))
 (cRet (e2 oMod (eN fInt (lCons (e2 oMul (eVar 2) (eC (.int 48271))) lNil)) (eC (.int 2147483587))))))
def d_law_hash : F := defF 2 3 b_law_hash
def b_law_random : C :=
 (cSeq (cIf (tB (e2 oGt (e2 oAt (eVar 0) (eC (.int 0))) (eC (.int 0))))
 (cSeq (cSet (e2 oMod (eN fInt (lCons (e2 oAt (eVar 0) (eC (.int 0))) lNil)) (eVar 1)) (gName 2))
 (cSeq (cSub (eVar 0) (eC (.int 0)) (e2 oDiv (e2 oAt (eVar 0) (eC (.int 0))) (eVar 1)))
 (cRet (eVar 2))))
 cNil)
 (cSeq (cSet (eC (.int 0)) (gName 2))
 (cSeq (cFor (iRange (eC (.int 0)) (e2 oAdd (eC (.int 1)) (e2 oDiv (e1 oBitLen (eVar 1)) (eC (.int 30))))) (gName 3)
 (cSeq (cSub (eVar 0) (eC (.int 2)) (e2 oAdd (e2 oAt (eVar 0) (eC (.int 2))) (eC (.int 1))))
 (cSet (e2 oAdd (e2 oMul (eVar 2) (eC (.int 2147483587))) (eCall d_law_hash [] (lCons (e2 oAt (eVar 0) (eC (.int 1))) (lCons (e2 oAt (eVar 0) (eC (.int 2))) lNil)))) (gName 2))))
 (cRet (e2 oMod (eN fInt (lCons (eVar 2) lNil)) (eVar 1))))))
def d_law_random : F := defF 2 4 b_law_random
def b_law_title : C :=
 (cSeq (cSet (eC (.str "")) (gName 2))
 (cSeq (cFor (iRange (eC (.int 0)) (e2 oAdd (eC (.int 1)) (eCall d_law_random [] (lCons (eVar 0) (lCons (eVar 1) lNil))))) (gName 3)
 (cSet (e2 oAdd (eVar 2) (e2 oAt (eC (.str "abcdefghijklmnopqrstuvwxyz")) (eCall d_law_random [] (lCons (eVar 0) (lCons (eC (.int 26)) lNil))))) (gName 2)))
 (cRet (eVar 2))))
def d_law_title : F := defF 2 4 b_law_title
def b_law_arcs : C :=
 (cSeq (cSet (eN mLst lNil) (gName 4))
 (cSeq (cFor (iRange (eC (.int 0)) (eVar 1)) (gName 5)
 (cFor (iRange (eC (.int 0)) (eVar 2)) (gName 6)
 (cIf (tB (e2 oEq (eCall d_law_random [] (lCons (eVar 0) (lCons (eVar 3) lNil))) (eC (.int 0))))
 (cExpr (eM mAppend (eVar 4) (lCons (eN mTup (lCons (eVar 5) (lCons (eVar 6) (lCons (e2 oEq (eCall d_law_random [] (lCons (eVar 0) (lCons (eC (.int 2)) lNil))) (eC (.int 0))) lNil)))) lNil)))
 cNil)))
 (cSeq (cIf (tAnd (tB (e2 oNe (eVar 4) (eN mLst lNil))) (tB (e2 oEq (eCall d_law_random [] (lCons (eVar 0) (lCons (eC (.int 4)) lNil))) (eC (.int 0)))))
 (cExpr (eM mAppend (eVar 4) (lCons (e2 oAdd (eCut (e2 oAt (eVar 4) (eC (.int 0))) pNo (pYes (eC (.int 2)))) (eN mTup (lCons (eNotT (tE (e2 oAt (e2 oAt (eVar 4) (eC (.int 0))) (eC (.int 2))))) lNil))) lNil)))
 cNil)
 (cRet (e2 oAt (eN mLst (lCons (eVar 4) (lCons (e1 oRevL (eVar 4)) lNil))) (eCall d_law_random [] (lCons (eVar 0) (lCons (eC (.int 2)) lNil))))))))
def d_law_arcs : F := defF 4 7 b_law_arcs
def b_law_grid : C :=
 (cSeq (cSet (eN mLst (lCons (eN mLst (lCons (eC (.int 0)) (lCons (eC (.int 0)) (lCons (eC (.int 0)) lNil)))) (lCons (eN mLst (lCons (eC (.int 0)) (lCons (eC (.int 0)) (lCons (eC (.int 0)) lNil)))) (lCons (eN mLst (lCons (eC (.int 0)) (lCons (eC (.int 0)) (lCons (eC (.int 0)) lNil)))) lNil)))) (gName 1))
 (cSeq (cFor (iSrc .seq (eVar 0)) (gTup 3 (gCons (gName 2) (gCons (gName 3) (gCons (gName 4) gNil))))
 (cSub (e2 oAt (eVar 1) (eVar 2)) (eVar 3) (eN fMax (lCons (eN fInt (lCons (e2 oAt (e2 oAt (eVar 1) (eVar 2)) (eVar 3)) lNil)) (lCons (e2 oAdd (eC (.int 1)) (eN fInt (lCons (eVar 4) lNil))) lNil)))))
 (cRet (eVar 1))))
def d_law_grid : F := defF 1 5 b_law_grid
def b_law_listed : C :=
 (cSeq (cSet (eN mLst lNil) (gName 1))
 (cSeq (cFor (iRange (eC (.int 0)) (eC (.int 3))) (gName 2)
 (cFor (iRange (eC (.int 0)) (eC (.int 3))) (gName 3)
 (cIf (tB (e2 oGt (e2 oAt (e2 oAt (eVar 0) (eVar 2)) (eVar 3)) (eC (.int 0))))
 (cExpr (eM mAppend (eVar 1) (lCons (eN mTup (lCons (eVar 2) (lCons (eVar 3) (lCons (e2 oEq (e2 oAt (e2 oAt (eVar 0) (eVar 2)) (eVar 3)) (eC (.int 2))) lNil)))) lNil)))
 cNil)))
 (cRet (eN fTuple (lCons (eVar 1) lNil)))))
def d_law_listed : F := defF 1 4 b_law_listed
def b_is_name : C :=
 (cSeq (cIf (tOr (tNot (tE (e1 (oIs .str) (eVar 0)))) (tNot (tB (eChain oLe oLe (eC (.int 1)) (eN fLen (lCons (eVar 0) lNil)) (eC (.int 12))))))
 (cRet (eC (.bl false)))
 cNil)
 (cRet (e2 oEq (eLc [1] (iSrc .seq (eVar 0)) (gName 1) (tB (e2 oNotIn (eVar 1) (eC (.str "abcdefghijklmnopqrstuvwxyz")))) (eVar 1)) (eN mLst lNil))))
def d_is_name : F := defF 1 2 b_is_name
def b_is_whole : C :=
 (cRet (eAnd (e1 (oIs .int) (eVar 0)) (eNotT (tE (e1 (oIs .bool) (eVar 0))))))
def d_is_whole : F := defF 1 1 b_is_whole
def b_is_arc : C :=
 (cSeq (cIf (tOr (tNot (tE (e1 (oIs .tuple) (eVar 0)))) (tOr (tB (e2 oNe (eN fLen (lCons (eVar 0) lNil)) (eC (.int 3)))) (tOr (tNot (tE (eCall d_is_whole [] (lCons (e2 oAt (eVar 0) (eC (.int 0))) lNil)))) (tNot (tE (eCall d_is_whole [] (lCons (e2 oAt (eVar 0) (eC (.int 1))) lNil)))))))
 (cRet (eC (.bl false)))
 cNil)
 (cRet (eAnd (eChain oLe oLt (eC (.int 0)) (e2 oAt (eVar 0) (eC (.int 0))) (eVar 1)) (eAnd (eChain oLe oLt (eC (.int 0)) (e2 oAt (eVar 0) (eC (.int 1))) (eVar 2)) (e1 (oIs .bool) (e2 oAt (eVar 0) (eC (.int 2))))))))
def d_is_arc : F := defF 3 3 b_is_arc
def b_is_table : C :=
 (cSeq (cIf (tOr (tNot (tE (e1 (oIs .tuple) (eVar 0)))) (tOr (tB (e2 oNe (eN fLen (lCons (eVar 0) lNil)) (eC (.int 3)))) (tOr (tNot (tE (eCall d_is_name [] (lCons (e2 oAt (eVar 0) (eC (.int 0))) lNil)))) (tNot (tE (eCall d_is_name [] (lCons (e2 oAt (eVar 0) (eC (.int 1))) lNil)))))))
 (cRet (eC (.bl false)))
 cNil)
 (cSeq (cSet (e2 oAt (eVar 0) (eC (.int 2))) (gName 1))
 (cSeq (cIf (tOr (tNot (tE (e1 (oIs .tuple) (eVar 1)))) (tB (e2 oNe (eLc [2] (iSrc .seq (eVar 1)) (gName 2) (tNot (tE (eCall d_is_arc [] (lCons (eVar 2) (lCons (eC (.int 3)) (lCons (eC (.int 3)) lNil)))))) (eVar 2)) (eN mLst lNil))))
 (cRet (eC (.bl false)))
 cNil)
 (cSeq (cSet (eLc [4, 5, 6] (iSrc .seq (eVar 1)) (gTup 3 (gCons (gName 4) (gCons (gName 5) (gCons (gName 6) gNil)))) tYes (eN mTup (lCons (eN fInt (lCons (eVar 4) lNil)) (lCons (eN fInt (lCons (eVar 5) lNil)) lNil)))) (gName 3))
 (cRet (e2 oEq (eVar 3) (eN fSortSet (lCons (eVar 3) lNil))))))))
def d_is_table : F := defF 1 7 b_is_table
def b_law_bad_arcs : C :=
 (cSeq (cSet (eN mLst (lCons (eC .non) (lCons (eC (.int 5)) (lCons (eC (.str "0>1")) (lCons (eCut (eVar 0) pNo (pYes (eC (.int 2)))) (lCons (e2 oAdd (eVar 0) (eN mTup (lCons (eC (.int 0)) lNil))) (lCons (eN fList (lCons (eVar 0) lNil)) (lCons (e2 oAdd (eN mTup (lCons (eC (.bl true)) lNil)) (eCut (eVar 0) (pYes (eC (.int 1))) pNo)) (lCons (e2 oAdd (eCut (eVar 0) pNo (pYes (eC (.int 2)))) (eN mTup (lCons (eC (.int 1)) lNil))) (lCons (e2 oAdd (eCut (eVar 0) pNo (pYes (eC (.int 2)))) (eN mTup (lCons (eC .non) lNil))) lNil)))))))))) (gName 1))
 (cSeq (cFor (iSrc .seq (eN mLst (lCons (eC .non) (lCons (eC (.str "0")) (lCons (eN mLst (lCons (eC (.int 0)) lNil)) (lCons (eN mTup lNil) (lCons (e1 oNeg (eC (.int 1))) lNil))))))) (gName 2)
 (cSet (e2 oAdd (eVar 1) (eN mLst (lCons (e2 oAdd (eN mTup (lCons (eVar 2) lNil)) (eCut (eVar 0) (pYes (eC (.int 1))) pNo)) (lCons (eN mTup (lCons (e2 oAt (eVar 0) (eC (.int 0))) (lCons (eVar 2) (lCons (e2 oAt (eVar 0) (eC (.int 2))) lNil)))) lNil)))) (gName 1)))
 (cRet (e2 oAdd (eVar 1) (eN mLst (lCons (eN mTup (lCons (e2 oAt (eVar 0) (eC (.int 0))) (lCons (eC (.bl true)) (lCons (e2 oAt (eVar 0) (eC (.int 2))) lNil)))) (lCons (eN mTup (lCons (e2 oAt (eVar 0) (eC (.int 0))) (lCons (eC (.bl false)) (lCons (e2 oAt (eVar 0) (eC (.int 2))) lNil)))) lNil)))))))
def d_law_bad_arcs : F := defF 1 3 b_law_bad_arcs
def b_law_bent : C :=
 (cSeq (cSet (eVar 0) (gTup 3 (gCons (gName 1) (gCons (gName 2) (gCons (gName 3) gNil)))))
 (cSeq (cSet (eN mLst (lCons (eC .non) (lCons (eC (.int 3)) (lCons (eC (.str "table")) (lCons (eN (fun _ => mDK) lNil) (lCons (eC (.bl true)) (lCons (eN mTup lNil) (lCons (eN mLst (lCons (eVar 1) (lCons (eVar 2) (lCons (eVar 3) lNil)))) (lCons (eN mTup (lCons (eVar 1) (lCons (eVar 2) lNil))) (lCons (eN mTup (lCons (eVar 1) (lCons (eVar 2) (lCons (eVar 3) (lCons (eC (.int 0)) lNil))))) lNil)))))))))) (gName 4))
 (cSeq (cExpr (eM mAppend (eVar 4) (lCons (eN mTup (lCons (eVar 1) (lCons (eVar 2) (lCons (eN fList (lCons (eVar 3) lNil)) lNil)))) lNil)))
 (cSeq (cFor (iSrc .seq (eN mLst (lCons (eC .non) (lCons (eC (.int 5)) (lCons (eC (.str "")) (lCons (eC (.str "F")) (lCons (eC (.str "f1")) (lCons (eC (.str "abcdefghijklm")) (lCons (eN mLst (lCons (eC (.str "f")) lNil)) (lCons (eC (.str "f ")) (lCons (eC (.str "f\n")) (lCons (eC (.bl true)) lNil)))))))))))) (gName 5)
 (cSet (e2 oAdd (eVar 4) (eN mLst (lCons (eN mTup (lCons (eVar 5) (lCons (eVar 2) (lCons (eVar 3) lNil)))) (lCons (eN mTup (lCons (eVar 1) (lCons (eVar 5) (lCons (eVar 3) lNil)))) lNil)))) (gName 4)))
 (cSeq (cFor (iSrc .seq (eN mLst (lCons (eC .non) (lCons (eC (.int 3)) (lCons (eN (fun _ => mDK) lNil) (lCons (eC (.str "arcs")) (lCons (eN mTup (lCons (eC .non) lNil)) (lCons (eN mTup (lCons (eN mTup (lCons (eC (.int 0)) (lCons (eC (.int 0)) lNil))) lNil)) (lCons (eN mTup (lCons (eN mTup (lCons (eC (.int 0)) (lCons (eC (.int 3)) (lCons (eC (.bl true)) lNil)))) lNil)) (lCons (eN mTup (lCons (eN mTup (lCons (eC (.int 3)) (lCons (eC (.int 0)) (lCons (eC (.bl false)) lNil)))) lNil)) (lCons (eN mTup (lCons (eN mTup (lCons (e1 oNeg (eC (.int 1))) (lCons (eC (.int 0)) (lCons (eC (.bl true)) lNil)))) lNil)) lNil))))))))))) (gName 5)
 (cExpr (eM mAppend (eVar 4) (lCons (eN mTup (lCons (eVar 1) (lCons (eVar 2) (lCons (eVar 5) lNil)))) lNil))))
 (cSeq (cFor (iSrc .seq (eCall d_law_bad_arcs [] (lCons (eN mTup (lCons (eC (.int 2)) (lCons (eC (.int 2)) (lCons (eC (.bl true)) lNil)))) lNil))) (gName 5)
 (cExpr (eM mAppend (eVar 4) (lCons (eN mTup (lCons (eVar 1) (lCons (eVar 2) (lCons (e2 oAdd (eN fTuple (lCons (eLc [6] (iSrc .seq (eVar 3)) (gName 6) (tB (e2 oNe (eCut (eVar 6) pNo (pYes (eC (.int 2)))) (eN mTup (lCons (eC (.int 2)) (lCons (eC (.int 2)) lNil))))) (eVar 6)) lNil)) (eN mTup (lCons (eVar 5) lNil))) lNil)))) lNil))))
 (cSeq (cFor (iSrc .seq (e2 oAdd (eCall d_law_bad_arcs [] (lCons (eN mTup (lCons (eC (.int 0)) (lCons (eC (.int 0)) (lCons (eC (.bl true)) lNil)))) lNil)) (eN mLst (lCons (eN mTup (lCons (eC (.int 0)) (lCons (eC (.int 3)) (lCons (eC (.bl true)) lNil)))) (lCons (eN mTup (lCons (eC (.int 3)) (lCons (eC (.int 0)) (lCons (eC (.bl true)) lNil)))) (lCons (eN mTup (lCons (eC (.int 0)) (lCons (eC (.int 5)) (lCons (eC (.bl false)) lNil)))) lNil)))))) (gName 5)
 (cExpr (eM mAppend (eVar 4) (lCons (eN mTup (lCons (eVar 1) (lCons (eVar 2) (lCons (eN mTup (lCons (eVar 5) (lCons (eN mTup (lCons (eC (.int 2)) (lCons (eC (.int 2)) (lCons (eC (.bl true)) lNil)))) lNil))) lNil)))) lNil))))
 (cSeq (cIf (tB (e2 oNe (eVar 3) (eN mTup lNil)))
 (cSeq (cSet (e2 oAdd (eCut (e2 oAt (eVar 3) (eC (.int 0))) pNo (pYes (eC (.int 2)))) (eN mTup (lCons (eNotT (tE (e2 oAt (e2 oAt (eVar 3) (eC (.int 0))) (eC (.int 2))))) lNil))) (gName 7))
 (cSet (e2 oAdd (eVar 4) (eN mLst (lCons (eN mTup (lCons (eVar 1) (lCons (eVar 2) (lCons (e2 oAdd (eVar 3) (eCut (eVar 3) (pYes (e1 oNeg (eC (.int 1)))) pNo)) lNil)))) (lCons (eN mTup (lCons (eVar 1) (lCons (eVar 2) (lCons (e2 oAdd (e2 oAdd (eCut (eVar 3) pNo (pYes (eC (.int 1)))) (eN mTup (lCons (eVar 7) lNil))) (eCut (eVar 3) (pYes (eC (.int 1))) pNo)) lNil)))) lNil)))) (gName 4)))
 cNil)
 (cSeq (cIf (tB (e2 oGt (eN fLen (lCons (eVar 3) lNil)) (eC (.int 1))))
 (cExpr (eM mAppend (eVar 4) (lCons (eN mTup (lCons (eVar 1) (lCons (eVar 2) (lCons (e1 oRevT (eVar 3)) lNil)))) lNil)))
 cNil)
 (cRet (eVar 4)))))))))))
def d_law_bent : F := defF 1 8 b_law_bent
def b_check_table : C :=
 (cIf (tNot (tE (eCall d_is_table [] (lCons (eVar 0) lNil))))
 (cRaise "InvalidTable" "value" (eVar 0))
 cNil)
def d_check_table : F := defF 1 1 b_check_table
def b_arcs_of : C :=
 (cRet (eN fTuple (lCons (eLc [1, 2] (iSrc .seq (eN fSorted (lCons (eLc [1, 2] (iSrc .seq (eVar 0)) (gTup 2 (gCons (gName 1) (gCons (gName 2) gNil))) tYes (eN mTup (lCons (eN fInt (lCons (eVar 1) lNil)) (lCons (eN fInt (lCons (eVar 2) lNil)) lNil)))) lNil))) (gTup 2 (gCons (gName 1) (gCons (gName 2) gNil))) tYes (eN mTup (lCons (eVar 1) (lCons (eVar 2) (lCons (e2 oAt (eVar 0) (eN mTup (lCons (eVar 1) (lCons (eVar 2) lNil)))) lNil))))) lNil)))
def d_arcs_of : F := defF 1 3 b_arcs_of
def b_joined : C :=
 (cSeq (cSet (eN (fun _ => mDT) lNil) (gName 2))
 (cSeq (cFor (iSrc .seq (e2 oAt (eVar 0) (eC (.int 2)))) (gTup 3 (gCons (gName 3) (gCons (gName 4) (gCons (gName 5) gNil))))
 (cFor (iSrc .seq (e2 oAt (eVar 1) (eC (.int 2)))) (gTup 3 (gCons (gName 6) (gCons (gName 7) (gCons (gName 8) gNil))))
 (cIf (tB (e2 oEq (eVar 6) (eVar 4)))
 (cSub (eVar 2) (eN mTup (lCons (eVar 3) (lCons (eVar 7) lNil))) (eOr (eGet2 (eVar 2) (eN mTup (lCons (eVar 3) (lCons (eVar 7) lNil))) (eC (.bl false))) (eOr (eVar 5) (eVar 8))))
 cNil)))
 (cRet (eN mTup (lCons (e2 oAt (eVar 0) (eC (.int 0))) (lCons (e2 oAt (eVar 1) (eC (.int 1))) (lCons (eCall d_arcs_of [] (lCons (eVar 2) lNil)) lNil)))))))
def d_joined : F := defF 2 9 b_joined
def b_falls_around : C :=
 (cSeq (cSet (eVar 0) (gName 1))
 (cSeq (cFor (iRange (eC (.int 0)) (eC (.int 3))) (gName 2)
 (cSeq (cIf (tB (e2 oNe (eLc [3] (iSrc .seq (e2 oAt (eVar 1) (eC (.int 2)))) (gName 3) (tAnd (tB (e2 oEq (e2 oAt (eVar 3) (eC (.int 0))) (e2 oAt (eVar 3) (eC (.int 1))))) (tE (e2 oAt (eVar 3) (eC (.int 2))))) (eVar 3)) (eN mLst lNil)))
 (cRet (eC (.bl true)))
 cNil)
 (cSet (eCall d_joined [] (lCons (eVar 1) (lCons (eVar 0) lNil))) (gName 1))))
 (cRet (eC (.bl false)))))
def d_falls_around : F := defF 1 4 b_falls_around
def b_has_fall : C :=
 (cSeq (cExpr (eCall d_check_table [] (lCons (eVar 0) lNil)))
 (cRet (eAnd (e2 oEq (e2 oAt (eVar 0) (eC (.int 0))) (e2 oAt (eVar 0) (eC (.int 1)))) (eCall d_falls_around [] (lCons (eVar 0) lNil)))))
def d_has_fall : F := defF 1 1 b_has_fall
def b_check_whole : C :=
 (cIf (tOr (tNot (tE (eCall d_is_whole [] (lCons (eVar 0) lNil)))) (tOr (tB (e2 oLt (eVar 0) (eVar 1))) (tAnd (tB (e1 oNotN (eVar 2))) (tB (e2 oGt (eVar 0) (eVar 2))))))
 (cRaise "InvalidNumber" "value" (eVar 0))
 cNil)
def d_check_whole : F := defF 3 3 b_check_whole
def b_power : C :=
 (cSeq (cExpr (eCall d_check_table [] (lCons (eVar 0) lNil)))
 (cSeq (cIf (tB (e2 oNe (e2 oAt (eVar 0) (eC (.int 0))) (e2 oAt (eVar 0) (eC (.int 1)))))
 (cRaise "InvalidTable" "value" (eVar 0))
 cNil)
 (cSeq (cExpr (eCall d_check_whole [.non] (lCons (eVar 1) (lCons (eC (.int 1)) lNil))))
 (cSeq (cPar3 2 3 4 (lCons (eC .non) (lCons (eVar 0) (lCons (eVar 1) lNil))))
 (cSeq (cWhile (tB (e2 oGt (eVar 4) (eC (.int 0))))
 (cSeq (cIf (tB (e2 oEq (e2 oMod (eVar 4) (eC (.int 2))) (eC (.int 1))))
 (cSet (eIf (tB (e1 oIsN (eVar 2))) (eVar 3) (eCall d_joined [] (lCons (eVar 2) (lCons (eVar 3) lNil)))) (gName 2))
 cNil)
 (cPar 3 4 (lCons (eCall d_joined [] (lCons (eVar 3) (lCons (eVar 3) lNil))) (lCons (e2 oDiv (eVar 4) (eC (.int 2))) lNil)))))
 (cRet (eVar 2)))))))
def d_power : F := defF 2 5 b_power
def b_product : C :=
 (cSeq (cExpr (eCall d_check_table [] (lCons (eVar 0) lNil)))
 (cSeq (cExpr (eCall d_check_table [] (lCons (eVar 1) lNil)))
 (cSeq (cIf (tB (e2 oNe (e2 oAt (eVar 0) (eC (.int 1))) (e2 oAt (eVar 1) (eC (.int 0)))))
 (cRaise "InvalidTable" "value" (eVar 1))
 cNil)
 (cRet (eCall d_joined [] (lCons (eVar 0) (lCons (eVar 1) lNil)))))))
def d_product : F := defF 2 2 b_product
def b_law_caught : C :=
 (cSeq (cSet (eC .non) (gName 3))
 (cSeq (cTryE ["CallsError", "InvalidTable", "InvalidNumber"] 4 3
 (cIf (tB (e2 oEq (eVar 0) (eC (.int 0))))
 (cExpr (eCall d_has_fall [] (lCons (eVar 1) lNil)))
 (cIf (tB (e2 oEq (eVar 0) (eC (.int 1))))
 (cExpr (eCall d_power [] (lCons (eVar 1) (lCons (eVar 2) lNil))))
 (cExpr (eCall d_product [] (lCons (eVar 1) (lCons (eVar 2) lNil)))))))
 (cSeq (cIf (tB (e1 oIsN (eVar 3)))
 (cRet (eC .non))
 cNil)
 (cSeq (cIf (tE (e1 (oIs .list) (e1 (oFld "value") (eVar 3))))
 (cExpr (eM mAppend (e1 (oFld "value") (eVar 3)) (lCons (eC (.str "more")) lNil)))
 cNil)
 (cRet (eN mLst (lCons (e1 (oIsJ ["InvalidTable"]) (eVar 3)) (lCons (e1 (oIsJ ["InvalidNumber"]) (eVar 3)) (lCons (eN fReprR (lCons (e1 (oFld "value") (eVar 3)) lNil)) lNil)))))))))
def d_law_caught : F := defF 3 5 b_law_caught
def b_law_refused : C :=
 (cSeq (cFor (iSrc .seq (eCall d_law_bent [] (lCons (eVar 0) lNil))) (gName 2)
 (cSeq (cIf (tB (e2 oNe (eN fReprR (lCons (eCall d_is_table [] (lCons (eVar 2) lNil)) lNil)) (eC (.str "False"))))
 (cRet (eC (.bl false)))
 cNil)
 (cSeq (cFor (iRange (eC (.int 0)) (eC (.int 2))) (gName 3)
 (cIf (tB (e2 oNe (eCall d_law_caught [] (lCons (eVar 3) (lCons (eVar 2) (lCons (eC .non) lNil)))) (eN mLst (lCons (eC (.bl true)) (lCons (eC (.bl false)) (lCons (eN fReprR (lCons (eVar 2) lNil)) lNil))))))
 (cRet (eC (.bl false)))
 cNil))
 (cFor (iSrc .seq (eN mLst (lCons (eN mTup (lCons (eVar 2) (lCons (eC .non) lNil))) (lCons (eN mTup (lCons (eVar 0) (lCons (eVar 2) lNil))) (lCons (eN mTup (lCons (eVar 2) (lCons (eVar 2) lNil))) (lCons (eN mTup (lCons (eVar 2) (lCons (eVar 0) lNil))) lNil)))))) (gTup 2 (gCons (gName 4) (gCons (gName 5) gNil)))
 (cIf (tB (e2 oNe (eCall d_law_caught [] (lCons (eC (.int 2)) (lCons (eVar 4) (lCons (eVar 5) lNil)))) (eN mLst (lCons (eC (.bl true)) (lCons (eC (.bl false)) (lCons (eN fReprR (lCons (eVar 2) lNil)) lNil))))))
 (cRet (eC (.bl false)))
 cNil)))))
 (cSeq (cIf (tOr (tB (e2 oNe (eCall d_law_caught [] (lCons (eC (.int 2)) (lCons (eVar 0) (lCons (eVar 1) lNil)))) (eN mLst (lCons (eC (.bl true)) (lCons (eC (.bl false)) (lCons (eN fReprR (lCons (eVar 1) lNil)) lNil)))))) (tB (e2 oNe (eCall d_law_caught [] (lCons (eC (.int 1)) (lCons (eVar 1) (lCons (eC .non) lNil)))) (eN mLst (lCons (eC (.bl true)) (lCons (eC (.bl false)) (lCons (eN fReprR (lCons (eVar 1) lNil)) lNil)))))))
 (cRet (eC (.bl false)))
 cNil)
 (cSeq (cFor (iSrc .seq (eN mLst (lCons (eC .non) (lCons (eC (.int 0)) (lCons (e1 oNeg (eC (.int 1))) (lCons (eC (.bl true)) (lCons (eC (.str "1")) (lCons (eN mLst (lCons (eC (.int 1)) lNil)) (lCons (eN mTup (lCons (eC (.int 1)) lNil)) (lCons (eN (fun _ => mDK) lNil) lNil)))))))))) (gName 2)
 (cIf (tB (e2 oNe (eCall d_law_caught [] (lCons (eC (.int 1)) (lCons (eVar 0) (lCons (eVar 2) lNil)))) (eN mLst (lCons (eC (.bl false)) (lCons (eC (.bl true)) (lCons (eN fReprR (lCons (eVar 2) lNil)) lNil))))))
 (cRet (eC (.bl false)))
 cNil))
 (cSeq (cIf (tOr (tB (e1 oNotN (eCall d_law_caught [] (lCons (eC (.int 0)) (lCons (eVar 1) (lCons (eC .non) lNil)))))) (tB (e1 oNotN (eCall d_law_caught [] (lCons (eC (.int 1)) (lCons (eVar 0) (lCons (eC (.int 1)) lNil)))))))
 (cRet (eC (.bl false)))
 cNil)
 (cSeq (cIf (tB (e2 oNe (eCall d_law_caught [] (lCons (eC (.int 2)) (lCons (eVar 1) (lCons (eVar 1) lNil)))) (eN mLst (lCons (eC (.bl true)) (lCons (eC (.bl false)) (lCons (eN fReprR (lCons (eVar 1) lNil)) lNil))))))
 (cRet (eC (.bl false)))
 cNil)
 (cSeq (cIf (tAnd (tB (e2 oNe (e2 oAt (eVar 1) (eC (.int 1))) (e2 oAt (eVar 0) (eC (.int 0))))) (tB (e2 oNe (eCall d_law_caught [] (lCons (eC (.int 2)) (lCons (eVar 1) (lCons (eVar 0) lNil)))) (eN mLst (lCons (eC (.bl true)) (lCons (eC (.bl false)) (lCons (eN fReprR (lCons (eVar 0) lNil)) lNil)))))))
 (cRet (eC (.bl false)))
 cNil)
 (cRet (e1 oIsN (eCall d_law_caught [] (lCons (eC (.int 2)) (lCons (eVar 0) (lCons (eVar 0) lNil))))))))))))
def d_law_refused : F := defF 2 6 b_law_refused
def b_law : C :=
 (cSeq (cFor (iRange (eC (.int 0)) (eC (.int 4))) (gName 1)
 (cSeq (cSet (eCall d_law_generator [] (lCons (eVar 0) (lCons (eVar 1) lNil))) (gName 2))
 (cSeq (cSet (eCall d_law_title [] (lCons (eVar 2) (lCons (eC (.int 12)) lNil))) (gName 3))
 (cSeq (cSet (eCall d_law_listed [] (lCons (eCall d_law_grid [] (lCons (eCall d_law_arcs [] (lCons (eVar 2) (lCons (eC (.int 3)) (lCons (eC (.int 3)) (lCons (e2 oAdd (eC (.int 1)) (eCall d_law_random [] (lCons (eVar 2) (lCons (eC (.int 3)) lNil)))) lNil))))) lNil)) lNil)) (gName 4))
 (cSeq (cSet (eN mTup (lCons (eVar 3) (lCons (eVar 3) (lCons (eVar 4) lNil)))) (gName 5))
 (cSeq (cSet (eCall d_law_title [] (lCons (eVar 2) (lCons (eC (.int 5)) lNil))) (gName 6))
 (cSeq (cSet (eN mTup (lCons (e2 oAt (eN mLst (lCons (eVar 6) (lCons (e2 oMulS (eC (.str "z")) (eC (.int 12))) lNil))) (eN fInt (lCons (e2 oEq (eVar 6) (eVar 3)) lNil))) (lCons (e2 oAdd (eCut (eVar 3) pNo (pYes (eC (.int 11)))) (eC (.str "q"))) (lCons (eVar 4) lNil)))) (gName 7))
 (cSeq (cIf (tOr (tB (e2 oEq (e2 oAt (eVar 7) (eC (.int 0))) (eVar 3))) (tB (e2 oEq (e2 oAt (eVar 7) (eC (.int 0))) (e2 oAt (eVar 7) (eC (.int 1))))))
 (cSet (eN mTup (lCons (eC (.str "zzq")) (lCons (eC (.str "zzz")) (lCons (eVar 4) lNil)))) (gName 7))
 cNil)
 (cSeq (cIf (tB (e2 oNe (eN fReprR (lCons (eN mLst (lCons (eCall d_is_table [] (lCons (eVar 5) lNil)) (lCons (eCall d_is_table [] (lCons (eVar 7) lNil)) (lCons (eCall d_is_table [] (lCons (eN mTup (lCons (eVar 3) (lCons (eVar 6) (lCons (eN mTup lNil) lNil)))) lNil)) lNil)))) lNil)) (eN fReprR (lCons (e2 oMul (eN mLst (lCons (eC (.bl true)) lNil)) (eC (.int 3))) lNil))))
 (cRet (eC (.bl false)))
 cNil)
 (cIf (tAnd (tB (e2 oNe (e2 oAt (eVar 7) (eC (.int 0))) (eVar 3))) (tNot (tE (eCall d_law_refused [] (lCons (eVar 5) (lCons (eVar 7) lNil))))))
 (cRet (eC (.bl false)))
 cNil))))))))))
 (cRet (eC (.bl true))))
def d_law : F := defF 1 8 b_law
def top (i : Nat) : Stmt := PySem.Challenge.pw_fallingcalls_k20_tables_told.main.body.getD i (.Pass ⟨0, 0, 0, 0⟩)
abbrev s_law_cell : Stmt := top 22
abbrev s_law_generator : Stmt := top 24
abbrev s_law_hash : Stmt := top 23
abbrev s_law_random : Stmt := top 25
abbrev s_law_title : Stmt := top 26
abbrev s_law_arcs : Stmt := top 30
abbrev s_law_grid : Stmt := top 27
abbrev s_law_listed : Stmt := top 28
abbrev s_is_name : Stmt := top 9
abbrev s_is_whole : Stmt := top 8
abbrev s_is_arc : Stmt := top 11
abbrev s_is_table : Stmt := top 13
abbrev s_law_bad_arcs : Stmt := top 29
abbrev s_law_bent : Stmt := top 32
abbrev s_check_table : Stmt := top 14
abbrev s_arcs_of : Stmt := top 15
abbrev s_joined : Stmt := top 16
abbrev s_falls_around : Stmt := top 19
abbrev s_has_fall : Stmt := top 20
abbrev s_check_whole : Stmt := top 10
abbrev s_power : Stmt := top 18
abbrev s_product : Stmt := top 17
abbrev s_law_caught : Stmt := top 31
abbrev s_law_refused : Stmt := top 33
abbrev s_law : Stmt := top 34
section
variable {P : Program} {w : World} {K : PySem.W.Frag} {mg : Str → Option Value} {base : Heap} {cm : CM} {f : Addr} {fd : FuncData}
theorem sc_law_cell : FnScope ["_law_script", "_law_index"] ["_law_script", "_law_index"] (defScope s_law_cell) := ⟨rfl, rfl, rfl, by decide +kernel, rfl, by decide +kernel, by decide +kernel⟩
theorem ok_law_cell (F : FunD K "_law_cell" "_law_cell" (defArgs s_law_cell) (defBody s_law_cell) (defScope s_law_cell) [] [] f fd) (n_len : mg "len" = none) : FnG P w K mg base 1 f fd ["_law_script", "_law_index"] (spD K cm 2 d_law_cell) := by
  refine FnG.of (N := ["_law_script", "_law_index"]) (ps := ["_law_script", "_law_index"]) (b := b_law_cell) F sc_law_cell fun cdv A outer s H E hr tk hp => ?_
  have hc : (bodyX P w K mg base ["_law_script", "_law_index"] "_law_cell" (defScope s_law_cell) f cdv A outer s H E).calm = true := rfl
  have hN : (bodyX P w K mg base ["_law_script", "_law_index"] "_law_cell" (defScope s_law_cell) f cdv A outer s H E).N.Nodup := sc_law_cell.nd
  exact (r_scons (r_ifs (r_tcmp s_oLt (r_var 1) (r_biB s_len n_len (r_cons (r_var 0) r_nil)))
 (r_sone (r_ret (r_at hr.room (r_var 0) (r_var 1))))
 r_snil)
 (r_sone (r_ret r_int)))
theorem sc_law_generator : FnScope ["_law_script", "_law_index", "_law_seed"] ["_law_script", "_law_index"] (defScope s_law_generator) := ⟨rfl, rfl, rfl, by decide +kernel, rfl, by decide +kernel, by decide +kernel⟩
theorem ok_law_generator (F : FunD K "_law_generator" "_law_generator" (defArgs s_law_generator) (defBody s_law_generator) (defScope s_law_generator) [] [] f fd) (c_d_law_cell : FnAt P w K mg base cm 1 "_law_cell" d_law_cell [[]]) (n_int : mg "int" = none) (n_max : mg "max" = none) : FnG P w K mg base 2 f fd ["_law_script", "_law_index"] (spD K cm 2 d_law_generator) := by
  refine FnG.of (N := ["_law_script", "_law_index", "_law_seed"]) (ps := ["_law_script", "_law_index"]) (b := b_law_generator) F sc_law_generator fun cdv A outer s H E hr tk hp => ?_
  have hc : (bodyX P w K mg base ["_law_script", "_law_index", "_law_seed"] "_law_generator" (defScope s_law_generator) f cdv A outer s H E).calm = true := rfl
  have hN : (bodyX P w K mg base ["_law_script", "_law_index", "_law_seed"] "_law_generator" (defScope s_law_generator) f cdv A outer s H E).N.Nodup := sc_law_generator.nd
  exact (r_scons (r_set 2 hN (r_call c_d_law_cell hr tk (by decide) (.head _) (r_cons (r_var 0) (r_cons (r_var 1) r_nil))))
 (r_sone (r_ret (r_lst (r_cons (r_op s_oMod (r_biT s_int n_int (r_cons (r_biB (s_max hc) n_max (r_cons (r_op s_oSub (r_var 2) (r_op s_oPow r_int r_int)) (r_cons r_int r_nil))) r_nil)) (r_op s_oPow (r_op s_oPow r_int r_int) r_int)) (r_cons (r_op s_oMod (r_biT s_int n_int (r_cons (r_var 2) r_nil)) r_int) (r_cons (r_op s_oMul r_int (r_var 1)) r_nil)))))))
theorem sc_law_hash : FnScope ["_law_seed", "_law_index", "_law_mixed"] ["_law_seed", "_law_index"] (defScope s_law_hash) := ⟨rfl, rfl, rfl, by decide +kernel, rfl, by decide +kernel, by decide +kernel⟩
theorem ok_law_hash (F : FunD K "_law_hash" "_law_hash" (defArgs s_law_hash) (defBody s_law_hash) (defScope s_law_hash) [] [] f fd) (n_int : mg "int" = none) : FnG P w K mg base 1 f fd ["_law_seed", "_law_index"] (spD K cm 2 d_law_hash) := by
  refine FnG.of (N := ["_law_seed", "_law_index", "_law_mixed"]) (ps := ["_law_seed", "_law_index"]) (b := b_law_hash) F sc_law_hash fun cdv A outer s H E hr tk hp => ?_
  have hc : (bodyX P w K mg base ["_law_seed", "_law_index", "_law_mixed"] "_law_hash" (defScope s_law_hash) f cdv A outer s H E).calm = true := rfl
  have hN : (bodyX P w K mg base ["_law_seed", "_law_index", "_law_mixed"] "_law_hash" (defScope s_law_hash) f cdv A outer s H E).N.Nodup := sc_law_hash.nd
  exact (r_scons (r_set 2 hN (r_op s_oMod (r_biT s_int n_int (r_cons (r_op s_oAdd (r_op s_oAdd (r_op s_oAdd (r_op s_oMul (r_var 0) r_int) (r_op s_oMul (r_op s_oMul r_int (r_var 1)) (r_var 1))) (r_var 1)) r_int) r_nil)) r_int))
 (r_scons (r_set 2 hN (r_op s_oMod (r_biT s_int n_int (r_cons (r_op s_oAdd (r_op s_oMul (r_var 2) (r_var 2)) r_int) r_nil)) r_int))
 (r_sone (r_ret (r_op s_oMod (r_biT s_int n_int (r_cons (r_op s_oMul (r_var 2) r_int) r_nil)) r_int)))))
theorem sc_law_random : FnScope ["_law_generator_here", "_law_bound", "_law_drawn", "_law_turn"] ["_law_generator_here", "_law_bound"] (defScope s_law_random) := ⟨rfl, rfl, rfl, by decide +kernel, rfl, by decide +kernel, by decide +kernel⟩
theorem ok_law_random (F : FunD K "_law_random" "_law_random" (defArgs s_law_random) (defBody s_law_random) (defScope s_law_random) [] [] f fd) (n_int : mg "int" = none) (n_range : mg "range" = none) (c_d_law_hash : FnAt P w K mg base cm 1 "_law_hash" d_law_hash [[]]) : FnG P w K mg base 2 f fd ["_law_generator_here", "_law_bound"] (spD K cm 2 d_law_random) := by
  refine FnG.of (N := ["_law_generator_here", "_law_bound", "_law_drawn", "_law_turn"]) (ps := ["_law_generator_here", "_law_bound"]) (b := b_law_random) F sc_law_random fun cdv A outer s H E hr tk hp => ?_
  have hc : (bodyX P w K mg base ["_law_generator_here", "_law_bound", "_law_drawn", "_law_turn"] "_law_random" (defScope s_law_random) f cdv A outer s H E).calm = true := rfl
  have hN : (bodyX P w K mg base ["_law_generator_here", "_law_bound", "_law_drawn", "_law_turn"] "_law_random" (defScope s_law_random) f cdv A outer s H E).N.Nodup := sc_law_random.nd
  exact (r_scons (r_ifs (r_tcmp s_oGt (r_at hr.room (r_var 0) r_int) r_int)
 (r_scons (r_set 2 hN (r_op s_oMod (r_biT s_int n_int (r_cons (r_at hr.room (r_var 0) r_int) r_nil)) (r_var 1)))
 (r_scons (r_sub hr.room (r_var 0) r_int (r_op s_oDiv (r_at hr.room (r_var 0) r_int) (r_var 1)))
 (r_sone (r_ret (r_var 2)))))
 r_snil)
 (r_scons (r_set 2 hN r_int)
 (r_scons (r_for hp hc (i_range1 n_range (r_op s_oAdd r_int (r_op s_oDiv (r_bitlen (r_var 1)) r_int))) (g_name 3 hN)
 (r_scons (r_sub hr.room (r_var 0) r_int (r_op s_oAdd (r_at hr.room (r_var 0) r_int) r_int))
 (r_sone (r_set 2 hN (r_op s_oAdd (r_op s_oMul (r_var 2) r_int) (r_call c_d_law_hash hr tk (by decide) (.head _) (r_cons (r_at hr.room (r_var 0) r_int) (r_cons (r_at hr.room (r_var 0) r_int) r_nil))))))))
 (r_sone (r_ret (r_op s_oMod (r_biT s_int n_int (r_cons (r_var 2) r_nil)) (r_var 1)))))))
theorem sc_law_title : FnScope ["_law_generator_here", "_law_most", "_law_found", "_law_turn"] ["_law_generator_here", "_law_most"] (defScope s_law_title) := ⟨rfl, rfl, rfl, by decide +kernel, rfl, by decide +kernel, by decide +kernel⟩
theorem ok_law_title (F : FunD K "_law_title" "_law_title" (defArgs s_law_title) (defBody s_law_title) (defScope s_law_title) [] [] f fd) (c_d_law_random : FnAt P w K mg base cm 2 "_law_random" d_law_random [[]]) (n_range : mg "range" = none) : FnG P w K mg base 3 f fd ["_law_generator_here", "_law_most"] (spD K cm 2 d_law_title) := by
  refine FnG.of (N := ["_law_generator_here", "_law_most", "_law_found", "_law_turn"]) (ps := ["_law_generator_here", "_law_most"]) (b := b_law_title) F sc_law_title fun cdv A outer s H E hr tk hp => ?_
  have hc : (bodyX P w K mg base ["_law_generator_here", "_law_most", "_law_found", "_law_turn"] "_law_title" (defScope s_law_title) f cdv A outer s H E).calm = true := rfl
  have hN : (bodyX P w K mg base ["_law_generator_here", "_law_most", "_law_found", "_law_turn"] "_law_title" (defScope s_law_title) f cdv A outer s H E).N.Nodup := sc_law_title.nd
  exact (r_scons (r_set 2 hN r_str)
 (r_scons (r_for hp hc (i_range1 n_range (r_op s_oAdd r_int (r_call c_d_law_random hr tk (by decide) (.head _) (r_cons (r_var 0) (r_cons (r_var 1) r_nil))))) (g_name 3 hN)
 (r_sone (r_set 2 hN (r_op s_oAdd (r_var 2) (r_at hr.room r_str (r_call c_d_law_random hr tk (by decide) (.head _) (r_cons (r_var 0) (r_cons r_int r_nil))))))))
 (r_sone (r_ret (r_var 2)))))
theorem sc_law_arcs : FnScope ["_law_generator_here", "_law_begin", "_law_end", "_law_dense", "_law_found", "_law_i", "_law_j"] ["_law_generator_here", "_law_begin", "_law_end", "_law_dense"] (defScope s_law_arcs) := ⟨rfl, rfl, rfl, by decide +kernel, rfl, by decide +kernel, by decide +kernel⟩
theorem ok_law_arcs (F : FunD K "_law_arcs" "_law_arcs" (defArgs s_law_arcs) (defBody s_law_arcs) (defScope s_law_arcs) [] [] f fd) (n_range : mg "range" = none) (c_d_law_random : FnAt P w K mg base cm 2 "_law_random" d_law_random [[]]) : FnG P w K mg base 3 f fd ["_law_generator_here", "_law_begin", "_law_end", "_law_dense"] (spD K cm 4 d_law_arcs) := by
  refine FnG.of (N := ["_law_generator_here", "_law_begin", "_law_end", "_law_dense", "_law_found", "_law_i", "_law_j"]) (ps := ["_law_generator_here", "_law_begin", "_law_end", "_law_dense"]) (b := b_law_arcs) F sc_law_arcs fun cdv A outer s H E hr tk hp => ?_
  have hc : (bodyX P w K mg base ["_law_generator_here", "_law_begin", "_law_end", "_law_dense", "_law_found", "_law_i", "_law_j"] "_law_arcs" (defScope s_law_arcs) f cdv A outer s H E).calm = true := rfl
  have hN : (bodyX P w K mg base ["_law_generator_here", "_law_begin", "_law_end", "_law_dense", "_law_found", "_law_i", "_law_j"] "_law_arcs" (defScope s_law_arcs) f cdv A outer s H E).N.Nodup := sc_law_arcs.nd
  exact (r_scons (r_set 4 hN (r_lst r_nil))
 (r_scons (r_for hp hc (i_range1 n_range (r_var 1)) (g_name 5 hN)
 (r_sone (r_for hp hc (i_range1 n_range (r_var 2)) (g_name 6 hN)
 (r_sone (r_ifs (r_tcmp (s_oEq hr.room) (r_call c_d_law_random hr tk (by decide) (.head _) (r_cons (r_var 0) (r_cons (r_var 3) r_nil))) r_int)
 (r_sone (r_expr (r_m_append1 (r_var 4) (r_cons (r_tup (r_cons (r_var 5) (r_cons (r_var 6) (r_cons (r_cmp (s_oEq hr.room) (r_call c_d_law_random hr tk (by decide) (.head _) (r_cons (r_var 0) (r_cons r_int r_nil))) r_int) r_nil)))) r_nil))))
 r_snil)))))
 (r_scons (r_ifs (r_tw (r_wand (r_tcmp (s_oNe hr.room) (r_var 4) (r_lst r_nil)) (r_wand1 (r_tcmp (s_oEq hr.room) (r_call c_d_law_random hr tk (by decide) (.head _) (r_cons (r_var 0) (r_cons r_int r_nil))) r_int))))
 (r_sone (r_expr (r_m_append1 (r_var 4) (r_cons (r_op s_oAdd (r_cut (r_at hr.room (r_var 4) r_int) r_pno (r_pyes r_int)) (r_tup (r_cons (r_notv (r_at hr.room (r_at hr.room (r_var 4) r_int) r_int)) r_nil))) r_nil))))
 r_snil)
 (r_sone (r_ret (r_at hr.room (r_lst (r_cons (r_var 4) (r_cons (r_revL (r_var 4)) r_nil))) (r_call c_d_law_random hr tk (by decide) (.head _) (r_cons (r_var 0) (r_cons r_int r_nil)))))))))
theorem sc_law_grid : FnScope ["_law_arcs_here", "_law_found", "_law_i", "_law_j", "_law_falls"] ["_law_arcs_here"] (defScope s_law_grid) := ⟨rfl, rfl, rfl, by decide +kernel, rfl, by decide +kernel, by decide +kernel⟩
theorem ok_law_grid (F : FunD K "_law_grid" "_law_grid" (defArgs s_law_grid) (defBody s_law_grid) (defScope s_law_grid) [] [] f fd) (n_int : mg "int" = none) (n_max : mg "max" = none) : FnG P w K mg base 1 f fd ["_law_arcs_here"] (spD K cm 1 d_law_grid) := by
  refine FnG.of (N := ["_law_arcs_here", "_law_found", "_law_i", "_law_j", "_law_falls"]) (ps := ["_law_arcs_here"]) (b := b_law_grid) F sc_law_grid fun cdv A outer s H E hr tk hp => ?_
  have hc : (bodyX P w K mg base ["_law_arcs_here", "_law_found", "_law_i", "_law_j", "_law_falls"] "_law_grid" (defScope s_law_grid) f cdv A outer s H E).calm = true := rfl
  have hN : (bodyX P w K mg base ["_law_arcs_here", "_law_found", "_law_i", "_law_j", "_law_falls"] "_law_grid" (defScope s_law_grid) f cdv A outer s H E).N.Nodup := sc_law_grid.nd
  exact (r_scons (r_set 1 hN (r_lst (r_cons (r_lst (r_cons r_int (r_cons r_int (r_cons r_int r_nil)))) (r_cons (r_lst (r_cons r_int (r_cons r_int (r_cons r_int r_nil)))) (r_cons (r_lst (r_cons r_int (r_cons r_int (r_cons r_int r_nil)))) r_nil)))))
 (r_scons (r_for hp hc (i_seq (r_var 0)) (g_tup hc (g_cons (g_name 2 hN) (g_cons (g_name 3 hN) (g_cons (g_name 4 hN) g_nil))))
 (r_sone (r_sub hr.room (r_at hr.room (r_var 1) (r_var 2)) (r_var 3) (r_biB (s_max hc) n_max (r_cons (r_biT s_int n_int (r_cons (r_at hr.room (r_at hr.room (r_var 1) (r_var 2)) (r_var 3)) r_nil)) (r_cons (r_op s_oAdd r_int (r_biT s_int n_int (r_cons (r_var 4) r_nil))) r_nil))))))
 (r_sone (r_ret (r_var 1)))))
theorem sc_law_listed : FnScope ["_law_grid_here", "_law_found", "_law_i", "_law_j"] ["_law_grid_here"] (defScope s_law_listed) := ⟨rfl, rfl, rfl, by decide +kernel, rfl, by decide +kernel, by decide +kernel⟩
theorem ok_law_listed (F : FunD K "_law_listed" "_law_listed" (defArgs s_law_listed) (defBody s_law_listed) (defScope s_law_listed) [] [] f fd) (n_range : mg "range" = none) (n_tuple : mg "tuple" = none) : FnG P w K mg base 1 f fd ["_law_grid_here"] (spD K cm 1 d_law_listed) := by
  refine FnG.of (N := ["_law_grid_here", "_law_found", "_law_i", "_law_j"]) (ps := ["_law_grid_here"]) (b := b_law_listed) F sc_law_listed fun cdv A outer s H E hr tk hp => ?_
  have hc : (bodyX P w K mg base ["_law_grid_here", "_law_found", "_law_i", "_law_j"] "_law_listed" (defScope s_law_listed) f cdv A outer s H E).calm = true := rfl
  have hN : (bodyX P w K mg base ["_law_grid_here", "_law_found", "_law_i", "_law_j"] "_law_listed" (defScope s_law_listed) f cdv A outer s H E).N.Nodup := sc_law_listed.nd
  exact (r_scons (r_set 1 hN (r_lst r_nil))
 (r_scons (r_for hp hc (i_range1 n_range r_int) (g_name 2 hN)
 (r_sone (r_for hp hc (i_range1 n_range r_int) (g_name 3 hN)
 (r_sone (r_ifs (r_tcmp s_oGt (r_at hr.room (r_at hr.room (r_var 0) (r_var 2)) (r_var 3)) r_int)
 (r_sone (r_expr (r_m_append1 (r_var 1) (r_cons (r_tup (r_cons (r_var 2) (r_cons (r_var 3) (r_cons (r_cmp (s_oEq hr.room) (r_at hr.room (r_at hr.room (r_var 0) (r_var 2)) (r_var 3)) r_int) r_nil)))) r_nil))))
 r_snil)))))
 (r_sone (r_ret (r_biT s_tuple n_tuple (r_cons (r_var 1) r_nil))))))
theorem sc_is_name : FnScope ["value", "letter"] ["value"] (defScope s_is_name) := ⟨rfl, rfl, rfl, by decide +kernel, rfl, by decide +kernel, by decide +kernel⟩
theorem ok_is_name (F : FunD K "is_name" "is_name" (defArgs s_is_name) (defBody s_is_name) (defScope s_is_name) [] [] f fd) (n_isinstance : mg "isinstance" = none) (n_str : mg "str" = none) (n_len : mg "len" = none) (g_MOST_LETTERS : GlobC K mg "MOST_LETTERS" (.int 12)) (g_LETTERS : GlobC K mg "LETTERS" (.str "abcdefghijklmnopqrstuvwxyz")) : FnG P w K mg base 1 f fd ["value"] (spD K cm 1 d_is_name) := by
  refine FnG.of (N := ["value", "letter"]) (ps := ["value"]) (b := b_is_name) F sc_is_name fun cdv A outer s H E hr tk hp => ?_
  have hc : (bodyX P w K mg base ["value", "letter"] "is_name" (defScope s_is_name) f cdv A outer s H E).calm = true := rfl
  have hN : (bodyX P w K mg base ["value", "letter"] "is_name" (defScope s_is_name) f cdv A outer s H E).N.Nodup := sc_is_name.nd
  exact (r_scons (r_ifs (r_tw (r_wor (r_tnot (r_truth (r_is (r_var 0) n_isinstance n_str))) (r_wor1 (r_tnot (r_tchain s_oLe s_oLe r_int (r_biB s_len n_len (r_cons (r_var 0) r_nil)) (r_glob g_MOST_LETTERS))))))
 (r_sone (r_ret r_bl))
 r_snil)
 (r_sone (r_ret (r_cmp (s_oEq hr.room) (r_lc hc hN [("letter", 1)] (i_seq (r_var 0)) (fun _ _ _ _ _ => (g_name 1 hN)) (fun _ _ _ _ _ => (r_tsone (r_tcmp (s_oNotIn hr.room) (r_var 1) (r_glob g_LETTERS)))) (fun _ _ _ _ _ => (r_var 1)) gl_name) (r_lst r_nil)))))
theorem sc_is_whole : FnScope ["value"] ["value"] (defScope s_is_whole) := ⟨rfl, rfl, rfl, by decide +kernel, rfl, by decide +kernel, by decide +kernel⟩
theorem ok_is_whole (F : FunD K "is_whole" "is_whole" (defArgs s_is_whole) (defBody s_is_whole) (defScope s_is_whole) [] [] f fd) (n_isinstance : mg "isinstance" = none) (n_int : mg "int" = none) (n_bool : mg "bool" = none) : FnG P w K mg base 1 f fd ["value"] (spD K cm 1 d_is_whole) := by
  refine FnG.of (N := ["value"]) (ps := ["value"]) (b := b_is_whole) F sc_is_whole fun cdv A outer s H E hr tk hp => ?_
  have hc : (bodyX P w K mg base ["value"] "is_whole" (defScope s_is_whole) f cdv A outer s H E).calm = true := rfl
  have hN : (bodyX P w K mg base ["value"] "is_whole" (defScope s_is_whole) f cdv A outer s H E).N.Nodup := sc_is_whole.nd
  exact (r_sone (r_ret (r_and (r_is (r_var 0) n_isinstance n_int) (r_one (r_notv (r_is (r_var 0) n_isinstance n_bool))))))
theorem sc_is_arc : FnScope ["value", "sources", "targets"] ["value", "sources", "targets"] (defScope s_is_arc) := ⟨rfl, rfl, rfl, by decide +kernel, rfl, by decide +kernel, by decide +kernel⟩
theorem ok_is_arc (F : FunD K "is_arc" "is_arc" (defArgs s_is_arc) (defBody s_is_arc) (defScope s_is_arc) [] [] f fd) (n_isinstance : mg "isinstance" = none) (n_tuple : mg "tuple" = none) (n_len : mg "len" = none) (c_d_is_whole : FnAt P w K mg base cm 1 "is_whole" d_is_whole [[]]) (n_bool : mg "bool" = none) : FnG P w K mg base 2 f fd ["value", "sources", "targets"] (spD K cm 3 d_is_arc) := by
  refine FnG.of (N := ["value", "sources", "targets"]) (ps := ["value", "sources", "targets"]) (b := b_is_arc) F sc_is_arc fun cdv A outer s H E hr tk hp => ?_
  have hc : (bodyX P w K mg base ["value", "sources", "targets"] "is_arc" (defScope s_is_arc) f cdv A outer s H E).calm = true := rfl
  have hN : (bodyX P w K mg base ["value", "sources", "targets"] "is_arc" (defScope s_is_arc) f cdv A outer s H E).N.Nodup := sc_is_arc.nd
  exact (r_scons (r_ifs (r_tw (r_wor (r_tnot (r_truth (r_is (r_var 0) n_isinstance n_tuple))) (r_wor (r_tcmp (s_oNe hr.room) (r_biB s_len n_len (r_cons (r_var 0) r_nil)) r_int) (r_wor (r_tnot (r_truth (r_call c_d_is_whole hr tk (by decide) (.head _) (r_cons (r_at hr.room (r_var 0) r_int) r_nil)))) (r_wor1 (r_tnot (r_truth (r_call c_d_is_whole hr tk (by decide) (.head _) (r_cons (r_at hr.room (r_var 0) r_int) r_nil)))))))))
 (r_sone (r_ret r_bl))
 r_snil)
 (r_sone (r_ret (r_and (r_chain s_oLe s_oLt r_int (r_at hr.room (r_var 0) r_int) (r_var 1)) (r_and (r_chain s_oLe s_oLt r_int (r_at hr.room (r_var 0) r_int) (r_var 2)) (r_one (r_is (r_at hr.room (r_var 0) r_int) n_isinstance n_bool)))))))
theorem sc_is_table : FnScope ["value", "arcs", "arc", "places", "i", "j", "falls"] ["value"] (defScope s_is_table) := ⟨rfl, rfl, rfl, by decide +kernel, rfl, by decide +kernel, by decide +kernel⟩
theorem ok_is_table (F : FunD K "is_table" "is_table" (defArgs s_is_table) (defBody s_is_table) (defScope s_is_table) [] [] f fd) (n_isinstance : mg "isinstance" = none) (n_tuple : mg "tuple" = none) (n_len : mg "len" = none) (c_d_is_name : FnAt P w K mg base cm 1 "is_name" d_is_name [[]]) (g_MOST_MEASURES : GlobC K mg "MOST_MEASURES" (.int 3)) (c_d_is_arc : FnAt P w K mg base cm 2 "is_arc" d_is_arc [[]]) (n_int : mg "int" = none) (n_sorted : mg "sorted" = none) (n_set : mg "set" = none) : FnG P w K mg base 3 f fd ["value"] (spD K cm 1 d_is_table) := by
  refine FnG.of (N := ["value", "arcs", "arc", "places", "i", "j", "falls"]) (ps := ["value"]) (b := b_is_table) F sc_is_table fun cdv A outer s H E hr tk hp => ?_
  have hc : (bodyX P w K mg base ["value", "arcs", "arc", "places", "i", "j", "falls"] "is_table" (defScope s_is_table) f cdv A outer s H E).calm = true := rfl
  have hN : (bodyX P w K mg base ["value", "arcs", "arc", "places", "i", "j", "falls"] "is_table" (defScope s_is_table) f cdv A outer s H E).N.Nodup := sc_is_table.nd
  exact (r_scons (r_ifs (r_tw (r_wor (r_tnot (r_truth (r_is (r_var 0) n_isinstance n_tuple))) (r_wor (r_tcmp (s_oNe hr.room) (r_biB s_len n_len (r_cons (r_var 0) r_nil)) r_int) (r_wor (r_tnot (r_truth (r_call c_d_is_name hr tk (by decide) (.head _) (r_cons (r_at hr.room (r_var 0) r_int) r_nil)))) (r_wor1 (r_tnot (r_truth (r_call c_d_is_name hr tk (by decide) (.head _) (r_cons (r_at hr.room (r_var 0) r_int) r_nil)))))))))
 (r_sone (r_ret r_bl))
 r_snil)
 (r_scons (r_set 1 hN (r_at hr.room (r_var 0) r_int))
 (r_scons (r_ifs (r_tw (r_wor (r_tnot (r_truth (r_is (r_var 1) n_isinstance n_tuple))) (r_wor1 (r_tcmp (s_oNe hr.room) (r_lc hc hN [("arc", 2)] (i_seq (r_var 1)) (fun _ _ _ _ _ => (g_name 2 hN)) (fun _ _ _ _ _ => (r_tsone (r_tnot (r_truth (r_call c_d_is_arc hr takes_blk (by decide) (.head _) (r_cons (r_var 2) (r_cons (r_glob g_MOST_MEASURES) (r_cons (r_glob g_MOST_MEASURES) r_nil)))))))) (fun _ _ _ _ _ => (r_var 2)) gl_name) (r_lst r_nil)))))
 (r_sone (r_ret r_bl))
 r_snil)
 (r_scons (r_setLc hc hN 3 [("i", 4), ("j", 5), ("falls", 6)] (i_seq (r_var 1)) (fun _ _ _ _ _ => (g_tup hc (g_cons (g_name 4 hN) (g_cons (g_name 5 hN) (g_cons (g_name 6 hN) g_nil))))) (fun _ _ _ _ _ => r_tsnil) (fun _ _ _ _ _ => (r_tup (r_cons (r_biT s_int n_int (r_cons (r_var 4) r_nil)) (r_cons (r_biT s_int n_int (r_cons (r_var 5) r_nil)) r_nil)))) (gl_tup (gls_cons gl_name (gls_cons gl_name (gls_cons gl_name gls_nil)))))
 (r_sone (r_ret (r_cmp (s_oEq hr.room) (r_var 3) (r_sortset hc hr.room n_sorted n_set (r_var 3)))))))))
theorem sc_law_bad_arcs : FnScope ["_law_arc", "_law_found", "_law_bad"] ["_law_arc"] (defScope s_law_bad_arcs) := ⟨rfl, rfl, rfl, by decide +kernel, rfl, by decide +kernel, by decide +kernel⟩
theorem ok_law_bad_arcs (F : FunD K "_law_bad_arcs" "_law_bad_arcs" (defArgs s_law_bad_arcs) (defBody s_law_bad_arcs) (defScope s_law_bad_arcs) [] [] f fd) (n_list : mg "list" = none) : FnG P w K mg base 1 f fd ["_law_arc"] (spD K cm 1 d_law_bad_arcs) := by
  refine FnG.of (N := ["_law_arc", "_law_found", "_law_bad"]) (ps := ["_law_arc"]) (b := b_law_bad_arcs) F sc_law_bad_arcs fun cdv A outer s H E hr tk hp => ?_
  have hc : (bodyX P w K mg base ["_law_arc", "_law_found", "_law_bad"] "_law_bad_arcs" (defScope s_law_bad_arcs) f cdv A outer s H E).calm = true := rfl
  have hN : (bodyX P w K mg base ["_law_arc", "_law_found", "_law_bad"] "_law_bad_arcs" (defScope s_law_bad_arcs) f cdv A outer s H E).N.Nodup := sc_law_bad_arcs.nd
  exact (r_scons (r_set 1 hN (r_lst (r_cons r_non (r_cons r_int (r_cons r_str (r_cons (r_cut (r_var 0) r_pno (r_pyes r_int)) (r_cons (r_op s_oAdd (r_var 0) (r_tup (r_cons r_int r_nil))) (r_cons (r_biT (s_list hc) n_list (r_cons (r_var 0) r_nil)) (r_cons (r_op s_oAdd (r_tup (r_cons r_bl r_nil)) (r_cut (r_var 0) (r_pyes r_int) r_pno)) (r_cons (r_op s_oAdd (r_cut (r_var 0) r_pno (r_pyes r_int)) (r_tup (r_cons r_int r_nil))) (r_cons (r_op s_oAdd (r_cut (r_var 0) r_pno (r_pyes r_int)) (r_tup (r_cons r_non r_nil))) r_nil)))))))))))
 (r_scons (r_for hp hc (i_seq (r_lst (r_cons r_non (r_cons r_str (r_cons (r_lst (r_cons r_int r_nil)) (r_cons (r_tup r_nil) (r_cons (r_neg r_int) r_nil))))))) (g_name 2 hN)
 (r_sone (r_set 1 hN (r_op s_oAdd (r_var 1) (r_lst (r_cons (r_op s_oAdd (r_tup (r_cons (r_var 2) r_nil)) (r_cut (r_var 0) (r_pyes r_int) r_pno)) (r_cons (r_tup (r_cons (r_at hr.room (r_var 0) r_int) (r_cons (r_var 2) (r_cons (r_at hr.room (r_var 0) r_int) r_nil)))) r_nil)))))))
 (r_sone (r_ret (r_op s_oAdd (r_var 1) (r_lst (r_cons (r_tup (r_cons (r_at hr.room (r_var 0) r_int) (r_cons r_bl (r_cons (r_at hr.room (r_var 0) r_int) r_nil)))) (r_cons (r_tup (r_cons (r_at hr.room (r_var 0) r_int) (r_cons r_bl (r_cons (r_at hr.room (r_var 0) r_int) r_nil)))) r_nil))))))))
theorem sc_law_bent : FnScope ["_law_table", "_law_begin", "_law_end", "_law_arcs_here", "_law_found", "_law_bad", "_law_arc", "_law_twin"] ["_law_table"] (defScope s_law_bent) := ⟨rfl, rfl, rfl, by decide +kernel, rfl, by decide +kernel, by decide +kernel⟩
theorem ok_law_bent (F : FunD K "_law_bent" "_law_bent" (defArgs s_law_bent) (defBody s_law_bent) (defScope s_law_bent) [] [] f fd) (n_list : mg "list" = none) (c_d_law_bad_arcs : FnAt P w K mg base cm 1 "_law_bad_arcs" d_law_bad_arcs [[]]) (n_tuple : mg "tuple" = none) (n_len : mg "len" = none) : FnG P w K mg base 2 f fd ["_law_table"] (spD K cm 1 d_law_bent) := by
  refine FnG.of (N := ["_law_table", "_law_begin", "_law_end", "_law_arcs_here", "_law_found", "_law_bad", "_law_arc", "_law_twin"]) (ps := ["_law_table"]) (b := b_law_bent) F sc_law_bent fun cdv A outer s H E hr tk hp => ?_
  have hc : (bodyX P w K mg base ["_law_table", "_law_begin", "_law_end", "_law_arcs_here", "_law_found", "_law_bad", "_law_arc", "_law_twin"] "_law_bent" (defScope s_law_bent) f cdv A outer s H E).calm = true := rfl
  have hN : (bodyX P w K mg base ["_law_table", "_law_begin", "_law_end", "_law_arcs_here", "_law_found", "_law_bad", "_law_arc", "_law_twin"] "_law_bent" (defScope s_law_bent) f cdv A outer s H E).N.Nodup := sc_law_bent.nd
  exact (r_scons (r_asg (r_var 0) (g_tup hc (g_cons (g_name 1 hN) (g_cons (g_name 2 hN) (g_cons (g_name 3 hN) g_nil)))))
 (r_scons (r_set 4 hN (r_lst (r_cons r_non (r_cons r_int (r_cons r_str (r_cons r_dK (r_cons r_bl (r_cons (r_tup r_nil) (r_cons (r_lst (r_cons (r_var 1) (r_cons (r_var 2) (r_cons (r_var 3) r_nil)))) (r_cons (r_tup (r_cons (r_var 1) (r_cons (r_var 2) r_nil))) (r_cons (r_tup (r_cons (r_var 1) (r_cons (r_var 2) (r_cons (r_var 3) (r_cons r_int r_nil))))) r_nil)))))))))))
 (r_scons (r_expr (r_m_append1 (r_var 4) (r_cons (r_tup (r_cons (r_var 1) (r_cons (r_var 2) (r_cons (r_biT (s_list hc) n_list (r_cons (r_var 3) r_nil)) r_nil)))) r_nil)))
 (r_scons (r_for hp hc (i_seq (r_lst (r_cons r_non (r_cons r_int (r_cons r_str (r_cons r_str (r_cons r_str (r_cons r_str (r_cons (r_lst (r_cons r_str r_nil)) (r_cons r_str (r_cons r_str (r_cons r_bl r_nil)))))))))))) (g_name 5 hN)
 (r_sone (r_set 4 hN (r_op s_oAdd (r_var 4) (r_lst (r_cons (r_tup (r_cons (r_var 5) (r_cons (r_var 2) (r_cons (r_var 3) r_nil)))) (r_cons (r_tup (r_cons (r_var 1) (r_cons (r_var 5) (r_cons (r_var 3) r_nil)))) r_nil)))))))
 (r_scons (r_for hp hc (i_seq (r_lst (r_cons r_non (r_cons r_int (r_cons r_dK (r_cons r_str (r_cons (r_tup (r_cons r_non r_nil)) (r_cons (r_tup (r_cons (r_tup (r_cons r_int (r_cons r_int r_nil))) r_nil)) (r_cons (r_tup (r_cons (r_tup (r_cons r_int (r_cons r_int (r_cons r_bl r_nil)))) r_nil)) (r_cons (r_tup (r_cons (r_tup (r_cons r_int (r_cons r_int (r_cons r_bl r_nil)))) r_nil)) (r_cons (r_tup (r_cons (r_tup (r_cons (r_neg r_int) (r_cons r_int (r_cons r_bl r_nil)))) r_nil)) r_nil))))))))))) (g_name 5 hN)
 (r_sone (r_expr (r_m_append1 (r_var 4) (r_cons (r_tup (r_cons (r_var 1) (r_cons (r_var 2) (r_cons (r_var 5) r_nil)))) r_nil)))))
 (r_scons (r_for hp hc (i_seq (r_call c_d_law_bad_arcs hr tk (by decide) (.head _) (r_cons (r_tup (r_cons r_int (r_cons r_int (r_cons r_bl r_nil)))) r_nil))) (g_name 5 hN)
 (r_sone (r_expr (r_m_append1 (r_var 4) (r_cons (r_tup (r_cons (r_var 1) (r_cons (r_var 2) (r_cons (r_op s_oAdd (r_biT s_tuple n_tuple (r_cons (r_lc hc hN [("_law_arc", 6)] (i_seq (r_var 3)) (fun _ _ _ _ _ => (g_name 6 hN)) (fun _ _ _ _ _ => (r_tsone (r_tcmp (s_oNe hr.room) (r_cut (r_var 6) r_pno (r_pyes r_int)) (r_tup (r_cons r_int (r_cons r_int r_nil)))))) (fun _ _ _ _ _ => (r_var 6)) gl_name) r_nil)) (r_tup (r_cons (r_var 5) r_nil))) r_nil)))) r_nil)))))
 (r_scons (r_for hp hc (i_seq (r_op s_oAdd (r_call c_d_law_bad_arcs hr tk (by decide) (.head _) (r_cons (r_tup (r_cons r_int (r_cons r_int (r_cons r_bl r_nil)))) r_nil)) (r_lst (r_cons (r_tup (r_cons r_int (r_cons r_int (r_cons r_bl r_nil)))) (r_cons (r_tup (r_cons r_int (r_cons r_int (r_cons r_bl r_nil)))) (r_cons (r_tup (r_cons r_int (r_cons r_int (r_cons r_bl r_nil)))) r_nil)))))) (g_name 5 hN)
 (r_sone (r_expr (r_m_append1 (r_var 4) (r_cons (r_tup (r_cons (r_var 1) (r_cons (r_var 2) (r_cons (r_tup (r_cons (r_var 5) (r_cons (r_tup (r_cons r_int (r_cons r_int (r_cons r_bl r_nil)))) r_nil))) r_nil)))) r_nil)))))
 (r_scons (r_ifs (r_tcmp (s_oNe hr.room) (r_var 3) (r_tup r_nil))
 (r_scons (r_set 7 hN (r_op s_oAdd (r_cut (r_at hr.room (r_var 3) r_int) r_pno (r_pyes r_int)) (r_tup (r_cons (r_notv (r_at hr.room (r_at hr.room (r_var 3) r_int) r_int)) r_nil))))
 (r_sone (r_set 4 hN (r_op s_oAdd (r_var 4) (r_lst (r_cons (r_tup (r_cons (r_var 1) (r_cons (r_var 2) (r_cons (r_op s_oAdd (r_var 3) (r_cut (r_var 3) (r_pyes (r_neg r_int)) r_pno)) r_nil)))) (r_cons (r_tup (r_cons (r_var 1) (r_cons (r_var 2) (r_cons (r_op s_oAdd (r_op s_oAdd (r_cut (r_var 3) r_pno (r_pyes r_int)) (r_tup (r_cons (r_var 7) r_nil))) (r_cut (r_var 3) (r_pyes r_int) r_pno)) r_nil)))) r_nil)))))))
 r_snil)
 (r_scons (r_ifs (r_tcmp s_oGt (r_biB s_len n_len (r_cons (r_var 3) r_nil)) r_int)
 (r_sone (r_expr (r_m_append1 (r_var 4) (r_cons (r_tup (r_cons (r_var 1) (r_cons (r_var 2) (r_cons (r_revT (r_var 3)) r_nil)))) r_nil))))
 r_snil)
 (r_sone (r_ret (r_var 4))))))))))))
theorem sc_check_table : FnScope ["value"] ["value"] (defScope s_check_table) := ⟨rfl, rfl, rfl, by decide +kernel, rfl, by decide +kernel, by decide +kernel⟩
theorem ok_check_table (F : FunD K "check_table" "check_table" (defArgs s_check_table) (defBody s_check_table) (defScope s_check_table) [] [] f fd) (c_d_is_table : FnAt P w K mg base cm 3 "is_table" d_is_table [[]]) (er_InvalidTable : ErrAt P w K mg base cm 1 "InvalidTable" "value" [[]]) : FnG P w K mg base 4 f fd ["value"] (spD K cm 1 d_check_table) := by
  refine FnG.of (N := ["value"]) (ps := ["value"]) (b := b_check_table) F sc_check_table fun cdv A outer s H E hr tk hp => ?_
  have hc : (bodyX P w K mg base ["value"] "check_table" (defScope s_check_table) f cdv A outer s H E).calm = true := rfl
  have hN : (bodyX P w K mg base ["value"] "check_table" (defScope s_check_table) f cdv A outer s H E).N.Nodup := sc_check_table.nd
  exact (r_sone (r_ifs (r_tnot (r_truth (r_call c_d_is_table hr tk (by decide) (.head _) (r_cons (r_var 0) r_nil))))
 (r_sone (r_raise er_InvalidTable (.head _) hr (by decide) hc tk (r_var 0)))
 r_snil))
theorem sc_arcs_of : FnScope ["found", "i", "j"] ["found"] (defScope s_arcs_of) := ⟨rfl, rfl, rfl, by decide +kernel, rfl, by decide +kernel, by decide +kernel⟩
theorem ok_arcs_of (F : FunD K "arcs_of" "arcs_of" (defArgs s_arcs_of) (defBody s_arcs_of) (defScope s_arcs_of) [] [] f fd) (n_int : mg "int" = none) (n_sorted : mg "sorted" = none) (n_tuple : mg "tuple" = none) : FnG P w K mg base 1 f fd ["found"] (spD K cm 1 d_arcs_of) := by
  refine FnG.of (N := ["found", "i", "j"]) (ps := ["found"]) (b := b_arcs_of) F sc_arcs_of fun cdv A outer s H E hr tk hp => ?_
  have hc : (bodyX P w K mg base ["found", "i", "j"] "arcs_of" (defScope s_arcs_of) f cdv A outer s H E).calm = true := rfl
  have hN : (bodyX P w K mg base ["found", "i", "j"] "arcs_of" (defScope s_arcs_of) f cdv A outer s H E).N.Nodup := sc_arcs_of.nd
  exact (r_sone (r_ret (r_biT s_tuple n_tuple (r_cons (r_lc hc hN [("i", 1), ("j", 2)] (i_seq (r_biB (s_sorted hr.room) n_sorted (r_cons (r_lc hc hN [("i", 1), ("j", 2)] (i_seq (r_var 0)) (fun _ _ _ _ _ => (g_tup hc (g_cons (g_name 1 hN) (g_cons (g_name 2 hN) g_nil)))) (fun _ _ _ _ _ => r_tsnil) (fun _ _ _ _ _ => (r_tup (r_cons (r_biT s_int n_int (r_cons (r_var 1) r_nil)) (r_cons (r_biT s_int n_int (r_cons (r_var 2) r_nil)) r_nil)))) (gl_tup (gls_cons gl_name (gls_cons gl_name gls_nil)))) r_nil))) (fun _ _ _ _ _ => (g_tup hc (g_cons (g_name 1 hN) (g_cons (g_name 2 hN) g_nil)))) (fun _ _ _ _ _ => r_tsnil) (fun _ _ _ _ _ => (r_tup (r_cons (r_var 1) (r_cons (r_var 2) (r_cons (r_at hr.room (r_var 0) (r_tup (r_cons (r_var 1) (r_cons (r_var 2) r_nil)))) r_nil))))) (gl_tup (gls_cons gl_name (gls_cons gl_name gls_nil)))) r_nil))))
theorem sc_joined : FnScope ["one", "other", "found", "i", "middle", "falls", "begin", "j", "more"] ["one", "other"] (defScope s_joined) := ⟨rfl, rfl, rfl, by decide +kernel, rfl, by decide +kernel, by decide +kernel⟩
theorem ok_joined (F : FunD K "joined" "joined" (defArgs s_joined) (defBody s_joined) (defScope s_joined) [] [] f fd) (c_d_arcs_of : FnAt P w K mg base cm 1 "arcs_of" d_arcs_of [[]]) : FnG P w K mg base 2 f fd ["one", "other"] (spD K cm 2 d_joined) := by
  refine FnG.of (N := ["one", "other", "found", "i", "middle", "falls", "begin", "j", "more"]) (ps := ["one", "other"]) (b := b_joined) F sc_joined fun cdv A outer s H E hr tk hp => ?_
  have hc : (bodyX P w K mg base ["one", "other", "found", "i", "middle", "falls", "begin", "j", "more"] "joined" (defScope s_joined) f cdv A outer s H E).calm = true := rfl
  have hN : (bodyX P w K mg base ["one", "other", "found", "i", "middle", "falls", "begin", "j", "more"] "joined" (defScope s_joined) f cdv A outer s H E).N.Nodup := sc_joined.nd
  exact (r_scons (r_set 2 hN r_dT)
 (r_scons (r_for hp hc (i_seq (r_at hr.room (r_var 0) r_int)) (g_tup hc (g_cons (g_name 3 hN) (g_cons (g_name 4 hN) (g_cons (g_name 5 hN) g_nil))))
 (r_sone (r_for hp hc (i_seq (r_at hr.room (r_var 1) r_int)) (g_tup hc (g_cons (g_name 6 hN) (g_cons (g_name 7 hN) (g_cons (g_name 8 hN) g_nil))))
 (r_sone (r_ifs (r_tcmp (s_oEq hr.room) (r_var 6) (r_var 4))
 (r_sone (r_sub hr.room (r_var 2) (r_tup (r_cons (r_var 3) (r_cons (r_var 7) r_nil))) (r_or (r_get2 hr.room (r_var 2) (r_tup (r_cons (r_var 3) (r_cons (r_var 7) r_nil))) r_bl) (r_or (r_var 5) (r_one (r_var 8))))))
 r_snil)))))
 (r_sone (r_ret (r_tup (r_cons (r_at hr.room (r_var 0) r_int) (r_cons (r_at hr.room (r_var 1) r_int) (r_cons (r_call c_d_arcs_of hr tk (by decide) (.head _) (r_cons (r_var 2) r_nil)) r_nil))))))))
theorem sc_falls_around : FnScope ["table", "found", "turn", "arc"] ["table"] (defScope s_falls_around) := ⟨rfl, rfl, rfl, by decide +kernel, rfl, by decide +kernel, by decide +kernel⟩
theorem ok_falls_around (F : FunD K "falls_around" "falls_around" (defArgs s_falls_around) (defBody s_falls_around) (defScope s_falls_around) [] [] f fd) (g_MOST_MEASURES : GlobC K mg "MOST_MEASURES" (.int 3)) (n_range : mg "range" = none) (c_d_joined : FnAt P w K mg base cm 2 "joined" d_joined [[]]) : FnG P w K mg base 3 f fd ["table"] (spD K cm 1 d_falls_around) := by
  refine FnG.of (N := ["table", "found", "turn", "arc"]) (ps := ["table"]) (b := b_falls_around) F sc_falls_around fun cdv A outer s H E hr tk hp => ?_
  have hc : (bodyX P w K mg base ["table", "found", "turn", "arc"] "falls_around" (defScope s_falls_around) f cdv A outer s H E).calm = true := rfl
  have hN : (bodyX P w K mg base ["table", "found", "turn", "arc"] "falls_around" (defScope s_falls_around) f cdv A outer s H E).N.Nodup := sc_falls_around.nd
  exact (r_scons (r_set 1 hN (r_var 0))
 (r_scons (r_for hp hc (i_range1 n_range (r_glob g_MOST_MEASURES)) (g_name 2 hN)
 (r_scons (r_ifs (r_tcmp (s_oNe hr.room) (r_lc hc hN [("arc", 3)] (i_seq (r_at hr.room (r_var 1) r_int)) (fun _ _ _ _ _ => (g_name 3 hN)) (fun _ _ _ _ _ => (r_tsone (r_tw (r_wand (r_tcmp (s_oEq hr.room) (r_at hr.room (r_var 3) r_int) (r_at hr.room (r_var 3) r_int)) (r_wand1 (r_truth (r_at hr.room (r_var 3) r_int))))))) (fun _ _ _ _ _ => (r_var 3)) gl_name) (r_lst r_nil))
 (r_sone (r_ret r_bl))
 r_snil)
 (r_sone (r_set 1 hN (r_call c_d_joined hr tk (by decide) (.head _) (r_cons (r_var 1) (r_cons (r_var 0) r_nil)))))))
 (r_sone (r_ret r_bl))))
theorem sc_has_fall : FnScope ["table"] ["table"] (defScope s_has_fall) := ⟨rfl, rfl, rfl, by decide +kernel, rfl, by decide +kernel, by decide +kernel⟩
theorem ok_has_fall (F : FunD K "has_fall" "has_fall" (defArgs s_has_fall) (defBody s_has_fall) (defScope s_has_fall) [] [] f fd) (c_d_check_table : FnAt P w K mg base cm 4 "check_table" d_check_table [[]]) (c_d_falls_around : FnAt P w K mg base cm 3 "falls_around" d_falls_around [[]]) : FnG P w K mg base 5 f fd ["table"] (spD K cm 1 d_has_fall) := by
  refine FnG.of (N := ["table"]) (ps := ["table"]) (b := b_has_fall) F sc_has_fall fun cdv A outer s H E hr tk hp => ?_
  have hc : (bodyX P w K mg base ["table"] "has_fall" (defScope s_has_fall) f cdv A outer s H E).calm = true := rfl
  have hN : (bodyX P w K mg base ["table"] "has_fall" (defScope s_has_fall) f cdv A outer s H E).N.Nodup := sc_has_fall.nd
  exact (r_scons (r_expr (r_call c_d_check_table hr tk (by decide) (.head _) (r_cons (r_var 0) r_nil)))
 (r_sone (r_ret (r_and (r_cmp (s_oEq hr.room) (r_at hr.room (r_var 0) r_int) (r_at hr.room (r_var 0) r_int)) (r_one (r_call c_d_falls_around hr tk (by decide) (.head _) (r_cons (r_var 0) r_nil)))))))
theorem sc_check_whole : FnScope ["value", "least", "most"] ["value", "least", "most"] (defScope s_check_whole) := ⟨rfl, rfl, rfl, by decide +kernel, rfl, by decide +kernel, by decide +kernel⟩
theorem ok_check_whole (F : FunD K "check_whole" "check_whole" (defArgs s_check_whole) (defBody s_check_whole) (defScope s_check_whole) [(.non)] [] f fd) (c_d_is_whole : FnAt P w K mg base cm 1 "is_whole" d_is_whole [[]]) (er_InvalidNumber : ErrAt P w K mg base cm 1 "InvalidNumber" "value" [[]]) : FnG P w K mg base 3 f fd ["value", "least", "most"] (spD K cm 3 d_check_whole) := by
  refine FnG.of (N := ["value", "least", "most"]) (ps := ["value", "least", "most"]) (b := b_check_whole) F sc_check_whole fun cdv A outer s H E hr tk hp => ?_
  have hc : (bodyX P w K mg base ["value", "least", "most"] "check_whole" (defScope s_check_whole) f cdv A outer s H E).calm = true := rfl
  have hN : (bodyX P w K mg base ["value", "least", "most"] "check_whole" (defScope s_check_whole) f cdv A outer s H E).N.Nodup := sc_check_whole.nd
  exact (r_sone (r_ifs (r_tw (r_wor (r_tnot (r_truth (r_call c_d_is_whole hr tk (by decide) (.head _) (r_cons (r_var 0) r_nil)))) (r_wor (r_tcmp s_oLt (r_var 0) (r_var 1)) (r_wor1 (r_tw (r_wand (r_tnotN (r_var 2)) (r_wand1 (r_tcmp s_oGt (r_var 0) (r_var 2)))))))))
 (r_sone (r_raise er_InvalidNumber (.head _) hr (by decide) hc tk (r_var 0)))
 r_snil))
theorem sc_power : FnScope ["table", "count", "found", "base", "left"] ["table", "count"] (defScope s_power) := ⟨rfl, rfl, rfl, by decide +kernel, rfl, by decide +kernel, by decide +kernel⟩
theorem ok_power (F : FunD K "power" "power" (defArgs s_power) (defBody s_power) (defScope s_power) [] [] f fd) (c_d_check_table : FnAt P w K mg base cm 4 "check_table" d_check_table [[]]) (er_InvalidTable : ErrAt P w K mg base cm 1 "InvalidTable" "value" [[]]) (c_d_check_whole : FnAt P w K mg base cm 3 "check_whole" d_check_whole [[], [.non]]) (c_d_joined : FnAt P w K mg base cm 2 "joined" d_joined [[]]) : FnG P w K mg base 5 f fd ["table", "count"] (spD K cm 2 d_power) := by
  refine FnG.of (N := ["table", "count", "found", "base", "left"]) (ps := ["table", "count"]) (b := b_power) F sc_power fun cdv A outer s H E hr tk hp => ?_
  have hc : (bodyX P w K mg base ["table", "count", "found", "base", "left"] "power" (defScope s_power) f cdv A outer s H E).calm = true := rfl
  have hN : (bodyX P w K mg base ["table", "count", "found", "base", "left"] "power" (defScope s_power) f cdv A outer s H E).N.Nodup := sc_power.nd
  exact (r_scons (r_expr (r_call c_d_check_table hr tk (by decide) (.head _) (r_cons (r_var 0) r_nil)))
 (r_scons (r_ifs (r_tcmp (s_oNe hr.room) (r_at hr.room (r_var 0) r_int) (r_at hr.room (r_var 0) r_int))
 (r_sone (r_raise er_InvalidTable (.head _) hr (by decide) hc tk (r_var 0)))
 r_snil)
 (r_scons (r_expr (r_call c_d_check_whole hr tk (by decide) (.tail _ (.head _)) (r_cons (r_var 1) (r_cons r_int r_nil))))
 (r_scons (r_par3 2 3 4 hc hN (r_cons r_non (r_cons (r_var 0) (r_cons (r_var 1) r_nil))))
 (r_scons (r_while hp (r_tcmp s_oGt (r_var 4) r_int)
 (r_scons (r_ifs (r_tcmp (s_oEq hr.room) (r_op s_oMod (r_var 4) r_int) r_int)
 (r_sone (r_set 2 hN (r_if (r_tisN (r_var 2)) (r_var 3) (r_call c_d_joined hr tk (by decide) (.head _) (r_cons (r_var 2) (r_cons (r_var 3) r_nil))))))
 r_snil)
 (r_sone (r_par 3 4 hc hN (r_cons (r_call c_d_joined hr tk (by decide) (.head _) (r_cons (r_var 3) (r_cons (r_var 3) r_nil))) (r_cons (r_op s_oDiv (r_var 4) r_int) r_nil))))))
 (r_sone (r_ret (r_var 2))))))))
theorem sc_product : FnScope ["one", "other"] ["one", "other"] (defScope s_product) := ⟨rfl, rfl, rfl, by decide +kernel, rfl, by decide +kernel, by decide +kernel⟩
theorem ok_product (F : FunD K "product" "product" (defArgs s_product) (defBody s_product) (defScope s_product) [] [] f fd) (c_d_check_table : FnAt P w K mg base cm 4 "check_table" d_check_table [[]]) (er_InvalidTable : ErrAt P w K mg base cm 1 "InvalidTable" "value" [[]]) (c_d_joined : FnAt P w K mg base cm 2 "joined" d_joined [[]]) : FnG P w K mg base 5 f fd ["one", "other"] (spD K cm 2 d_product) := by
  refine FnG.of (N := ["one", "other"]) (ps := ["one", "other"]) (b := b_product) F sc_product fun cdv A outer s H E hr tk hp => ?_
  have hc : (bodyX P w K mg base ["one", "other"] "product" (defScope s_product) f cdv A outer s H E).calm = true := rfl
  have hN : (bodyX P w K mg base ["one", "other"] "product" (defScope s_product) f cdv A outer s H E).N.Nodup := sc_product.nd
  exact (r_scons (r_expr (r_call c_d_check_table hr tk (by decide) (.head _) (r_cons (r_var 0) r_nil)))
 (r_scons (r_expr (r_call c_d_check_table hr tk (by decide) (.head _) (r_cons (r_var 1) r_nil)))
 (r_scons (r_ifs (r_tcmp (s_oNe hr.room) (r_at hr.room (r_var 0) r_int) (r_at hr.room (r_var 1) r_int))
 (r_sone (r_raise er_InvalidTable (.head _) hr (by decide) hc tk (r_var 1)))
 r_snil)
 (r_sone (r_ret (r_call c_d_joined hr tk (by decide) (.head _) (r_cons (r_var 0) (r_cons (r_var 1) r_nil))))))))
theorem sc_law_caught : FnScope ["_law_door", "_law_one", "_law_other", "_law_caught_here", "error"] ["_law_door", "_law_one", "_law_other"] (defScope s_law_caught) := ⟨rfl, rfl, rfl, by decide +kernel, rfl, by decide +kernel, by decide +kernel⟩
theorem ok_law_caught (F : FunD K "_law_caught" "_law_caught" (defArgs s_law_caught) (defBody s_law_caught) (defScope s_law_caught) [] [] f fd) (c_d_has_fall : FnAt P w K mg base cm 5 "has_fall" d_has_fall [[]]) (c_d_power : FnAt P w K mg base cm 5 "power" d_power [[]]) (c_d_product : FnAt P w K mg base cm 5 "product" d_product [[]]) (ct_CallsError : CatAt K cm mg "CallsError" ["CallsError", "InvalidTable", "InvalidNumber"]) (nf_value : FldOk K cm "value") (n_isinstance : mg "isinstance" = none) (n_list : mg "list" = none) (so : SysOk K) (n_repr : mg "repr" = none) (i_InvalidNumber : IsCJ K cm mg "InvalidNumber" ["InvalidNumber"]) (i_InvalidTable : IsCJ K cm mg "InvalidTable" ["InvalidTable"]) : FnG P w K mg base 6 f fd ["_law_door", "_law_one", "_law_other"] (spD K cm 3 d_law_caught) := by
  refine FnG.of (N := ["_law_door", "_law_one", "_law_other", "_law_caught_here", "error"]) (ps := ["_law_door", "_law_one", "_law_other"]) (b := b_law_caught) F sc_law_caught fun cdv A outer s H E hr tk hp => ?_
  have hc : (bodyX P w K mg base ["_law_door", "_law_one", "_law_other", "_law_caught_here", "error"] "_law_caught" (defScope s_law_caught) f cdv A outer s H E).calm = true := rfl
  have hN : (bodyX P w K mg base ["_law_door", "_law_one", "_law_other", "_law_caught_here", "error"] "_law_caught" (defScope s_law_caught) f cdv A outer s H E).N.Nodup := sc_law_caught.nd
  exact (r_scons (r_set 3 hN r_non)
 (r_scons (r_tryE ct_CallsError rfl rfl rfl hN tk (fun W pn xe tk hp => (r_sone (r_ifs (r_tcmp (s_oEq hr.room) (r_var 0) r_int)
 (r_sone (r_expr (r_call c_d_has_fall hr tk (by decide) (.head _) (r_cons (r_var 1) r_nil))))
 (r_sone (r_ifs (r_tcmp (s_oEq hr.room) (r_var 0) r_int)
 (r_sone (r_expr (r_call c_d_power hr tk (by decide) (.head _) (r_cons (r_var 1) (r_cons (r_var 2) r_nil)))))
 (r_sone (r_expr (r_call c_d_product hr tk (by decide) (.head _) (r_cons (r_var 1) (r_cons (r_var 2) r_nil)))))))))))
 (r_scons (r_ifs (r_tisN (r_var 3))
 (r_sone (r_ret r_non))
 r_snil)
 (r_scons (r_ifs (r_truth (r_is (r_fld nf_value (r_var 3)) n_isinstance n_list))
 (r_sone (r_expr (r_m_append1 (r_fld nf_value (r_var 3)) (r_cons r_str r_nil))))
 r_snil)
 (r_sone (r_ret (r_lst (r_cons (r_isJ i_InvalidTable (r_var 3) n_isinstance) (r_cons (r_isJ i_InvalidNumber (r_var 3) n_isinstance) (r_cons (r_biB (s_reprR hr so) n_repr (r_cons (r_fld nf_value (r_var 3)) r_nil)) r_nil))))))))))
theorem sc_law_refused : FnScope ["_law_table", "_law_far", "_law_bad", "_law_door", "_law_one", "_law_other"] ["_law_table", "_law_far"] (defScope s_law_refused) := ⟨rfl, rfl, rfl, by decide +kernel, rfl, by decide +kernel, by decide +kernel⟩
theorem ok_law_refused (F : FunD K "_law_refused" "_law_refused" (defArgs s_law_refused) (defBody s_law_refused) (defScope s_law_refused) [] [] f fd) (c_d_law_bent : FnAt P w K mg base cm 2 "_law_bent" d_law_bent [[]]) (so : SysOk K) (c_d_is_table : FnAt P w K mg base cm 3 "is_table" d_is_table [[]]) (n_repr : mg "repr" = none) (n_range : mg "range" = none) (c_d_law_caught : FnAt P w K mg base cm 6 "_law_caught" d_law_caught [[]]) : FnG P w K mg base 7 f fd ["_law_table", "_law_far"] (spD K cm 2 d_law_refused) := by
  refine FnG.of (N := ["_law_table", "_law_far", "_law_bad", "_law_door", "_law_one", "_law_other"]) (ps := ["_law_table", "_law_far"]) (b := b_law_refused) F sc_law_refused fun cdv A outer s H E hr tk hp => ?_
  have hc : (bodyX P w K mg base ["_law_table", "_law_far", "_law_bad", "_law_door", "_law_one", "_law_other"] "_law_refused" (defScope s_law_refused) f cdv A outer s H E).calm = true := rfl
  have hN : (bodyX P w K mg base ["_law_table", "_law_far", "_law_bad", "_law_door", "_law_one", "_law_other"] "_law_refused" (defScope s_law_refused) f cdv A outer s H E).N.Nodup := sc_law_refused.nd
  exact (r_scons (r_for hp hc (i_seq (r_call c_d_law_bent hr tk (by decide) (.head _) (r_cons (r_var 0) r_nil))) (g_name 2 hN)
 (r_scons (r_ifs (r_tcmp (s_oNe hr.room) (r_biB (s_reprR hr so) n_repr (r_cons (r_call c_d_is_table hr tk (by decide) (.head _) (r_cons (r_var 2) r_nil)) r_nil)) r_str)
 (r_sone (r_ret r_bl))
 r_snil)
 (r_scons (r_for hp hc (i_range1 n_range r_int) (g_name 3 hN)
 (r_sone (r_ifs (r_tcmp (s_oNe hr.room) (r_call c_d_law_caught hr tk (by decide) (.head _) (r_cons (r_var 3) (r_cons (r_var 2) (r_cons r_non r_nil)))) (r_lst (r_cons r_bl (r_cons r_bl (r_cons (r_biB (s_reprR hr so) n_repr (r_cons (r_var 2) r_nil)) r_nil)))))
 (r_sone (r_ret r_bl))
 r_snil)))
 (r_sone (r_for hp hc (i_seq (r_lst (r_cons (r_tup (r_cons (r_var 2) (r_cons r_non r_nil))) (r_cons (r_tup (r_cons (r_var 0) (r_cons (r_var 2) r_nil))) (r_cons (r_tup (r_cons (r_var 2) (r_cons (r_var 2) r_nil))) (r_cons (r_tup (r_cons (r_var 2) (r_cons (r_var 0) r_nil))) r_nil)))))) (g_tup hc (g_cons (g_name 4 hN) (g_cons (g_name 5 hN) g_nil)))
 (r_sone (r_ifs (r_tcmp (s_oNe hr.room) (r_call c_d_law_caught hr tk (by decide) (.head _) (r_cons r_int (r_cons (r_var 4) (r_cons (r_var 5) r_nil)))) (r_lst (r_cons r_bl (r_cons r_bl (r_cons (r_biB (s_reprR hr so) n_repr (r_cons (r_var 2) r_nil)) r_nil)))))
 (r_sone (r_ret r_bl))
 r_snil)))))))
 (r_scons (r_ifs (r_tw (r_wor (r_tcmp (s_oNe hr.room) (r_call c_d_law_caught hr tk (by decide) (.head _) (r_cons r_int (r_cons (r_var 0) (r_cons (r_var 1) r_nil)))) (r_lst (r_cons r_bl (r_cons r_bl (r_cons (r_biB (s_reprR hr so) n_repr (r_cons (r_var 1) r_nil)) r_nil))))) (r_wor1 (r_tcmp (s_oNe hr.room) (r_call c_d_law_caught hr tk (by decide) (.head _) (r_cons r_int (r_cons (r_var 1) (r_cons r_non r_nil)))) (r_lst (r_cons r_bl (r_cons r_bl (r_cons (r_biB (s_reprR hr so) n_repr (r_cons (r_var 1) r_nil)) r_nil))))))))
 (r_sone (r_ret r_bl))
 r_snil)
 (r_scons (r_for hp hc (i_seq (r_lst (r_cons r_non (r_cons r_int (r_cons (r_neg r_int) (r_cons r_bl (r_cons r_str (r_cons (r_lst (r_cons r_int r_nil)) (r_cons (r_tup (r_cons r_int r_nil)) (r_cons r_dK r_nil)))))))))) (g_name 2 hN)
 (r_sone (r_ifs (r_tcmp (s_oNe hr.room) (r_call c_d_law_caught hr tk (by decide) (.head _) (r_cons r_int (r_cons (r_var 0) (r_cons (r_var 2) r_nil)))) (r_lst (r_cons r_bl (r_cons r_bl (r_cons (r_biB (s_reprR hr so) n_repr (r_cons (r_var 2) r_nil)) r_nil)))))
 (r_sone (r_ret r_bl))
 r_snil)))
 (r_scons (r_ifs (r_tw (r_wor (r_tnotN (r_call c_d_law_caught hr tk (by decide) (.head _) (r_cons r_int (r_cons (r_var 1) (r_cons r_non r_nil))))) (r_wor1 (r_tnotN (r_call c_d_law_caught hr tk (by decide) (.head _) (r_cons r_int (r_cons (r_var 0) (r_cons r_int r_nil))))))))
 (r_sone (r_ret r_bl))
 r_snil)
 (r_scons (r_ifs (r_tcmp (s_oNe hr.room) (r_call c_d_law_caught hr tk (by decide) (.head _) (r_cons r_int (r_cons (r_var 1) (r_cons (r_var 1) r_nil)))) (r_lst (r_cons r_bl (r_cons r_bl (r_cons (r_biB (s_reprR hr so) n_repr (r_cons (r_var 1) r_nil)) r_nil)))))
 (r_sone (r_ret r_bl))
 r_snil)
 (r_scons (r_ifs (r_tw (r_wand (r_tcmp (s_oNe hr.room) (r_at hr.room (r_var 1) r_int) (r_at hr.room (r_var 0) r_int)) (r_wand1 (r_tcmp (s_oNe hr.room) (r_call c_d_law_caught hr tk (by decide) (.head _) (r_cons r_int (r_cons (r_var 1) (r_cons (r_var 0) r_nil)))) (r_lst (r_cons r_bl (r_cons r_bl (r_cons (r_biB (s_reprR hr so) n_repr (r_cons (r_var 0) r_nil)) r_nil))))))))
 (r_sone (r_ret r_bl))
 r_snil)
 (r_sone (r_ret (r_isN (r_call c_d_law_caught hr tk (by decide) (.head _) (r_cons r_int (r_cons (r_var 0) (r_cons (r_var 0) r_nil)))))))))))))
theorem sc_law : FnScope ["_law_script", "_law_index", "_law_generator_here", "_law_title_here", "_law_arcs_here", "_law_table", "_law_other", "_law_far"] ["_law_script"] (defScope s_law) := ⟨rfl, rfl, rfl, by decide +kernel, rfl, by decide +kernel, by decide +kernel⟩
theorem ok_law (F : FunD K "law" "law" (defArgs s_law) (defBody s_law) (defScope s_law) [] [] f fd) (n_range : mg "range" = none) (c_d_law_generator : FnAt P w K mg base cm 2 "_law_generator" d_law_generator [[]]) (c_d_law_title : FnAt P w K mg base cm 3 "_law_title" d_law_title [[]]) (c_d_law_random : FnAt P w K mg base cm 2 "_law_random" d_law_random [[]]) (c_d_law_arcs : FnAt P w K mg base cm 3 "_law_arcs" d_law_arcs [[]]) (c_d_law_grid : FnAt P w K mg base cm 1 "_law_grid" d_law_grid [[]]) (c_d_law_listed : FnAt P w K mg base cm 1 "_law_listed" d_law_listed [[]]) (n_int : mg "int" = none) (so : SysOk K) (c_d_is_table : FnAt P w K mg base cm 3 "is_table" d_is_table [[]]) (n_repr : mg "repr" = none) (c_d_law_refused : FnAt P w K mg base cm 7 "_law_refused" d_law_refused [[]]) : FnG P w K mg base 8 f fd ["_law_script"] (spD K cm 1 d_law) := by
  refine FnG.of (N := ["_law_script", "_law_index", "_law_generator_here", "_law_title_here", "_law_arcs_here", "_law_table", "_law_other", "_law_far"]) (ps := ["_law_script"]) (b := b_law) F sc_law fun cdv A outer s H E hr tk hp => ?_
  have hc : (bodyX P w K mg base ["_law_script", "_law_index", "_law_generator_here", "_law_title_here", "_law_arcs_here", "_law_table", "_law_other", "_law_far"] "law" (defScope s_law) f cdv A outer s H E).calm = true := rfl
  have hN : (bodyX P w K mg base ["_law_script", "_law_index", "_law_generator_here", "_law_title_here", "_law_arcs_here", "_law_table", "_law_other", "_law_far"] "law" (defScope s_law) f cdv A outer s H E).N.Nodup := sc_law.nd
  exact (r_scons (r_for hp hc (i_range1 n_range r_int) (g_name 1 hN)
 (r_scons (r_set 2 hN (r_call c_d_law_generator hr tk (by decide) (.head _) (r_cons (r_var 0) (r_cons (r_var 1) r_nil))))
 (r_scons (r_set 3 hN (r_call c_d_law_title hr tk (by decide) (.head _) (r_cons (r_var 2) (r_cons r_int r_nil))))
 (r_scons (r_set 4 hN (r_call c_d_law_listed hr tk (by decide) (.head _) (r_cons (r_call c_d_law_grid hr tk (by decide) (.head _) (r_cons (r_call c_d_law_arcs hr tk (by decide) (.head _) (r_cons (r_var 2) (r_cons r_int (r_cons r_int (r_cons (r_op s_oAdd r_int (r_call c_d_law_random hr tk (by decide) (.head _) (r_cons (r_var 2) (r_cons r_int r_nil)))) r_nil))))) r_nil)) r_nil)))
 (r_scons (r_set 5 hN (r_tup (r_cons (r_var 3) (r_cons (r_var 3) (r_cons (r_var 4) r_nil)))))
 (r_scons (r_set 6 hN (r_call c_d_law_title hr tk (by decide) (.head _) (r_cons (r_var 2) (r_cons r_int r_nil))))
 (r_scons (r_set 7 hN (r_tup (r_cons (r_at hr.room (r_lst (r_cons (r_var 6) (r_cons (r_op s_oMulS r_str r_int) r_nil))) (r_biT s_int n_int (r_cons (r_cmp (s_oEq hr.room) (r_var 6) (r_var 3)) r_nil))) (r_cons (r_op s_oAdd (r_cut (r_var 3) r_pno (r_pyes r_int)) r_str) (r_cons (r_var 4) r_nil)))))
 (r_scons (r_ifs (r_tw (r_wor (r_tcmp (s_oEq hr.room) (r_at hr.room (r_var 7) r_int) (r_var 3)) (r_wor1 (r_tcmp (s_oEq hr.room) (r_at hr.room (r_var 7) r_int) (r_at hr.room (r_var 7) r_int)))))
 (r_sone (r_set 7 hN (r_tup (r_cons r_str (r_cons r_str (r_cons (r_var 4) r_nil))))))
 r_snil)
 (r_scons (r_ifs (r_tcmp (s_oNe hr.room) (r_biB (s_reprR hr so) n_repr (r_cons (r_lst (r_cons (r_call c_d_is_table hr tk (by decide) (.head _) (r_cons (r_var 5) r_nil)) (r_cons (r_call c_d_is_table hr tk (by decide) (.head _) (r_cons (r_var 7) r_nil)) (r_cons (r_call c_d_is_table hr tk (by decide) (.head _) (r_cons (r_tup (r_cons (r_var 3) (r_cons (r_var 6) (r_cons (r_tup r_nil) r_nil)))) r_nil)) r_nil)))) r_nil)) (r_biB (s_reprR hr so) n_repr (r_cons (r_op s_oMul (r_lst (r_cons r_bl r_nil)) r_int) r_nil)))
 (r_sone (r_ret r_bl))
 r_snil)
 (r_sone (r_ifs (r_tw (r_wand (r_tcmp (s_oNe hr.room) (r_at hr.room (r_var 7) r_int) (r_var 3)) (r_wand1 (r_tnot (r_truth (r_call c_d_law_refused hr tk (by decide) (.head _) (r_cons (r_var 5) (r_cons (r_var 7) r_nil))))))))
 (r_sone (r_ret r_bl))
 r_snil)))))))))))
 (r_sone (r_ret r_bl)))
end
def e_law_cell : He.DefD := ⟨("_law_cell", none), "_law_cell", "_law_cell", defArgs s_law_cell, defBody s_law_cell, defScope s_law_cell, [], []⟩
def e_law_generator : He.DefD := ⟨("_law_generator", none), "_law_generator", "_law_generator", defArgs s_law_generator, defBody s_law_generator, defScope s_law_generator, [], []⟩
def e_law_hash : He.DefD := ⟨("_law_hash", none), "_law_hash", "_law_hash", defArgs s_law_hash, defBody s_law_hash, defScope s_law_hash, [], []⟩
def e_law_random : He.DefD := ⟨("_law_random", none), "_law_random", "_law_random", defArgs s_law_random, defBody s_law_random, defScope s_law_random, [], []⟩
def e_law_title : He.DefD := ⟨("_law_title", none), "_law_title", "_law_title", defArgs s_law_title, defBody s_law_title, defScope s_law_title, [], []⟩
def e_law_arcs : He.DefD := ⟨("_law_arcs", none), "_law_arcs", "_law_arcs", defArgs s_law_arcs, defBody s_law_arcs, defScope s_law_arcs, [], []⟩
def e_law_grid : He.DefD := ⟨("_law_grid", none), "_law_grid", "_law_grid", defArgs s_law_grid, defBody s_law_grid, defScope s_law_grid, [], []⟩
def e_law_listed : He.DefD := ⟨("_law_listed", none), "_law_listed", "_law_listed", defArgs s_law_listed, defBody s_law_listed, defScope s_law_listed, [], []⟩
def e_is_name : He.DefD := ⟨("is_name", none), "is_name", "is_name", defArgs s_is_name, defBody s_is_name, defScope s_is_name, [], []⟩
def e_is_whole : He.DefD := ⟨("is_whole", none), "is_whole", "is_whole", defArgs s_is_whole, defBody s_is_whole, defScope s_is_whole, [], []⟩
def e_is_arc : He.DefD := ⟨("is_arc", none), "is_arc", "is_arc", defArgs s_is_arc, defBody s_is_arc, defScope s_is_arc, [], []⟩
def e_is_table : He.DefD := ⟨("is_table", none), "is_table", "is_table", defArgs s_is_table, defBody s_is_table, defScope s_is_table, [], []⟩
def e_law_bad_arcs : He.DefD := ⟨("_law_bad_arcs", none), "_law_bad_arcs", "_law_bad_arcs", defArgs s_law_bad_arcs, defBody s_law_bad_arcs, defScope s_law_bad_arcs, [], []⟩
def e_law_bent : He.DefD := ⟨("_law_bent", none), "_law_bent", "_law_bent", defArgs s_law_bent, defBody s_law_bent, defScope s_law_bent, [], []⟩
def e_check_table : He.DefD := ⟨("check_table", none), "check_table", "check_table", defArgs s_check_table, defBody s_check_table, defScope s_check_table, [], []⟩
def e_arcs_of : He.DefD := ⟨("arcs_of", none), "arcs_of", "arcs_of", defArgs s_arcs_of, defBody s_arcs_of, defScope s_arcs_of, [], []⟩
def e_joined : He.DefD := ⟨("joined", none), "joined", "joined", defArgs s_joined, defBody s_joined, defScope s_joined, [], []⟩
def e_falls_around : He.DefD := ⟨("falls_around", none), "falls_around", "falls_around", defArgs s_falls_around, defBody s_falls_around, defScope s_falls_around, [], []⟩
def e_has_fall : He.DefD := ⟨("has_fall", none), "has_fall", "has_fall", defArgs s_has_fall, defBody s_has_fall, defScope s_has_fall, [], []⟩
def e_check_whole : He.DefD := ⟨("check_whole", none), "check_whole", "check_whole", defArgs s_check_whole, defBody s_check_whole, defScope s_check_whole, [(.non)], []⟩
def e_power : He.DefD := ⟨("power", none), "power", "power", defArgs s_power, defBody s_power, defScope s_power, [], []⟩
def e_product : He.DefD := ⟨("product", none), "product", "product", defArgs s_product, defBody s_product, defScope s_product, [], []⟩
def e_law_caught : He.DefD := ⟨("_law_caught", none), "_law_caught", "_law_caught", defArgs s_law_caught, defBody s_law_caught, defScope s_law_caught, [], []⟩
def e_law_refused : He.DefD := ⟨("_law_refused", none), "_law_refused", "_law_refused", defArgs s_law_refused, defBody s_law_refused, defScope s_law_refused, [], []⟩
def e_law : He.DefD := ⟨("law", none), "law", "law", defArgs s_law, defBody s_law, defScope s_law, [], []⟩
def fn : List He.DefD := [e_law_cell, e_law_generator, e_law_hash, e_law_random, e_law_title, e_law_arcs, e_law_grid, e_law_listed, e_is_name, e_is_whole, e_is_arc, e_is_table, e_law_bad_arcs, e_law_bent, e_check_table, e_arcs_of, e_joined, e_falls_around, e_has_fall, e_check_whole, e_power, e_product, e_law_caught, e_law_refused, e_law]
def fa : List He.Fa := [.free "len", .free "int", .free "max", .free "range", .free "tuple", .free "isinstance", .free "str", .free "bool", .free "sorted", .free "set", .free "list", .free "repr", .int "MOST_LETTERS" (12), .str "LETTERS" "abcdefghijklmnopqrstuvwxyz", .int "MOST_MEASURES" (3), .free "super", .glo "_law_cell", .glo "_law_generator", .glo "_law_hash", .glo "_law_random", .glo "_law_title", .glo "_law_arcs", .glo "_law_grid", .glo "_law_listed", .glo "is_name", .glo "is_whole", .glo "is_arc", .glo "is_table", .glo "_law_bad_arcs", .glo "_law_bent", .glo "check_table", .glo "arcs_of", .glo "joined", .glo "falls_around", .glo "has_fall", .glo "check_whole", .glo "power", .glo "product", .glo "_law_caught", .glo "_law_refused", .glo "law"]
abbrev R : PySem.W.OpenRow := PySem.W.OpenLaw.row PySem.Challenge.rw_fallingcalls_k20_tables_told
abbrev ex1 : PySem.W.Frag → Bool := exB [] [("InvalidNumber", ["InvalidNumber"]), ("InvalidTable", ["InvalidTable"])] [] ["value"] []
def ed_InvalidTable : EDef := ⟨"InvalidTable", "value", "__init__", "InvalidTable.__init__", defArgs (inClass (top 2) 0), defBody (inClass (top 2) 0), defScope (inClass (top 2) 0)⟩
def ed_InvalidNumber : EDef := ⟨"InvalidNumber", "value", "__init__", "InvalidNumber.__init__", defArgs (inClass (top 3) 0), defBody (inClass (top 3) 0), defScope (inClass (top 3) 0)⟩
def ed : List EDef := [ed_InvalidTable, ed_InvalidNumber]
abbrev ex : PySem.W.Frag → Bool := fun K => ex1 K && (ex2B ["InvalidTable", "InvalidNumber"] [("InvalidNumber", ["InvalidNumber"]), ("InvalidTable", ["InvalidTable"])] [("CallsError", ["CallsError", "InvalidTable", "InvalidNumber"])] ["value"] K && (ed.all (errB R.prog.main.file K) && sysB K))
abbrev hk : PySem.W.Hook := hookE 4 fa fn ed ex
def ob (s : PySem.W.SharedT) : AlE := obsE 4 fa fn ed ex (HandSHeadRun.getT s)
theorem ob_eq (s : PySem.W.SharedT) : ob s = hk.obs s.abs := obsE_eq (HandSHeadRun.getT_eq s)
abbrev loose : List Str := (["CallsError", "InvalidTable", "InvalidNumber", "LETTERS", "MOST_LETTERS", "MOST_MEASURES", "is_whole", "is_name", "check_whole", "is_arc", "is_table", "check_table", "arcs_of", "joined", "product", "power", "falls_around", "has_fall", "_law_cell", "_law_hash"] : List Str) ++ (["_law_generator", "_law_random", "_law_title", "_law_grid", "_law_listed", "_law_bad_arcs", "_law_arcs", "_law_caught", "_law_bent", "_law_refused"] : List Str)
theorem run (w : World) : HandSHeadRun.RunEq R (PySem.W.view R.prog [34]) hk ob 6000 loose w := by
  intro os
  kernel_rfl
def cmK (K : PySem.W.Frag) (w : World) : CM := cm2 K [] ["InvalidTable", "InvalidNumber"] w
theorem facts {P : Program} {w : World} {K : PySem.W.Frag} {h : Heap} {mg : Str → Option Value} {f : Addr} (X : K.In h) (G : h.Ns mainGlobals mg) (hfa : mg ("law" : Str) = some (.ref f)) (c : He.SaysD fa fn K) (cx : ex K = true) (ce : (ed.map fun d => ew K d.c) = ed.map EDef.val) (hmf : P.main.file = R.prog.main.file) (htop : (P.main.scope.names.lookup ("super" : Str)).isSome = false) :
    ∃ fd : FuncData, (∀ (s : Shared) (v : Value), BindsTo s fd ⟨[v], []⟩ [("_law_script", v)]) ∧ ∀ base : Heap, K.In base → base.Ns mainGlobals mg → FnG P w K mg base 8 f fd ["_law_script"] (spD K (cmK K w) 1 d_law) := by
  obtain ⟨cx, cs1⟩ := He.ba cx
  obtain ⟨cs2, cs1⟩ := He.ba cs1
  obtain ⟨cs3, cs4⟩ := He.ba cs1
  have x2 : Ex2Ok ["InvalidTable", "InvalidNumber"] [("InvalidNumber", ["InvalidNumber"]), ("InvalidTable", ["InvalidTable"])] [("CallsError", ["CallsError", "InvalidTable", "InvalidNumber"])] ["value"] K := ⟨cs2⟩
  have xo : ExOk [] [("InvalidNumber", ["InvalidNumber"]), ("InvalidTable", ["InvalidTable"])] [] ["value"] [] K := ⟨cx⟩
  obtain ⟨fd_law_cell, F_law_cell⟩ := c.def_ 0 (d := e_law_cell) rfl
  obtain ⟨fd_law_generator, F_law_generator⟩ := c.def_ 1 (d := e_law_generator) rfl
  obtain ⟨fd_law_hash, F_law_hash⟩ := c.def_ 2 (d := e_law_hash) rfl
  obtain ⟨fd_law_random, F_law_random⟩ := c.def_ 3 (d := e_law_random) rfl
  obtain ⟨fd_law_title, F_law_title⟩ := c.def_ 4 (d := e_law_title) rfl
  obtain ⟨fd_law_arcs, F_law_arcs⟩ := c.def_ 5 (d := e_law_arcs) rfl
  obtain ⟨fd_law_grid, F_law_grid⟩ := c.def_ 6 (d := e_law_grid) rfl
  obtain ⟨fd_law_listed, F_law_listed⟩ := c.def_ 7 (d := e_law_listed) rfl
  obtain ⟨fd_is_name, F_is_name⟩ := c.def_ 8 (d := e_is_name) rfl
  obtain ⟨fd_is_whole, F_is_whole⟩ := c.def_ 9 (d := e_is_whole) rfl
  obtain ⟨fd_is_arc, F_is_arc⟩ := c.def_ 10 (d := e_is_arc) rfl
  obtain ⟨fd_is_table, F_is_table⟩ := c.def_ 11 (d := e_is_table) rfl
  obtain ⟨fd_law_bad_arcs, F_law_bad_arcs⟩ := c.def_ 12 (d := e_law_bad_arcs) rfl
  obtain ⟨fd_law_bent, F_law_bent⟩ := c.def_ 13 (d := e_law_bent) rfl
  obtain ⟨fd_check_table, F_check_table⟩ := c.def_ 14 (d := e_check_table) rfl
  obtain ⟨fd_arcs_of, F_arcs_of⟩ := c.def_ 15 (d := e_arcs_of) rfl
  obtain ⟨fd_joined, F_joined⟩ := c.def_ 16 (d := e_joined) rfl
  obtain ⟨fd_falls_around, F_falls_around⟩ := c.def_ 17 (d := e_falls_around) rfl
  obtain ⟨fd_has_fall, F_has_fall⟩ := c.def_ 18 (d := e_has_fall) rfl
  obtain ⟨fd_check_whole, F_check_whole⟩ := c.def_ 19 (d := e_check_whole) rfl
  obtain ⟨fd_power, F_power⟩ := c.def_ 20 (d := e_power) rfl
  obtain ⟨fd_product, F_product⟩ := c.def_ 21 (d := e_product) rfl
  obtain ⟨fd_law_caught, F_law_caught⟩ := c.def_ 22 (d := e_law_caught) rfl
  obtain ⟨fd_law_refused, F_law_refused⟩ := c.def_ 23 (d := e_law_refused) rfl
  obtain ⟨fd_law, F_law⟩ := c.def_ 24 (d := e_law) rfl
  have n_len := He.free_ok X G (c.fact 0 (f := .free "len") rfl)
  have n_int := He.free_ok X G (c.fact 1 (f := .free "int") rfl)
  have n_max := He.free_ok X G (c.fact 2 (f := .free "max") rfl)
  have n_range := He.free_ok X G (c.fact 3 (f := .free "range") rfl)
  have n_tuple := He.free_ok X G (c.fact 4 (f := .free "tuple") rfl)
  have n_isinstance := He.free_ok X G (c.fact 5 (f := .free "isinstance") rfl)
  have n_str := He.free_ok X G (c.fact 6 (f := .free "str") rfl)
  have n_bool := He.free_ok X G (c.fact 7 (f := .free "bool") rfl)
  have n_sorted := He.free_ok X G (c.fact 8 (f := .free "sorted") rfl)
  have n_set := He.free_ok X G (c.fact 9 (f := .free "set") rfl)
  have n_list := He.free_ok X G (c.fact 10 (f := .free "list") rfl)
  have n_repr := He.free_ok X G (c.fact 11 (f := .free "repr") rfl)
  have g_MOST_LETTERS : GlobC K mg "MOST_LETTERS" (.int 12) := glob_int (He.int_ok X G (c.fact 12 (f := .int "MOST_LETTERS" (12)) rfl))
  have g_LETTERS : GlobC K mg "LETTERS" (.str "abcdefghijklmnopqrstuvwxyz") := glob_str (He.str_ok X G (c.fact 13 (f := .str "LETTERS" "abcdefghijklmnopqrstuvwxyz") rfl))
  have g_MOST_MEASURES : GlobC K mg "MOST_MEASURES" (.int 3) := glob_int (He.int_ok X G (c.fact 14 (f := .int "MOST_MEASURES" (3)) rfl))
  have nf_value : FldOk K (cm2 K [] ["InvalidTable", "InvalidNumber"] w) "value" := fld2 x2 (by decide) (xo.fld (by decide))
  have i_InvalidNumber : IsCJ K (cm2 K [] ["InvalidTable", "InvalidNumber"] w) mg "InvalidNumber" ["InvalidNumber"] := is2 x2 X G (by decide) (xo.is X G (by decide))
  have i_InvalidTable : IsCJ K (cm2 K [] ["InvalidTable", "InvalidNumber"] w) mg "InvalidTable" ["InvalidTable"] := is2 x2 X G (by decide) (xo.is X G (by decide))
  have ct_CallsError : CatAt K (cm2 K [] ["InvalidTable", "InvalidNumber"] w) mg "CallsError" ["CallsError", "InvalidTable", "InvalidNumber"] := cat2 x2 X G (by decide)
  have so : SysOk K := sysB_ok cs4
  have hw : (cm2 K [] ["InvalidTable", "InvalidNumber"] w).wld = some w := rfl
  have n_super := He.free_ok X G (c.fact 15 (f := .free "super") rfl)
  have el := hfa.symm.trans (He.glo_ok X G (c.fact 40 (f := .glo "law") rfl))
  cases el
  have bl := FunD.bindsA (ps := ["_law_script"]) F_law fun _ _ _ _ _ _ us hl => match us, hl with | [_], _ => rfl
  refine ⟨fd_law, fun s v => bl s [v] rfl, fun base _ _ => ?_⟩
  have er_InvalidTable : ErrAt P w K mg base (cm2 K [] ["InvalidTable", "InvalidNumber"] w) 1 "InvalidTable" "value" [[]] := errAt_of (d := ed_InvalidTable) X G (cm2_at (by decide)) rfl (ew_ix ce 0) (all_ix cs3 0) hmf htop n_super ⟨rfl, rfl, rfl, rfl, rfl, rfl, rfl, by decide +kernel, by decide +kernel, by decide⟩ ⟨_, rfl, rfl⟩ ⟨fun _ _ _ _ => rfl, fun _ _ _ _ => rfl, ⟨_, fun _ _ _ _ => rfl⟩, fun _ _ _ _ => rfl, fun _ _ _ _ => rfl, fun _ _ _ _ => rfl, by decide, by decide⟩ (fun _ _ _ _ _ _ _ _ us its h1 h2 => match us, its, h1, h2 with | [_, _], [_], _, _ => ⟨_, rfl, rfl⟩)
  have er_InvalidNumber : ErrAt P w K mg base (cm2 K [] ["InvalidTable", "InvalidNumber"] w) 1 "InvalidNumber" "value" [[]] := errAt_of (d := ed_InvalidNumber) X G (cm2_at (by decide)) rfl (ew_ix ce 1) (all_ix cs3 1) hmf htop n_super ⟨rfl, rfl, rfl, rfl, rfl, rfl, rfl, by decide +kernel, by decide +kernel, by decide⟩ ⟨_, rfl, rfl⟩ ⟨fun _ _ _ _ => rfl, fun _ _ _ _ => rfl, ⟨_, fun _ _ _ _ => rfl⟩, fun _ _ _ _ => rfl, fun _ _ _ _ => rfl, fun _ _ _ _ => rfl, by decide, by decide⟩ (fun _ _ _ _ _ _ _ _ us its h1 h2 => match us, its, h1, h2 with | [_, _], [_], _, _ => ⟨_, rfl, rfl⟩)
  have o_d_law_cell := ok_law_cell (P := P) (w := w) (mg := mg) (base := base) (cm := (cm2 K [] ["InvalidTable", "InvalidNumber"] w)) F_law_cell n_len
  have c_d_law_cell : FnAt P w K mg base (cm2 K [] ["InvalidTable", "InvalidNumber"] w) 1 "_law_cell" d_law_cell [[]] := fnAt_of (ps := ["_law_script", "_law_index"]) (ok_law_cell F_law_cell n_len) (He.glo_ok X G (c.fact 16 (f := .glo "_law_cell") rfl)) F_law_cell.kp (all_cons (bind_all F_law_cell fun _ _ _ _ _ _ us hl => match us, hl with | [_, _], _ => rfl) all_nil)
  have o_d_law_generator := ok_law_generator (P := P) (w := w) (mg := mg) (base := base) (cm := (cm2 K [] ["InvalidTable", "InvalidNumber"] w)) F_law_generator c_d_law_cell n_int n_max
  have c_d_law_generator : FnAt P w K mg base (cm2 K [] ["InvalidTable", "InvalidNumber"] w) 2 "_law_generator" d_law_generator [[]] := fnAt_of (ps := ["_law_script", "_law_index"]) (ok_law_generator F_law_generator c_d_law_cell n_int n_max) (He.glo_ok X G (c.fact 17 (f := .glo "_law_generator") rfl)) F_law_generator.kp (all_cons (bind_all F_law_generator fun _ _ _ _ _ _ us hl => match us, hl with | [_, _], _ => rfl) all_nil)
  have o_d_law_hash := ok_law_hash (P := P) (w := w) (mg := mg) (base := base) (cm := (cm2 K [] ["InvalidTable", "InvalidNumber"] w)) F_law_hash n_int
  have c_d_law_hash : FnAt P w K mg base (cm2 K [] ["InvalidTable", "InvalidNumber"] w) 1 "_law_hash" d_law_hash [[]] := fnAt_of (ps := ["_law_seed", "_law_index"]) (ok_law_hash F_law_hash n_int) (He.glo_ok X G (c.fact 18 (f := .glo "_law_hash") rfl)) F_law_hash.kp (all_cons (bind_all F_law_hash fun _ _ _ _ _ _ us hl => match us, hl with | [_, _], _ => rfl) all_nil)
  have o_d_law_random := ok_law_random (P := P) (w := w) (mg := mg) (base := base) (cm := (cm2 K [] ["InvalidTable", "InvalidNumber"] w)) F_law_random n_int n_range c_d_law_hash
  have c_d_law_random : FnAt P w K mg base (cm2 K [] ["InvalidTable", "InvalidNumber"] w) 2 "_law_random" d_law_random [[]] := fnAt_of (ps := ["_law_generator_here", "_law_bound"]) (ok_law_random F_law_random n_int n_range c_d_law_hash) (He.glo_ok X G (c.fact 19 (f := .glo "_law_random") rfl)) F_law_random.kp (all_cons (bind_all F_law_random fun _ _ _ _ _ _ us hl => match us, hl with | [_, _], _ => rfl) all_nil)
  have o_d_law_title := ok_law_title (P := P) (w := w) (mg := mg) (base := base) (cm := (cm2 K [] ["InvalidTable", "InvalidNumber"] w)) F_law_title c_d_law_random n_range
  have c_d_law_title : FnAt P w K mg base (cm2 K [] ["InvalidTable", "InvalidNumber"] w) 3 "_law_title" d_law_title [[]] := fnAt_of (ps := ["_law_generator_here", "_law_most"]) (ok_law_title F_law_title c_d_law_random n_range) (He.glo_ok X G (c.fact 20 (f := .glo "_law_title") rfl)) F_law_title.kp (all_cons (bind_all F_law_title fun _ _ _ _ _ _ us hl => match us, hl with | [_, _], _ => rfl) all_nil)
  have o_d_law_arcs := ok_law_arcs (P := P) (w := w) (mg := mg) (base := base) (cm := (cm2 K [] ["InvalidTable", "InvalidNumber"] w)) F_law_arcs n_range c_d_law_random
  have c_d_law_arcs : FnAt P w K mg base (cm2 K [] ["InvalidTable", "InvalidNumber"] w) 3 "_law_arcs" d_law_arcs [[]] := fnAt_of (ps := ["_law_generator_here", "_law_begin", "_law_end", "_law_dense"]) (ok_law_arcs F_law_arcs n_range c_d_law_random) (He.glo_ok X G (c.fact 21 (f := .glo "_law_arcs") rfl)) F_law_arcs.kp (all_cons (bind_all F_law_arcs fun _ _ _ _ _ _ us hl => match us, hl with | [_, _, _, _], _ => rfl) all_nil)
  have o_d_law_grid := ok_law_grid (P := P) (w := w) (mg := mg) (base := base) (cm := (cm2 K [] ["InvalidTable", "InvalidNumber"] w)) F_law_grid n_int n_max
  have c_d_law_grid : FnAt P w K mg base (cm2 K [] ["InvalidTable", "InvalidNumber"] w) 1 "_law_grid" d_law_grid [[]] := fnAt_of (ps := ["_law_arcs_here"]) (ok_law_grid F_law_grid n_int n_max) (He.glo_ok X G (c.fact 22 (f := .glo "_law_grid") rfl)) F_law_grid.kp (all_cons (bind_all F_law_grid fun _ _ _ _ _ _ us hl => match us, hl with | [_], _ => rfl) all_nil)
  have o_d_law_listed := ok_law_listed (P := P) (w := w) (mg := mg) (base := base) (cm := (cm2 K [] ["InvalidTable", "InvalidNumber"] w)) F_law_listed n_range n_tuple
  have c_d_law_listed : FnAt P w K mg base (cm2 K [] ["InvalidTable", "InvalidNumber"] w) 1 "_law_listed" d_law_listed [[]] := fnAt_of (ps := ["_law_grid_here"]) (ok_law_listed F_law_listed n_range n_tuple) (He.glo_ok X G (c.fact 23 (f := .glo "_law_listed") rfl)) F_law_listed.kp (all_cons (bind_all F_law_listed fun _ _ _ _ _ _ us hl => match us, hl with | [_], _ => rfl) all_nil)
  have o_d_is_name := ok_is_name (P := P) (w := w) (mg := mg) (base := base) (cm := (cm2 K [] ["InvalidTable", "InvalidNumber"] w)) F_is_name n_isinstance n_str n_len g_MOST_LETTERS g_LETTERS
  have c_d_is_name : FnAt P w K mg base (cm2 K [] ["InvalidTable", "InvalidNumber"] w) 1 "is_name" d_is_name [[]] := fnAt_of (ps := ["value"]) (ok_is_name F_is_name n_isinstance n_str n_len g_MOST_LETTERS g_LETTERS) (He.glo_ok X G (c.fact 24 (f := .glo "is_name") rfl)) F_is_name.kp (all_cons (bind_all F_is_name fun _ _ _ _ _ _ us hl => match us, hl with | [_], _ => rfl) all_nil)
  have o_d_is_whole := ok_is_whole (P := P) (w := w) (mg := mg) (base := base) (cm := (cm2 K [] ["InvalidTable", "InvalidNumber"] w)) F_is_whole n_isinstance n_int n_bool
  have c_d_is_whole : FnAt P w K mg base (cm2 K [] ["InvalidTable", "InvalidNumber"] w) 1 "is_whole" d_is_whole [[]] := fnAt_of (ps := ["value"]) (ok_is_whole F_is_whole n_isinstance n_int n_bool) (He.glo_ok X G (c.fact 25 (f := .glo "is_whole") rfl)) F_is_whole.kp (all_cons (bind_all F_is_whole fun _ _ _ _ _ _ us hl => match us, hl with | [_], _ => rfl) all_nil)
  have o_d_is_arc := ok_is_arc (P := P) (w := w) (mg := mg) (base := base) (cm := (cm2 K [] ["InvalidTable", "InvalidNumber"] w)) F_is_arc n_isinstance n_tuple n_len c_d_is_whole n_bool
  have c_d_is_arc : FnAt P w K mg base (cm2 K [] ["InvalidTable", "InvalidNumber"] w) 2 "is_arc" d_is_arc [[]] := fnAt_of (ps := ["value", "sources", "targets"]) (ok_is_arc F_is_arc n_isinstance n_tuple n_len c_d_is_whole n_bool) (He.glo_ok X G (c.fact 26 (f := .glo "is_arc") rfl)) F_is_arc.kp (all_cons (bind_all F_is_arc fun _ _ _ _ _ _ us hl => match us, hl with | [_, _, _], _ => rfl) all_nil)
  have o_d_is_table := ok_is_table (P := P) (w := w) (mg := mg) (base := base) (cm := (cm2 K [] ["InvalidTable", "InvalidNumber"] w)) F_is_table n_isinstance n_tuple n_len c_d_is_name g_MOST_MEASURES c_d_is_arc n_int n_sorted n_set
  have c_d_is_table : FnAt P w K mg base (cm2 K [] ["InvalidTable", "InvalidNumber"] w) 3 "is_table" d_is_table [[]] := fnAt_of (ps := ["value"]) (ok_is_table F_is_table n_isinstance n_tuple n_len c_d_is_name g_MOST_MEASURES c_d_is_arc n_int n_sorted n_set) (He.glo_ok X G (c.fact 27 (f := .glo "is_table") rfl)) F_is_table.kp (all_cons (bind_all F_is_table fun _ _ _ _ _ _ us hl => match us, hl with | [_], _ => rfl) all_nil)
  have o_d_law_bad_arcs := ok_law_bad_arcs (P := P) (w := w) (mg := mg) (base := base) (cm := (cm2 K [] ["InvalidTable", "InvalidNumber"] w)) F_law_bad_arcs n_list
  have c_d_law_bad_arcs : FnAt P w K mg base (cm2 K [] ["InvalidTable", "InvalidNumber"] w) 1 "_law_bad_arcs" d_law_bad_arcs [[]] := fnAt_of (ps := ["_law_arc"]) (ok_law_bad_arcs F_law_bad_arcs n_list) (He.glo_ok X G (c.fact 28 (f := .glo "_law_bad_arcs") rfl)) F_law_bad_arcs.kp (all_cons (bind_all F_law_bad_arcs fun _ _ _ _ _ _ us hl => match us, hl with | [_], _ => rfl) all_nil)
  have o_d_law_bent := ok_law_bent (P := P) (w := w) (mg := mg) (base := base) (cm := (cm2 K [] ["InvalidTable", "InvalidNumber"] w)) F_law_bent n_list c_d_law_bad_arcs n_tuple n_len
  have c_d_law_bent : FnAt P w K mg base (cm2 K [] ["InvalidTable", "InvalidNumber"] w) 2 "_law_bent" d_law_bent [[]] := fnAt_of (ps := ["_law_table"]) (ok_law_bent F_law_bent n_list c_d_law_bad_arcs n_tuple n_len) (He.glo_ok X G (c.fact 29 (f := .glo "_law_bent") rfl)) F_law_bent.kp (all_cons (bind_all F_law_bent fun _ _ _ _ _ _ us hl => match us, hl with | [_], _ => rfl) all_nil)
  have o_d_check_table := ok_check_table (P := P) (w := w) (mg := mg) (base := base) (cm := (cm2 K [] ["InvalidTable", "InvalidNumber"] w)) F_check_table c_d_is_table er_InvalidTable
  have c_d_check_table : FnAt P w K mg base (cm2 K [] ["InvalidTable", "InvalidNumber"] w) 4 "check_table" d_check_table [[]] := fnAt_of (ps := ["value"]) (ok_check_table F_check_table c_d_is_table er_InvalidTable) (He.glo_ok X G (c.fact 30 (f := .glo "check_table") rfl)) F_check_table.kp (all_cons (bind_all F_check_table fun _ _ _ _ _ _ us hl => match us, hl with | [_], _ => rfl) all_nil)
  have o_d_arcs_of := ok_arcs_of (P := P) (w := w) (mg := mg) (base := base) (cm := (cm2 K [] ["InvalidTable", "InvalidNumber"] w)) F_arcs_of n_int n_sorted n_tuple
  have c_d_arcs_of : FnAt P w K mg base (cm2 K [] ["InvalidTable", "InvalidNumber"] w) 1 "arcs_of" d_arcs_of [[]] := fnAt_of (ps := ["found"]) (ok_arcs_of F_arcs_of n_int n_sorted n_tuple) (He.glo_ok X G (c.fact 31 (f := .glo "arcs_of") rfl)) F_arcs_of.kp (all_cons (bind_all F_arcs_of fun _ _ _ _ _ _ us hl => match us, hl with | [_], _ => rfl) all_nil)
  have o_d_joined := ok_joined (P := P) (w := w) (mg := mg) (base := base) (cm := (cm2 K [] ["InvalidTable", "InvalidNumber"] w)) F_joined c_d_arcs_of
  have c_d_joined : FnAt P w K mg base (cm2 K [] ["InvalidTable", "InvalidNumber"] w) 2 "joined" d_joined [[]] := fnAt_of (ps := ["one", "other"]) (ok_joined F_joined c_d_arcs_of) (He.glo_ok X G (c.fact 32 (f := .glo "joined") rfl)) F_joined.kp (all_cons (bind_all F_joined fun _ _ _ _ _ _ us hl => match us, hl with | [_, _], _ => rfl) all_nil)
  have o_d_falls_around := ok_falls_around (P := P) (w := w) (mg := mg) (base := base) (cm := (cm2 K [] ["InvalidTable", "InvalidNumber"] w)) F_falls_around g_MOST_MEASURES n_range c_d_joined
  have c_d_falls_around : FnAt P w K mg base (cm2 K [] ["InvalidTable", "InvalidNumber"] w) 3 "falls_around" d_falls_around [[]] := fnAt_of (ps := ["table"]) (ok_falls_around F_falls_around g_MOST_MEASURES n_range c_d_joined) (He.glo_ok X G (c.fact 33 (f := .glo "falls_around") rfl)) F_falls_around.kp (all_cons (bind_all F_falls_around fun _ _ _ _ _ _ us hl => match us, hl with | [_], _ => rfl) all_nil)
  have o_d_has_fall := ok_has_fall (P := P) (w := w) (mg := mg) (base := base) (cm := (cm2 K [] ["InvalidTable", "InvalidNumber"] w)) F_has_fall c_d_check_table c_d_falls_around
  have c_d_has_fall : FnAt P w K mg base (cm2 K [] ["InvalidTable", "InvalidNumber"] w) 5 "has_fall" d_has_fall [[]] := fnAt_of (ps := ["table"]) (ok_has_fall F_has_fall c_d_check_table c_d_falls_around) (He.glo_ok X G (c.fact 34 (f := .glo "has_fall") rfl)) F_has_fall.kp (all_cons (bind_all F_has_fall fun _ _ _ _ _ _ us hl => match us, hl with | [_], _ => rfl) all_nil)
  have o_d_check_whole := ok_check_whole (P := P) (w := w) (mg := mg) (base := base) (cm := (cm2 K [] ["InvalidTable", "InvalidNumber"] w)) F_check_whole c_d_is_whole er_InvalidNumber
  have c_d_check_whole : FnAt P w K mg base (cm2 K [] ["InvalidTable", "InvalidNumber"] w) 3 "check_whole" d_check_whole [[], [.non]] := fnAt_of (ps := ["value", "least", "most"]) (ok_check_whole F_check_whole c_d_is_whole er_InvalidNumber) (He.glo_ok X G (c.fact 35 (f := .glo "check_whole") rfl)) F_check_whole.kp (all_cons (bind_dfl (dvs := [.non]) (kws := []) F_check_whole 3 1 (by intro z; cases z) rfl (fun _ _ _ _ _ _ _ us its hl hi => match us, its, hl, hi with | [_, _, _], [_], _, _ => ⟨_, rfl, rfl⟩) (fun _ _ => by simp [RVs, RV])) (all_cons (bind_dfl (dvs := [.non]) (kws := []) F_check_whole 2 0 (by intro z; cases z) rfl (fun _ _ _ _ _ _ _ us its hl hi => match us, its, hl, hi with | [_, _], [_], _, _ => ⟨_, rfl, rfl⟩) (fun _ _ => by simp [RVs, RV])) all_nil))
  have o_d_power := ok_power (P := P) (w := w) (mg := mg) (base := base) (cm := (cm2 K [] ["InvalidTable", "InvalidNumber"] w)) F_power c_d_check_table er_InvalidTable c_d_check_whole c_d_joined
  have c_d_power : FnAt P w K mg base (cm2 K [] ["InvalidTable", "InvalidNumber"] w) 5 "power" d_power [[]] := fnAt_of (ps := ["table", "count"]) (ok_power F_power c_d_check_table er_InvalidTable c_d_check_whole c_d_joined) (He.glo_ok X G (c.fact 36 (f := .glo "power") rfl)) F_power.kp (all_cons (bind_all F_power fun _ _ _ _ _ _ us hl => match us, hl with | [_, _], _ => rfl) all_nil)
  have o_d_product := ok_product (P := P) (w := w) (mg := mg) (base := base) (cm := (cm2 K [] ["InvalidTable", "InvalidNumber"] w)) F_product c_d_check_table er_InvalidTable c_d_joined
  have c_d_product : FnAt P w K mg base (cm2 K [] ["InvalidTable", "InvalidNumber"] w) 5 "product" d_product [[]] := fnAt_of (ps := ["one", "other"]) (ok_product F_product c_d_check_table er_InvalidTable c_d_joined) (He.glo_ok X G (c.fact 37 (f := .glo "product") rfl)) F_product.kp (all_cons (bind_all F_product fun _ _ _ _ _ _ us hl => match us, hl with | [_, _], _ => rfl) all_nil)
  have o_d_law_caught := ok_law_caught (P := P) (w := w) (mg := mg) (base := base) (cm := (cm2 K [] ["InvalidTable", "InvalidNumber"] w)) F_law_caught c_d_has_fall c_d_power c_d_product ct_CallsError nf_value n_isinstance n_list so n_repr i_InvalidNumber i_InvalidTable
  have c_d_law_caught : FnAt P w K mg base (cm2 K [] ["InvalidTable", "InvalidNumber"] w) 6 "_law_caught" d_law_caught [[]] := fnAt_of (ps := ["_law_door", "_law_one", "_law_other"]) (ok_law_caught F_law_caught c_d_has_fall c_d_power c_d_product ct_CallsError nf_value n_isinstance n_list so n_repr i_InvalidNumber i_InvalidTable) (He.glo_ok X G (c.fact 38 (f := .glo "_law_caught") rfl)) F_law_caught.kp (all_cons (bind_all F_law_caught fun _ _ _ _ _ _ us hl => match us, hl with | [_, _, _], _ => rfl) all_nil)
  have o_d_law_refused := ok_law_refused (P := P) (w := w) (mg := mg) (base := base) (cm := (cm2 K [] ["InvalidTable", "InvalidNumber"] w)) F_law_refused c_d_law_bent so c_d_is_table n_repr n_range c_d_law_caught
  have c_d_law_refused : FnAt P w K mg base (cm2 K [] ["InvalidTable", "InvalidNumber"] w) 7 "_law_refused" d_law_refused [[]] := fnAt_of (ps := ["_law_table", "_law_far"]) (ok_law_refused F_law_refused c_d_law_bent so c_d_is_table n_repr n_range c_d_law_caught) (He.glo_ok X G (c.fact 39 (f := .glo "_law_refused") rfl)) F_law_refused.kp (all_cons (bind_all F_law_refused fun _ _ _ _ _ _ us hl => match us, hl with | [_, _], _ => rfl) all_nil)
  exact ok_law F_law n_range c_d_law_generator c_d_law_title c_d_law_random c_d_law_arcs c_d_law_grid c_d_law_listed n_int so c_d_is_table n_repr c_d_law_refused
end
end Law_k20
namespace Law_k20
theorem law_same : d_law = P20.d_law := rfl
theorem pure_law (ns : List Int) (_ : ns.length ≤ 63) : ∃ s', d_law [.rol (ns.map Fc.D.int)] [] = some (.ok (.bl true) s') := by
  rw [law_same]
  exact P20.pure20 ns
end Law_k20
-- KEEP
open PySem PySem.W PySem.Calls PyProof.Rows
theorem PySem.Challenge.cw_fallingcalls_k20_tables_told_holds : PySem.Challenge.rw_fallingcalls_k20_tables_told.Holds := by
  w_on; o_law
  refine HandSHeadRun.head_any (r := OpenLaw.row PySem.Challenge.rw_fallingcalls_k20_tables_told) (q := view (OpenLaw.row PySem.Challenge.rw_fallingcalls_k20_tables_told).prog [34]) (H := Law_k20.hk) (ob := Law_k20.ob) (M := 6000) (loose := Law_k20.loose) (d := HandSHeadRun.topDef (OpenLaw.row PySem.Challenge.rw_fallingcalls_k20_tables_told).prog 34) (kwd := []) Law_k20.ob_eq
    (by kernel_rfl) (fun s => by kernel_rfl) Law_k20.run (by kernel_rfl) (by kernel_rfl) (by kernel_rfl) (by rfl) (by first | assumption | decide +kernel) (by decide +kernel) ⟨rfl, rfl, rfl, rfl, rfl, by decide +kernel⟩ ?hw ?hc
  case hw => w_witness2
  case hc =>
    refine Fc.walk_law (l := PySem.Challenge.rw_fallingcalls_k20_tables_told) (n := 63) (k := 8) (x := "_law_script") (Fn := Law_k20.d_law) rfl (by decide) (by kernel_rfl) Fc.caller_room Law_k20.pure_law ?F
    intro w mg fa h Y G hmg0
    obtain ⟨K, KX, c, cx, ce⟩ := Y
    have hmg : mg ("law" : PySem.Str) = some (.ref fa) := by
      have e : (HandSHeadRun.topDef (OpenLaw.row PySem.Challenge.rw_fallingcalls_k20_tables_told).prog 34).name = ("law" : PySem.Str) := by kernel_rfl
      rw [← e]
      exact hmg0
    obtain ⟨fd, hb, hF⟩ := Law_k20.facts (P := (PySem.Challenge.rw_fallingcalls_k20_tables_told).prog) (w := w) KX G hmg c cx ce rfl (by kernel_rfl)
    exact ⟨K, Law_k20.cmK K w, fd, KX, hb, hF⟩
