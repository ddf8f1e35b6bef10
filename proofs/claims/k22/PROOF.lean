import PyProof.Rows.All
import HandS.ForMost
import KE.KeyNested
import HandS.ForExc
import HandS.Flow
import HandS.TupAny
import HandS.Deep
import HandS.Wide
import HandS.WideBits
import HandS.Style
import PyProof.Rows.RuleB_pow
import HandS.IsInst
import HandS.ExcField
import HandS.ExcIs
import HandS.Defaults
import HandS.HeadEnd
import HandS.HeadHook4
import KE.SortData
import HandS.TupSets
import HandS.SortRule
import PyProof.ReprRoads
import HandS.Ends
import HandS.Head0
import HandS.Head1
import HandS.Head2
import KE.KStateDown
import PyProof.StrLawsRepr
import PyProof.ReprBulk
import PyProof.ReprText
import PyProof.Rows.ReprOcc
import PySem.Challenge.RW_fallingcalls_k22_products_and_powers
set_option Elab.async false
set_option linter.all false
set_option maxRecDepth 100000
set_option maxHeartbeats 4000000
namespace Fc
open PySem
inductive D where
  | non | bl (b : Bool) | int (i : Int) | str (x : Str) | tup (ds : List D) | rol (ds : List D) | ref (n : Nat) | stu (ds : List D)
/-- what stands in the store (the script, read only, is a value, D.rol): a list, a dict with plain keys, one with tuples of plain keys, an instance, a caught error, a locked dict -/
inductive O where
  | lst (ds : List D) | dK (kvs : List (L2.Key × D)) | dT (kvs : List (List L2.Key × D))
  /-- a dict whose keys are tuples of any depth -/
  | dN (kvs : List (D × D))
  | ins (c : Str) (fs : List (Str × D)) | err (c : Str) (fs : List (Str × D)) | lck (o : O)
abbrev S := List O
inductive Res (a : Type) where
  | ok (x : a) (s : S) | exc (c : Str) (fs : List (Str × D)) (s : S)
abbrev M (a : Type) := S → Option (Res a)
def ret {a : Type} (x : a) : M a := fun s => some (.ok x s)
def stuck {a : Type} : M a := fun _ => none
def bnd {a b : Type} (m : M a) (k : a → M b) : M b := fun s => match m s with
  | none => none
  | some (.ok x s') => k x s'
  | some (.exc c fs s') => some (.exc c fs s')
abbrev Env := List (Option D)
abbrev E := Env → M D
abbrev T := Env → M Bool
abbrev EL := Env → M (List D)
def unl : O → O
  | .lck o => o
  | o => o
def rd (s : S) (n : Nat) : Option O := (s[n]?).map unl
def new (o : O) : M D := fun s => some (.ok (.ref s.length) (s ++ [o]))
def lstAt (s : S) (n : Nat) : Option (List D) := match s[n]? with
  | some (.lst ds) => some ds
  | _ => none
def mutO (n : Nat) (f : O → Option (O × D)) : M D := fun s => match s[n]? with
  | some o => match f o with
    | some (o', d) => some (.ok d (s.set n o'))
    | none => none
  | none => none
def keyOf : D → Option L2.Key
  | .int i => some (.inl i)
  | .str x => some (.inr x)
  | _ => none
def keysOf : List D → Option (List L2.Key)
  | [] => some []
  | d :: r => match keyOf d, keysOf r with
    | some k, some ks => some (k :: ks)
    | _, _ => none
def dOf : L2.Key → D
  | .inl i => .int i
  | .inr x => .str x
mutual
/-- a key of any depth -/
def nkey : D → Option NestedKey
  | .non => some .none
  | .bl b => some (.num (if b = true then 1 else 0))
  | .int i => some (.num i)
  | .str x => some (.text x)
  | .tup ds => (nkeys ds).map .tup
  | .rol _ => none
  | .ref _ => none
  | .stu _ => none
def nkeys : List D → Option (List NestedKey)
  | [] => some []
  | d :: r => match nkey d, nkeys r with
    | some k, some ks => some (k :: ks)
    | _, _ => none
end
/-- a tuple that is a key -/
def nkT (d : D) : Option NestedKey := match d with
  | .tup ds => match nkeys ds with
    | some ks => if (NestedKey.tup ks).depth ≤ 8 then some (.tup ks) else none
    | none => none
  | _ => none
variable {κ : Type} [DecidableEq κ]
def kget (kvs : List (κ × D)) (k : κ) : Option D := (kvs.find? fun kv => decide (kv.1 = k)).map (·.2)
def kput (kvs : List (κ × D)) (k : κ) (v : D) : List (κ × D) :=
  if (kvs.any fun kv => decide (kv.1 = k)) = true then kvs.map fun kv => if kv.1 = k then (kv.1, v) else kv else kvs ++ [(k, v)]
/-- what a dict holds at a key: none where it's no dict or no key -/
def dget (o : O) (k : D) : Option (Option D) := match o with
  | .dK kvs => (keyOf k).map fun k => kget kvs k
  | .dT kvs => match k with
    | .tup ds => (keysOf ds).map fun ks => kget kvs ks
    | _ => none
  | _ => none
def dput (o : O) (k v : D) : Option O := match o with
  | .dK kvs => if kvs.length < 16777216 then (keyOf k).map fun k => .dK (kput kvs k v) else none
  | .dT kvs => if kvs.length < 16777216 then match k with
    | .tup ds => (keysOf ds).map fun ks => .dT (kput kvs ks v)
    | _ => none else none
  | _ => none
def sz (n : Nat) : Bool := decide (n ≤ 16777216)
def truth (s : S) : D → Option Bool
  | .non => some false
  | .bl b => some b
  | .int i => some (i != 0)
  | .str x => if sz x.length then some (((x.length : Nat) : Int) != 0) else none
  | .tup ds => some (!ds.isEmpty)
  | .rol ds => some (!ds.isEmpty)
  | .stu ds => some (!ds.isEmpty)
  | .ref n => match s[n]? with
    | some (.lst ds) => some (!ds.isEmpty)
    | some (.dK kvs) => some (!kvs.isEmpty)
    | _ => none
mutual
/-- lists read out, to depth n -/
def dat (s : S) : Nat → D → Option PyData
  | _, .non => some .none
  | _, .bl b => some (.bool b)
  | _, .int i => some (.int i)
  | _, .str x => some (.str x)
  | 0, .tup _ => none
  | 0, .ref _ => none
  | 0, .stu _ => none
  | _, .rol _ => none
  | n + 1, .tup ds => (dats s n ds).map .tuple
  | n + 1, .stu ds => (dats s n ds).map .tuple
  | n + 1, .ref a => match lstAt s a with
    | some ds => (dats s n ds).map .list
    | none => none
def dats (s : S) : Nat → List D → Option (List PyData)
  | _, [] => some []
  | n, d :: r => match dat s n d, dats s n r with
    | some x, some xs => some (x :: xs)
    | _, _ => none
end
def allT (f : D → D → Option Bool) : List D → List D → Bool
  | [], [] => true
  | a :: as, b :: bs => f a b == some true && allT f as bs
  | _, _ => false
/-- == of two items: the same thing, or data, or lists and tuples of such -/
def eqZ (s : S) : Nat → D → D → Option Bool
  | 0, _, _ => none
  | n + 1, a, b => match dat s 60 a, dat s 60 b with
    | some x, some y => if SeqAt.shaped x && SeqAt.shaped y then some (PyData.eqv x y) else none
    | _, _ => match a, b with
      | .ref i, .ref j => if i = j then some true else match lstAt s i, lstAt s j with
        | some ds, some es => if ds.length = es.length then (if allT (eqZ s n) ds es then some true else none) else some false
        | _, _ => none
      | .tup ds, .tup es => if allT (eqZ s n) ds es then some true else none
      | _, _ => none
def eqT (s : S) (a b : D) : Option Bool := match a, b with
  | .ref i, .ref j => match lstAt s i, lstAt s j with
    | some ds, some es => if ds.length = es.length then (if allT (eqZ s 8) ds es then some true else none) else some false
    | _, _ => none
  | _, _ => none
/-- == of data: none where it is not known -/
def eqD (s : S) (a b : D) : Option Bool := match dat s 60 a, dat s 60 b with
  | some x, some y => if SeqAt.shaped x && SeqAt.shaped y then some (PyData.eqv x y) else none
  | _, _ => eqT s a b
def eVar (i : Nat) : E := fun σ s => match σ[i]? with
  | some (some d) => some (.ok d s)
  | _ => none
def eC (d : D) : E := fun _ s => some (.ok d s)
def e1 (f : D → M D) (a : E) : E := fun σ => bnd (a σ) f
def e2 (f : D → D → M D) (a b : E) : E := fun σ => bnd (a σ) fun x => bnd (b σ) fun y => f x y
def lNil : EL := fun _ => ret []
def lCons (a : E) (r : EL) : EL := fun σ => bnd (a σ) fun x => bnd (r σ) fun xs => ret (x :: xs)
def eN (f : List D → M D) (es : EL) : E := fun σ => bnd (es σ) f
def isLst (s : S) (x : D) : Bool := match x with
  | .ref n => match s[n]? with
    | some (.lst _) => true
    | _ => false
  | _ => false
/-- o.m(es), o a list: the receiver first -/
def eM (f : D → List D → M D) (o : E) (es : EL) : E := fun σ => bnd (o σ) fun x => fun s => if isLst s x then bnd (es σ) (fun xs => f x xs) s else none
def eIf (t : T) (a b : E) : E := fun σ => bnd (t σ) fun c => if c then a σ else b σ
def eOr (a b : E) : E := fun σ => bnd (a σ) fun x => fun s => match truth s x with
  | some true => some (.ok x s)
  | some false => b σ s
  | none => none
def eAnd (a b : E) : E := fun σ => bnd (a σ) fun x => fun s => match truth s x with
  | some true => b σ s
  | some false => some (.ok x s)
  | none => none
/-- tests -/
def tE (a : E) : T := fun σ => bnd (a σ) fun x => fun s => match truth s x with
  | some c => some (.ok c s)
  | none => none
/-- a test that is a comparison -/
def tB (a : E) : T := fun σ => bnd (a σ) fun x => match x with
  | .bl c => ret c
  | _ => stuck
def tNot (t : T) : T := fun σ => bnd (t σ) fun c => ret (!c)
def tAnd (t u : T) : T := fun σ => bnd (t σ) fun c => if c then u σ else ret false
def eNotT (t : T) : E := fun σ => bnd (t σ) fun c => ret (.bl (!c))
def tOr (t u : T) : T := fun σ => bnd (t σ) fun c => if c then ret true else u σ
def pur2 (f : S → D → D → Option D) : D → D → M D := fun x y s => (f s x y).map fun d => .ok d s
/-- intsD below 2 ^ 1000000 -/
def bits (i : Int) : Nat := i.natAbs.log2
def oAdd : D → D → M D := fun x y s => match x, y with
  | .int i, .int j => some (.ok (.int (i + j)) s)
  | .str a, .str b => if sz (a.length + b.length) then some (.ok (.str (a ++ b)) s) else none
  | .tup a, .tup b => if sz (a.length + b.length) then some (.ok (.tup (a ++ b)) s) else none
  | .ref m, .ref n => match s[m]?, s[n]? with
    | some (.lst a), some (.lst b) => if sz (a.length + b.length) then new (.lst (a ++ b)) s else none
    | _, _ => none
  | _, _ => none
def oSub : D → D → M D := pur2 fun _ x y => match x, y with
  | .int i, .int j => some (.int (i - j))
  | _, _ => none
def oMul : D → D → M D := fun x y s => match x, y with
  | .int i, .int j => if bits i + bits j < 900000 then some (.ok (.int (i * j)) s) else none
  | .ref m, .int k => match s[m]? with
    | some (.lst a) => if decide (-1000000 < k) && decide (k < 1000000) && sz (a.length * k.toNat) then new (.lst (List.replicate k.toNat a).flatten) s else none
    | _ => none
  | _, _ => none
def oMod : D → D → M D := pur2 fun _ x y => match x, y with
  | .int i, .int j => if 0 < j then some (.int (i % j)) else none
  | _, _ => none
def oDiv : D → D → M D := pur2 fun _ x y => match x, y with
  | .int i, .int j => if 0 < j && bits j < 8000 then some (.int (i / j)) else none
  | _, _ => none
def oPow : D → D → M D := pur2 fun _ x y => match x, y with
  | .int i, .int j => if 0 ≤ j && (bits i + 1) * j.toNat ≤ 100000 then some (.int (i ^ j.toNat)) else none
  | _, _ => none
def oNeg : D → M D := fun x s => match x with
  | .int i => some (.ok (.int (-i)) s)
  | _ => none
def cmpI (f : Int → Int → Bool) : D → D → M D := pur2 fun _ x y => match x, y with
  | .int i, .int j => some (.bl (f i j))
  | _, _ => none
def oLt := cmpI fun i j => decide (i < j)
def oLe := cmpI fun i j => decide (i ≤ j)
def oGt := cmpI fun i j => decide (j < i)
def oGe := cmpI fun i j => decide (j ≤ i)
def oEq : D → D → M D := pur2 fun s x y => (eqD s x y).map .bl
def oNe : D → D → M D := pur2 fun s x y => (eqD s x y).map fun b => .bl (!b)
/-- a < b <= c -/
def eChain (f g : D → D → M D) (a b c : E) : E := fun σ => bnd (a σ) fun x => bnd (b σ) fun y => bnd (f x y) fun r => match r with
  | .bl true => bnd (c σ) fun z => g y z
  | .bl false => ret (.bl false)
  | _ => stuck
def oIsN : D → M D := fun x s => some (.ok (.bl (match x with | .non => true | _ => false)) s)
def oNotN : D → M D := fun x s => some (.ok (.bl (match x with | .non => false | _ => true)) s)
def flat : D → Bool
  | .non => true
  | .bl _ => true
  | .int _ => true
  | .str _ => true
  | _ => false
def vOf : D → L2.V
  | .bl b => .bl b
  | .int i => .int i
  | .str x => .str x
  | _ => .non
def isIn (s : S) (x y : D) : Option Bool := match y with
  | .str b => match x with
    | .str a => some (!(Builtin.Str.occurrences b a 0 b.length 1).isEmpty)
    | _ => none
  | .tup ds => if flat x && ds.all flat then some (ds.any fun d => L2.eqV (vOf d) (vOf x)) else none
  | .ref n => match s[n]? with
    | some (.lst ds) => match dat s 60 x, dats s 60 ds with
      | some d, some es => if SeqAt.shaped d && SeqAt.shaped (.list es) then some (es.any fun z => PyData.eqv z d) else none
      | _, _ => none
    | some o => (dget (unl o) x).map (·.isSome)
    | none => none
  | _ => none
def oIn : D → D → M D := pur2 fun s x y => (isIn s x y).map .bl
def oNotIn : D → D → M D := pur2 fun s x y => (isIn s x y).map fun b => .bl (!b)
/-- a[i] -/
def atD (s : S) (x y : D) : Option D := match x with
  | .tup ds => match y with
    | .int i => L2.atI ds i
    | _ => none
  | .rol ds => match y with
    | .int i => L2.atI ds i
    | _ => none
  | .str z => match y with
    | .int i => if sz z.length then (L2.atI z.cps.toList i).map fun c => .str ⟨#[c]⟩ else none
    | _ => none
  | .ref n => match s[n]? with
    | some (.lst ds) => match y with
      | .int i => L2.atI ds i
      | _ => none
    | some o => (dget (unl o) y).bind id
    | none => none
  | _ => none
def oAt : D → D → M D := pur2 atD
def cutL {a : Type} (xs : List a) (lo hi : Option Int) : List a := (xs.drop (HT.sIx xs.length 0 lo)).take (HT.sIx xs.length xs.length hi - HT.sIx xs.length 0 lo)
def oCut (x : D) (lo hi : Option Int) : M D := fun s => match x with
  | .tup ds => some (.ok (.tup (cutL ds lo hi)) s)
  | .str z => if sz z.length then some (.ok (.str (L2.cutS z lo hi)) s) else none
  | .ref n => match s[n]? with
    | some (.lst ds) => new (.lst (cutL ds lo hi)) s
    | _ => none
  | _ => none
/-- a part of a slice: left out, or an int -/
abbrev EO := Env → M (Option Int)
def pNo : EO := fun _ => ret none
def pYes (a : E) : EO := fun σ => bnd (a σ) fun x => match x with
  | .int i => ret (some i)
  | _ => stuck
def eCut (a : E) (lo hi : EO) : E := fun σ => bnd (a σ) fun x => bnd (lo σ) fun l => bnd (hi σ) fun h => oCut x l h
def mTup (ds : List D) : M D := if sz ds.length then ret (.tup ds) else stuck
def mLst (ds : List D) : M D := if sz ds.length then new (.lst ds) else stuck
def mDK : M D := new (.dK [])
def mDT : M D := new (.dT [])
def lenD (s : S) : D → Option Nat
  | .str x => if sz x.length then some x.length else none
  | .tup ds => some ds.length
  | .rol ds => some ds.length
  | .stu ds => some ds.length
  | .ref n => match s[n]? with
    | some (.lst ds) => some ds.length
    | some o => match unl o with
      | .dK kvs => some kvs.length
      | _ => none
    | none => none
  | _ => none
def fLen : List D → M D := fun xs s => match xs with
  | [x] => (lenD s x).map fun n => .ok (.int n) s
  | _ => none
def fInt : List D → M D := fun xs s => match xs with
  | [.int i] => some (.ok (.int i) s)
  | [.bl b] => some (.ok (.int (if b then 1 else 0)) s)
  | _ => none
def intsD : List D → Option (List Int)
  | [] => some []
  | .int i :: r => (intsD r).map (i :: ·)
  | _ :: _ => none
def maxI : Int → List Int → Int
  | a, [] => a
  | a, b :: r => maxI (if b > a then b else a) r
def minI : Int → List Int → Int
  | a, [] => a
  | a, b :: r => minI (if b < a then b else a) r
def mm (f : Int → List Int → Int) : List D → M D := fun xs s => match xs with
  | [.ref n] => match lstAt s n with
    | some ds => match intsD ds with
      | some (a :: r) => some (.ok (.int (f a r)) s)
      | _ => none
    | none => none
  | [.int i, .int j] => some (.ok (.int (f i [j])) s)
  | _ => none
def fMax := mm maxI
def fMin := mm minI
def fTuple : List D → M D := fun xs s => match xs with
  | [.tup ds] => some (.ok (.tup ds) s)
  | [.ref n] => match s[n]? with
    | some (.lst ds) => some (.ok (.tup ds) s)
    | _ => none
  | _ => none
/-- isinstance(x, T) of a built-in T: is the kind of x one of those that T takes -/
inductive Ty where
  | int | bool | str | tuple | list | dict
def isTy (s : S) (x : D) (t : Ty) : Option Bool := match x with
  | .non => some false
  | .bl _ => some (match t with | .int => true | .bool => true | _ => false)
  | .int _ => some (match t with | .int => true | _ => false)
  | .str _ => some (match t with | .str => true | _ => false)
  | .tup _ => some (match t with | .tuple => true | _ => false)
  | .rol _ => none
  | .stu _ => some (match t with | .tuple => true | _ => false)
  | .ref n => (s[n]?).bind fun o => match o with
    | .lst _ => some (match t with | .list => true | _ => false)
    | .dK _ => some (match t with | .dict => true | _ => false)
    | .dT _ => some (match t with | .dict => true | _ => false)
    | .dN _ => none
    | .ins _ _ => none
    | .err _ _ => none
    | .lck _ => none
def oIs (t : Ty) : D → M D := fun x s => (isTy s x t).map fun b => .ok (.bl b) s
def oBitLen : D → M D := fun x s => match x with
  | .int i => some (.ok (.int (Builtin.Int.intBits i : Nat)) s)
  | _ => none
def mAppend : D → List D → M D := fun x xs s => match x, xs with
  | .ref n, [y] => mutO n (fun o => match o with
    | .lst ds => if ds.length < 16777216 then some (.lst (ds ++ [y]), .non) else none
    | _ => none) s
  | _, _ => none
def isDict (s : S) (x : D) : Bool := match x with
  | .ref n => match rd s n with
    | some (.dK _) => true
    | some (.dT _) => true
    | _ => false
  | _ => false
def dgetAt (s : S) (x k : D) : Option (Option D) := match x with
  | .ref n => (rd s n).bind fun o => dget o k
  | _ => none
/-- d.get(k, z) -/
def eGet2 (d k z : E) : E := fun σ => bnd (d σ) fun x => fun s => if isDict s x then bnd (k σ) (fun y => bnd (z σ) fun w => fun s => (dgetAt s x y).map fun o => .ok (o.getD w) s) s else none
inductive R where
  | nx (σ : Env) (s : S) | rt (d : D) (s : S) | bk (σ : Env) (s : S) | ct (σ : Env) (s : S) | xc (c : Str) (fs : List (Str × D)) (σ : Env) (s : S)
abbrev C := Env → S → Option R
def ex {a : Type} (σ : Env) (r : Option (Res a)) (k : a → S → Option R) : Option R := match r with
  | none => none
  | some (.ok x s) => k x s
  | some (.exc c fs s) => some (.xc c fs σ s)
def cNil : C := fun σ s => some (.nx σ s)
def cSeq (a b : C) : C := fun σ s => match a σ s with
  | some (.nx σ' s') => b σ' s'
  | r => r
def cExpr (e : E) : C := fun σ s => ex σ (e σ s) fun _ s' => some (.nx σ s')
def cRet (e : E) : C := fun σ s => ex σ (e σ s) fun d s' => some (.rt d s')
def cBrk : C := fun σ s => some (.bk σ s)
def cCnt : C := fun σ s => some (.ct σ s)
def cIf (t : T) (a b : C) : C := fun σ s => ex σ (t σ s) fun c s' => if c then a σ s' else b σ s'
/-- targets -/
abbrev G := D → Env → S → Option Env
def gName (i : Nat) : G := fun d σ _ => some (σ.set i (some d))
abbrev GL := List D → Env → S → Option Env
def gNil : GL := fun ds σ _ => match ds with
  | [] => some σ
  | _ => none
def gCons (g : G) (r : GL) : GL := fun ds σ s => match ds with
  | d :: ds => (g d σ s).bind fun σ' => r ds σ' s
  | [] => none
def gTup (k : Nat) (r : GL) : G := fun d σ s => match d with
  | .tup ds => if ds.length = k then r ds σ s else none
  | .ref n => match s[n]? with
    | some (.lst ds) => if ds.length = k then r ds σ s else none
    | _ => none
  | _ => none
def cSet (e : E) (g : G) : C := fun σ s => ex σ (e σ s) fun d s' => (g d σ s').map fun σ' => .nx σ' s'
/-- a, b = e1, e2 with two plain names, both sides reckoned first -/
def cPar (i j : Nat) (es : EL) : C := fun σ s => ex σ (es σ s) fun ds s' => match ds with
  | [x, y] => some (.nx ((σ.set i (some x)).set j (some y)) s')
  | _ => none
def cAug (i : Nat) (f : D → D → M D) (e : E) : C := fun σ s => match σ[i]? with
  | some (some x) => ex σ (e σ s) fun y s' => ex σ (f x y s') fun z s2 => some (.nx (σ.set i (some z)) s2)
  | _ => none
def cSub (o i e : E) : C := fun σ s => ex σ (e σ s) fun v s1 => ex σ (o σ s1) fun x s2 => ex σ (i σ s2) fun y s3 => match x with
  | .ref n => match s3[n]? with
    | some (.lst ds) => match y with
      | .int k => (L2.ixN ds.length k).map fun j => .nx σ (s3.set n (.lst (ds.set j v)))
      | _ => none
    | some ob => (dput ob y v).map fun o' => .nx σ (s3.set n o')
    | none => none
  | _ => none
/-- k turns are left, the next one is the i-th of the list at n, whose length stays -/
def forL (n : Nat) (g : G) (b : C) : Nat → Nat → Env → S → Option R
  | 0, i, σ, s => match lstAt s n with
    | some ds => if ds.length = i then some (.nx σ s) else none
    | none => none
  | k + 1, i, σ, s => match lstAt s n with
    | some ds => if ds.length = i + (k + 1) then match ds[i]? with
        | some d => match g d σ s with
          | some σ1 => match b σ1 s with
            | some (.nx σ2 s2) => forL n g b k (i + 1) σ2 s2
            | some (.ct σ2 s2) => forL n g b k (i + 1) σ2 s2
            | some (.bk σ2 s2) => some (.nx σ2 s2)
            | r => r
          | none => none
        | none => none
      else none
    | none => none
def forV (g : G) (b : C) : List D → Env → S → Option R
  | [], σ, s => some (.nx σ s)
  | d :: r, σ, s => match g d σ s with
    | some σ1 => match b σ1 s with
      | some (.nx σ2 s2) => forV g b r σ2 s2
      | some (.ct σ2 s2) => forV g b r σ2 s2
      | some (.bk σ2 s2) => some (.nx σ2 s2)
      | x => x
    | none => none
def setBack (n : Nat) (o : O) : Option R → Option R
  | some (.nx σ s) => some (.nx σ (s.set n o))
  | some (.rt d s) => some (.rt d (s.set n o))
  | some (.bk σ s) => some (.bk σ (s.set n o))
  | some (.ct σ s) => some (.ct σ (s.set n o))
  | some (.xc c fs σ s) => some (.xc c fs σ s)
  | none => none
/-- sources: how a thing is walked -/
inductive Src where
  | seq | keys | items | vals
def signs (x : Str) : List D := x.cps.toList.map fun c => .str ⟨#[c]⟩
def pairD (kv : L2.Key × D) : D := .tup [dOf kv.1, kv.2]
def dSrc (k : Src) (o : O) : Option (List D) := match k, o with
  | .keys, .dK kvs => some (kvs.map fun kv => dOf kv.1)
  | .keys, .dT _ => none
  | .seq, .dK kvs => some (kvs.map fun kv => dOf kv.1)
  | .seq, .dT kvs => some (kvs.map fun kv => .tup (kv.1.map dOf))
  | .items, .dK kvs => some (kvs.map pairD)
  | .vals, .dK kvs => some (kvs.map (·.2))
  | _, _ => none
/-- what is walked: values; the list at n of k items, as it stands; the dict at n, locked meanwhile -/
inductive SK where
  | vals (ds : List D) | list (n k : Nat) | dict (n : Nat) (ds : List D)
abbrev SrcE := Env → M SK
def srcOf (k : Src) (x : D) (s : S) : Option SK := match x with
  | .tup ds => match k with
    | .seq => some (.vals ds)
    | _ => none
  | .stu ds => match k with
    | .seq => some (.vals ds)
    | _ => none
  | .str z => match k with
    | .seq => some (.vals (signs z))
    | _ => none
  | .ref n => match s[n]? with
    | some (.lst ds) => match k with
      | .seq => some (.list n ds.length)
      | _ => none
    | some o => (dSrc k (unl o)).map (.dict n)
    | none => none
  | _ => none
def iSrc (k : Src) (e : E) : SrcE := fun σ => bnd (e σ) fun x s => (srcOf k x s).map fun sk => .ok sk s
def rangeL (a b : Int) : List D := (List.range (b - a).toNat).map fun (i : Nat) => .int (a + (i : Int))
def small (i : Int) : Bool := decide (-(2 ^ 62) ≤ i) && decide (i < 2 ^ 62)
def iRange (a b : E) : SrcE := fun σ => bnd (a σ) fun x => bnd (b σ) fun y s => match x, y with
  | .int i, .int j => if small i && small j then some (.ok (.vals (rangeL i j)) s) else none
  | _, _ => none
def lockV (n : Nat) (s : S) (f : S → Option R) : Option R := match s[n]? with
  | some (.lck o) => f s
  | some o => setBack n o (f (s.set n (.lck o)))
  | none => none
def cFor (src : SrcE) (g : G) (b : C) : C := fun σ s => ex σ (src σ s) fun sk s1 => match sk with
  | .vals ds => forV g b ds σ s1
  | .list n k => forL n g b k 0 σ s1
  | .dict n ds => lockV n s1 fun s2 => forV g b ds σ s2
/-- a while of at most n turns -/
def whileN (t : T) (b : C) : Nat → C
  | 0, _, _ => none
  | n + 1, σ, s => ex σ (t σ s) fun c s1 => if c then match b σ s1 with
      | some (.nx σ2 s2) => whileN t b n σ2 s2
      | some (.ct σ2 s2) => whileN t b n σ2 s2
      | some (.bk σ2 s2) => some (.nx σ2 s2)
      | r => r
    else some (.nx σ s1)
open Classical in
noncomputable def cWhile (t : T) (b : C) : C := fun σ s => if h : ∃ r, ∃ n, whileN t b n σ s = some r then some (choose h) else none
def wipe (σ : Env) : List Nat → Env
  | [] => σ
  | v :: vs => (wipe σ vs).set v none
def lcStep (D0 : Nat) (d : D) (s : S) : Option S := match s[D0]? with
  | some (.lst acc) => if acc.length < 16777216 then some (s.set D0 (.lst (acc ++ [d]))) else none
  | _ => none
def lcV (D0 : Nat) (vs : List Nat) (g : G) (t : T) (e : E) : List D → Env → S → Option S
  | [], _, s => some s
  | d :: r, σ, s => match g d (wipe σ vs) s with
    | some σ1 => match t σ1 s with
      | some (.ok true s1) => match e σ1 s1 with
        | some (.ok y s2) => (lcStep D0 y s2).bind fun s3 => lcV D0 vs g t e r σ s3
        | _ => none
      | some (.ok false s1) => lcV D0 vs g t e r σ s1
      | _ => none
    | none => none
def lcL (D0 n : Nat) (vs : List Nat) (g : G) (t : T) (e : E) : Nat → Nat → Env → S → Option S
  | 0, i, _, s => match lstAt s n with
    | some ds => if ds.length = i then some s else none
    | none => none
  | k + 1, i, σ, s => match lstAt s n with
    | some ds => if ds.length = i + (k + 1) then match ds[i]? with
        | some d => match g d (wipe σ vs) s with
          | some σ1 => match t σ1 s with
            | some (.ok true s1) => match e σ1 s1 with
              | some (.ok y s2) => (lcStep D0 y s2).bind fun s3 => lcL D0 n vs g t e k (i + 1) σ s3
              | _ => none
            | some (.ok false s1) => lcL D0 n vs g t e k (i + 1) σ s1
            | _ => none
          | none => none
        | none => none
      else none
    | none => none
def lcNew (s : S) (f : Nat → S → Option S) : Option (Res D) := (f s.length (s ++ [.lst []])).map fun s' => .ok (.ref s.length) s'
def lcDict (n : Nat) (s : S) (f : S → Option (Res D)) : Option (Res D) := match s[n]? with
  | some (.lck o) => f s
  | some o => match f (s.set n (.lck o)) with
    | some (.ok d s') => some (.ok d (s'.set n o))
    | r => r
  | none => none
def tYes : T := fun _ => ret true
def eLc (vs : List Nat) (src : SrcE) (g : G) (t : T) (e : E) : E := fun σ => bnd (src σ) fun sk s1 => match sk with
  | .vals ds => lcNew s1 fun D0 s2 => lcV D0 vs g t e ds σ s2
  | .list n k => lcNew s1 fun D0 s2 => lcL D0 n vs g t e k 0 σ s2
  | .dict n ds => lcDict n s1 fun s2 => lcNew s2 fun D0 s3 => lcV D0 vs g t e ds σ s3
abbrev F := List D → M D
/-- a def with np parameters and nn names in all -/
def defF (np nn : Nat) (b : C) : F := fun ds s => if ds.length = np then match b (ds.map some ++ List.replicate (nn - np) none) s with
  | some (.nx _ s') => some (.ok .non s')
  | some (.rt d s') => some (.ok d s')
  | some (.xc c fs _ s') => some (.exc c fs s')
  | _ => none else none
def eCall (f : F) (dfl : List D) (es : EL) : E := fun σ => bnd (es σ) fun ds => f (ds ++ dfl)
end Fc
namespace Fc
open PySem PySem.Spec PyProof.Rows L2
/-- a tuple that never changes; the script -/
def RolAt (K : PySem.W.Frag) (H : Hp) (a : Addr) (xs : List V) : Prop := SqL K H a xs ∧ ∀ H' : Hp, (∀ b o ys, H b = some (.frz o (.lst ys)) → H' b = some (.frz o (.lst ys))) → SqL K H' a xs
theorem RolAt.of {K : PySem.W.Frag} {H : Hp} {a : Addr} {xs : List V} (hO : Only H) (h : SqL K H a xs) : RolAt K H a xs := by
  refine ⟨h, fun H' k => ?_⟩
  rcases h with (h | ⟨o, h⟩) | h
  · rcases hO a with z | ⟨o, ys, z⟩
    · rw [z] at h; cases h
    · rw [z] at h; cases h
  · exact .inl (.inr ⟨o, k _ _ _ h⟩)
  · exact .inr h
/-- a tuple of the module -/
def StT (K : PySem.W.Frag) (a : Addr) (xs : List V) : Prop := ∃ (o : Obj) (its : Array Value) (n : Nat), K.lookup a = some o ∧ o.cls = .type "tuple" ∧ o.data = .seq its n ∧ its.size ≤ sizeLine ∧ Vals xs its.toList
theorem StT.sq {K : PySem.W.Frag} {H : Hp} {a : Addr} {xs : List V} (h : StT K a xs) : SqT K H a xs := .inr h
/-- where the classes stand: those of instances, those of errors -/
structure CM where
  ins : Str → Option Addr
  err : Str → Option Addr
  wld : Option World
variable (K : PySem.W.Frag) (cm : CM)
mutual
def RV (p : List Addr) (H : Hp) : D → V → Prop
  | .non, v => v = .non
  | .bl b, v => v = .bl b
  | .int i, v => v = .int i
  | .str x, v => v = .str x
  | .tup ds, v => ∃ a vs, v = .ref a ∧ H a = some (.tup vs) ∧ RVs p H ds vs
  | .rol ds, v => ∃ a vs, v = .ref a ∧ RolAt K H a vs ∧ RVs p H ds vs
  | .ref n, v => ∃ a, p[n]? = some a ∧ v = .ref a
  | .stu ds, v => ∃ a vs, v = .ref a ∧ StT K a vs ∧ RVs p H ds vs
def RVs (p : List Addr) (H : Hp) : List D → List V → Prop
  | [], vs => vs = []
  | d :: ds, vs => ∃ v r, vs = v :: r ∧ RV p H d v ∧ RVs p H ds r
end
/-- by name, by key -/
def RKs {κ : Type} (p : List Addr) (H : Hp) : List (κ × D) → List (κ × V) → Prop
  | [], vs => vs = []
  | d :: ds, vs => ∃ v r, vs = (d.1, v) :: r ∧ RV K p H d.2 v ∧ RKs p H ds r
/-- an entry of a dict whose keys are tuples of any depth -/
def entN (w : World) (x : NestedKey × Addr × Value) : DictEntry := ⟨x.1.hash w, .ref x.2.1, x.2.2⟩
/-- such a dict at a -/
def NdO (w : World) (a : Addr) (xs : List (NestedKey × Addr × Value)) : HO := .ext fun h => ∃ o es ep, h.get? a = some o ∧ o.ExactDict ∧ o.data = .dict es ep ∧ es.toList = xs.map (entN w) ∧ (xs.map (·.1)).Nodup ∧ (a == sysModules) = false ∧ xs.length ≤ sizeLine
/-- entry by entry -/
def RN (p : List Addr) (H : Hp) : List (D × D) → List (NestedKey × Addr × Value) → Prop
  | [], xs => xs = []
  | kv :: r, xs => ∃ k b v u ys, xs = (k, b, u) :: ys ∧ nkT kv.1 = some k ∧ RV K p H kv.1 (.ref b) ∧ RV K p H kv.2 v ∧ RelV v u ∧ RN p H r ys
/-- an object's content -/
def RC (p : List Addr) (H : Hp) (a : Addr) : O → HO → Prop
  | .lst ds, u => ∃ vs, u = .lst vs ∧ RVs K p H ds vs
  | .dK kvs, u => ∃ ws, u = .dK ws ∧ RKs K p H kvs ws
  | .dT kvs, u => ∃ ws, u = .dT ws ∧ RKs K p H kvs ws
  | .dN kvs, u => ∃ w xs, cm.wld = some w ∧ u = NdO w a xs ∧ RN K p H kvs xs
  | .ins c fs, u => ∃ C dx gs, cm.ins c = some C ∧ u = .ins C dx gs ∧ RKs K p H fs gs
  | .err c fs, u => False
  | .lck o, u => False
/-- a caught error at a, its own dict, if it has one -/
def ErrO (a C : Addr) (d : Option Addr) : HO := .ext fun h => ∃ oe vs, h.get? a = some oe ∧ oe.cls = .ref C ∧ oe.dict = d ∧ oe.data = .fields vs
/-- an error's own fields -/
def RDd (p : List Addr) (H : Hp) (fs : List (Str × D)) : Option Addr → Prop
  | some dd => ∃ gs, H dd = some (.xd gs) ∧ RKs K p H fs gs
  | none => fs = []
def RO (p : List Addr) (H : Hp) (a : Addr) : O → Prop
  | .err c fs => ∃ C d, cm.err c = some C ∧ H a = some (ErrO a C d) ∧ RDd K p H fs d
  | .lck o => ∃ od u, H a = some (.frz od u) ∧ Mut (some u) ∧ RC K cm p H a o u
  | o => ∃ u, H a = some u ∧ RC K cm p H a o u
structure RS (p : List Addr) (s : S) (H : Hp) : Prop where
  len : p.length = s.length
  nd : p.Nodup
  ob : ∀ (n : Nat) (o : O) (a : Addr), s[n]? = some o → p[n]? = some a → RO K cm p H a o
def RE (p : List Addr) (H : Hp) (e : Env) (σ : L2.St) : Prop := e.length = σ.length ∧ ∀ (i : Nat) (d : D), e[i]? = some (some d) → ∃ v, σ[i]? = some (some v) ∧ RV K p H d v
/-- what stays: the addresses, the tuples, the script, errors' dicts -/
structure Fut0 (p : List Addr) (H : Hp) (p' : List Addr) (H' : Hp) : Prop where
  pre : ∀ (n : Nat) (a : Addr), p[n]? = some a → p'[n]? = some a
  tup : ∀ b ys, H b = some (.tup ys) → H' b = some (.tup ys)
  frl : ∀ b o ys, H b = some (.frz o (.lst ys)) → H' b = some (.frz o (.lst ys))
  xd : ∀ b fs, H b = some (.xd fs) → H' b = some (.xd fs)
/-- .. and all that is locked -/
structure Fut (p : List Addr) (H : Hp) (p' : List Addr) (H' : Hp) : Prop extends Fut0 p H p' H' where
  frz : ∀ b o u, H b = some (.frz o u) → H' b = some (.frz o u)
theorem Fut.mk' {p : List Addr} {H : Hp} {p' : List Addr} {H' : Hp} (pre : ∀ (n : Nat) (a : Addr), p[n]? = some a → p'[n]? = some a) (tup : ∀ b ys, H b = some (.tup ys) → H' b = some (.tup ys)) (frz : ∀ b o u, H b = some (.frz o u) → H' b = some (.frz o u)) (xd : ∀ b fs, H b = some (.xd fs) → H' b = some (.xd fs)) : Fut p H p' H' :=
  ⟨⟨pre, tup, fun b o ys h => frz b o _ h, xd⟩, frz⟩
variable {K cm} {p p' p2 : List Addr} {H H' H2 : Hp}
theorem Fut.refl : Fut p H p H := .mk' (fun _ _ h => h) (fun _ _ h => h) (fun _ _ _ h => h) (fun _ _ h => h)
theorem Fut.trans (a : Fut p H p' H') (b : Fut p' H' p2 H2) : Fut p H p2 H2 := .mk' (fun n x h => b.pre n x (a.pre n x h)) (fun c ys h => b.tup c ys (a.tup c ys h)) (fun c o ys h => b.frz c o ys (a.frz c o ys h)) (fun c fs h => b.xd c fs (a.xd c fs h))
theorem Fut0.trans (a : Fut0 p H p' H') (b : Fut0 p' H' p2 H2) : Fut0 p H p2 H2 := ⟨fun n x h => b.pre n x (a.pre n x h), fun c ys h => b.tup c ys (a.tup c ys h), fun c o ys h => b.frl c o ys (a.frl c o ys h), fun c fs h => b.xd c fs (a.xd c fs h)⟩
mutual
theorem RV.mono0 (f : Fut0 p H p' H') : ∀ (d : D) {v : V}, RV K p H d v → RV K p' H' d v
  | .non, _, h => by simpa [RV] using h
  | .bl _, _, h => by simpa [RV] using h
  | .int _, _, h => by simpa [RV] using h
  | .str _, _, h => by simpa [RV] using h
  | .tup ds, _, h => by
    simp only [RV] at h ⊢
    obtain ⟨a, vs, e, t, r⟩ := h
    exact ⟨a, vs, e, f.tup a vs t, RVs.mono0 f ds r⟩
  | .rol ds, _, h => by
    simp only [RV] at h ⊢
    obtain ⟨a, vs, e, t, r⟩ := h
    exact ⟨a, vs, e, ⟨t.2 H' f.frl, fun H2 k => t.2 H2 fun b o ys q => k b o ys (f.frl b o ys q)⟩, RVs.mono0 f ds r⟩
  | .ref n, _, h => by
    simp only [RV] at h ⊢
    obtain ⟨a, e, q⟩ := h
    exact ⟨a, f.pre n a e, q⟩
  | .stu ds, _, h => by
    simp only [RV] at h ⊢
    obtain ⟨a, vs, e, t, r⟩ := h
    exact ⟨a, vs, e, t, RVs.mono0 f ds r⟩
theorem RVs.mono0 (f : Fut0 p H p' H') : ∀ (ds : List D) {vs : List V}, RVs K p H ds vs → RVs K p' H' ds vs
  | [], _, h => by simpa [RVs] using h
  | d :: ds, _, h => by
    simp only [RVs] at h ⊢
    obtain ⟨v, r, e, h1, h2⟩ := h
    exact ⟨v, r, e, RV.mono0 f d h1, RVs.mono0 f ds h2⟩
end
theorem RKs.mono0 {κ : Type} (f : Fut0 p H p' H') : ∀ (ds : List (κ × D)) {vs : List (κ × V)}, RKs K p H ds vs → RKs K p' H' ds vs
  | [], _, h => by simpa [RKs] using h
  | d :: ds, _, h => by
    simp only [RKs] at h ⊢
    obtain ⟨v, r, e, h1, h2⟩ := h
    exact ⟨v, r, e, RV.mono0 f d.2 h1, RKs.mono0 f ds h2⟩
theorem RN.mono0 (f : Fut0 p H p' H') : ∀ (ds : List (D × D)) {xs : List (NestedKey × Addr × Value)}, RN K p H ds xs → RN K p' H' ds xs
  | [], _, h => by simpa [RN] using h
  | d :: ds, _, h => by
    simp only [RN] at h ⊢
    obtain ⟨k, b, v, u, ys, e, h1, h2, h3, h4, h5⟩ := h
    exact ⟨k, b, v, u, ys, e, h1, RV.mono0 f d.1 h2, RV.mono0 f d.2 h3, h4, RN.mono0 f ds h5⟩
theorem RC.mono0 (f : Fut0 p H p' H') {a : Addr} : ∀ (o : O) {u : HO}, RC K cm p H a o u → RC K cm p' H' a o u
  | .lst ds, _, h => by
    obtain ⟨vs, e, r⟩ := h
    exact ⟨vs, e, r.mono0 f⟩
  | .dK ds, _, h => by
    obtain ⟨vs, e, r⟩ := h
    exact ⟨vs, e, r.mono0 f⟩
  | .dT ds, _, h => by
    obtain ⟨vs, e, r⟩ := h
    exact ⟨vs, e, r.mono0 f⟩
  | .dN ds, _, h => by
    obtain ⟨w, xs, e1, e, r⟩ := h
    exact ⟨w, xs, e1, e, r.mono0 f⟩
  | .ins c fs, _, h => by
    obtain ⟨C, dx, gs, e1, e, r⟩ := h
    exact ⟨C, dx, gs, e1, e, r.mono0 f⟩
  | .err _ _, _, h => h
  | .lck _, _, h => h
theorem RDd.mono0 (f : Fut0 p H p' H') {fs : List (Str × D)} : ∀ {d : Option Addr}, RDd K p H fs d → RDd K p' H' fs d
  | some _, ⟨gs, e, r⟩ => ⟨gs, f.xd _ _ e, r.mono0 f⟩
  | none, h => h
theorem RE.mono0 (f : Fut0 p H p' H') {e : Env} {σ : L2.St} (h : RE K p H e σ) : RE K p' H' e σ := ⟨h.1, fun i d q => let ⟨v, a, b⟩ := h.2 i d q; ⟨v, a, b.mono0 f⟩⟩
theorem RV.mono (f : Fut p H p' H') (d : D) {v : V} (h : RV K p H d v) : RV K p' H' d v := RV.mono0 f.toFut0 d h
theorem RVs.mono (f : Fut p H p' H') (ds : List D) {vs : List V} (h : RVs K p H ds vs) : RVs K p' H' ds vs := RVs.mono0 f.toFut0 ds h
theorem RKs.mono {κ : Type} (f : Fut p H p' H') (ds : List (κ × D)) {vs : List (κ × V)} (h : RKs K p H ds vs) : RKs K p' H' ds vs := RKs.mono0 f.toFut0 ds h
theorem RC.mono (f : Fut p H p' H') {a : Addr} (o : O) {u : HO} (h : RC K cm p H a o u) : RC K cm p' H' a o u := RC.mono0 f.toFut0 o h
theorem RDd.mono (f : Fut p H p' H') {fs : List (Str × D)} {d : Option Addr} (h : RDd K p H fs d) : RDd K p' H' fs d := RDd.mono0 f.toFut0 h
theorem RE.mono (f : Fut p H p' H') {e : Env} {σ : L2.St} (h : RE K p H e σ) : RE K p' H' e σ := h.mono0 f.toFut0
theorem RVs.length : ∀ {ds : List D} {vs : List V}, RVs K p H ds vs → ds.length = vs.length
  | [], _, h => by simp only [RVs] at h; rw [h]; rfl
  | d :: ds, _, h => by
    simp only [RVs] at h
    obtain ⟨v, r, e, _, h2⟩ := h
    rw [e, List.length_cons, List.length_cons, RVs.length h2]
theorem RVs.get : ∀ {ds : List D} {vs : List V} {i : Nat} {d : D}, RVs K p H ds vs → ds[i]? = some d → ∃ v, vs[i]? = some v ∧ RV K p H d v
  | [], _, _, _, _, e => by simp at e
  | d :: ds, _, 0, _, h, e => by
    simp only [RVs] at h
    obtain ⟨v, r, e', h1, _⟩ := h
    simp at e; subst e
    exact ⟨v, by rw [e']; rfl, h1⟩
  | d :: ds, _, i + 1, d', h, e => by
    simp only [RVs] at h
    obtain ⟨v, r, e', _, h2⟩ := h
    obtain ⟨w, q1, q2⟩ := RVs.get (i := i) (d := d') h2 (by simpa using e)
    exact ⟨w, by rw [e']; simpa using q1, q2⟩
theorem RVs.append : ∀ {ds es : List D} {vs ws : List V}, RVs K p H ds vs → RVs K p H es ws → RVs K p H (ds ++ es) (vs ++ ws)
  | [], _, _, _, h, k => by simp only [RVs] at h; rw [h]; exact k
  | d :: ds, es, _, ws, h, k => by
    simp only [RVs] at h
    obtain ⟨v, r, e, h1, h2⟩ := h
    rw [e]
    show RVs K p H (d :: (ds ++ es)) (v :: (r ++ ws))
    simp only [RVs]
    exact ⟨v, _, rfl, h1, RVs.append h2 k⟩
theorem RVs.of_get : ∀ {ds : List D} {vs : List V}, ds.length = vs.length → (∀ (i : Nat) d v, ds[i]? = some d → vs[i]? = some v → RV K p H d v) → RVs K p H ds vs
  | [], [], _, _ => by simp only [RVs]
  | [], _ :: _, l, _ => by simp at l
  | _ :: _, [], l, _ => by simp at l
  | d :: ds, v :: vs, l, h => by
    simp only [RVs]
    exact ⟨v, vs, rfl, h 0 d v rfl rfl, RVs.of_get (by simpa using l) fun i d' v' e1 e2 => h (i + 1) d' v' (by simpa using e1) (by simpa using e2)⟩
theorem RVs.drop {ds : List D} {vs : List V} (h : RVs K p H ds vs) (n : Nat) : RVs K p H (ds.drop n) (vs.drop n) := by
  refine RVs.of_get (by simp [h.length]) fun i d v e1 e2 => ?_
  rw [List.getElem?_drop] at e1 e2
  obtain ⟨w, q1, q2⟩ := h.get e1
  rw [e2] at q1; cases q1; exact q2
theorem RVs.take {ds : List D} {vs : List V} (h : RVs K p H ds vs) (n : Nat) : RVs K p H (ds.take n) (vs.take n) := by
  refine RVs.of_get (by simp [h.length]) fun i d v e1 e2 => ?_
  rw [List.getElem?_take] at e1 e2
  split at e1
  · rename_i hi
    rw [if_pos hi] at e2
    obtain ⟨w, q1, q2⟩ := h.get e1
    rw [e2] at q1; cases q1; exact q2
  · cases e1
theorem RVs.set {ds : List D} {vs : List V} (h : RVs K p H ds vs) (n : Nat) {d : D} {v : V} (r : RV K p H d v) : RVs K p H (ds.set n d) (vs.set n v) := by
  have hl := h.length
  refine RVs.of_get (by simp [hl]) fun i d' v' e1 e2 => ?_
  rw [List.getElem?_set] at e1 e2
  by_cases hi : n = i
  · rw [if_pos hi] at e1 e2
    split at e1
    · rename_i h1
      rw [if_pos (by omega)] at e2
      cases e1; cases e2; exact r
    · cases e1
  · rw [if_neg hi] at e1 e2
    obtain ⟨w, q1, q2⟩ := h.get e1
    rw [e2] at q1; cases q1; exact q2
/-- one address for each number -/
theorem RS.at (r : RS K cm p s H) {n : Nat} {o : O} (h : s[n]? = some o) : ∃ a, p[n]? = some a ∧ RO K cm p H a o := by
  have hn := (List.getElem?_eq_some_iff.mp h).1
  have e : p[n]? = some (p[n]'(by rw [r.len]; exact hn)) := by simp [r.len, hn]
  exact ⟨_, e, r.ob n o _ h e⟩
theorem RO.some {a : Addr} {o : O} (h : RO K cm p H a o) : ∃ u, H a = some u := by
  cases o with
  | lck o => obtain ⟨od, u, e, _⟩ := h; exact ⟨_, e⟩
  | lst _ => obtain ⟨u, e, _⟩ := h; exact ⟨_, e⟩
  | dK _ => obtain ⟨u, e, _⟩ := h; exact ⟨_, e⟩
  | dT _ => obtain ⟨u, e, _⟩ := h; exact ⟨_, e⟩
  | dN _ => obtain ⟨u, e, _⟩ := h; exact ⟨_, e⟩
  | ins _ _ => obtain ⟨u, e, _⟩ := h; exact ⟨_, e⟩
  | err _ _ => obtain ⟨_, _, _, e, _⟩ := h; exact ⟨_, e⟩
theorem RS.not_mem (r : RS K cm p s H) {a : Addr} (h : H a = none) : a ∉ p := fun hm => by
  obtain ⟨n, hn, e⟩ := List.getElem_of_mem hm
  have e' : p[n]? = some a := by rw [← e]; simp [hn]
  have hs : n < s.length := by rw [← r.len]; exact hn
  obtain ⟨u, q⟩ := (r.ob n s[n] a (by simp [hs]) e').some
  rw [h] at q; cases q
theorem RO.keep0 {a : Addr} {o : O} (h : RO K cm p H a o) (f : Fut0 p H p' H') (ha : H' a = H a) : RO K cm p' H' a o := by
  cases o with
  | lck o => obtain ⟨od, u, e, m, r⟩ := h; exact ⟨od, u, ha.trans e, m, r.mono0 f⟩
  | lst _ => obtain ⟨u, e, r⟩ := h; exact ⟨u, ha.trans e, r.mono0 f⟩
  | dK _ => obtain ⟨u, e, r⟩ := h; exact ⟨u, ha.trans e, r.mono0 f⟩
  | dT _ => obtain ⟨u, e, r⟩ := h; exact ⟨u, ha.trans e, r.mono0 f⟩
  | dN _ => obtain ⟨u, e, r⟩ := h; exact ⟨u, ha.trans e, RC.mono0 f _ r⟩
  | ins _ _ => obtain ⟨u, e, r⟩ := h; exact ⟨u, ha.trans e, r.mono0 f⟩
  | err _ _ => obtain ⟨C, d, e1, e2, r⟩ := h; exact ⟨C, d, e1, ha.trans e2, r.mono0 f⟩
theorem RO.keep {a : Addr} {o : O} (h : RO K cm p H a o) (f : Fut p H p' H') (ha : H' a = H a) : RO K cm p' H' a o := h.keep0 f.toFut0 ha
/-- all that is tracked stays -/
theorem Fut.same (k : Same H H') : Fut p H p H' := .mk' (fun _ _ h => h) (fun b ys h => k b _ h) (fun b o ys h => k b _ h) (fun b fs h => k b _ h)
theorem RS.same (r : RS K cm p s H) (k : Same H H') : RS K cm p s H' := ⟨r.len, r.nd, fun n o a h1 h2 => by
  have q := r.ob n o a h1 h2
  obtain ⟨u, e⟩ := q.some
  exact q.keep (Fut.same k) ((k a u e).trans e.symm)⟩
theorem same_new {a : Addr} {u : HO} (h : H a = none) : Same H (upd H a u) := fun b o e => by rw [upd_ne (ne_of_none e h)]; exact e
/-- a new object -/
theorem Fut.new {a : Addr} {u : HO} (h : H a = none) : Fut p H (p ++ [a]) (upd H a u) :=
  .mk' (fun n b e => by rw [List.getElem?_append_left (List.getElem?_eq_some_iff.mp e).1]; exact e) (Fut.same (p := p) (same_new h)).tup (Fut.same (p := p) (same_new h)).frz (Fut.same (p := p) (same_new h)).xd
theorem RS.newO (r : RS K cm p s H) {a : Addr} {u : HO} {o : O} (h : H a = none) (c : RO K cm (p ++ [a]) (upd H a u) a o) : RS K cm (p ++ [a]) (s ++ [o]) (upd H a u) ∧ (p ++ [a])[s.length]? = some a := by
  have f : Fut p H (p ++ [a]) (upd H a u) := Fut.new h
  refine ⟨⟨by simp [r.len], ?_, fun n o' b h1 h2 => ?_⟩, by rw [← r.len]; simp⟩
  · rw [List.nodup_append]
    refine ⟨r.nd, by simp, fun x hx y hy e => ?_⟩
    simp at hy; subst hy; subst e
    exact r.not_mem h hx
  · by_cases hn : n < s.length
    · rw [List.getElem?_append_left hn] at h1
      rw [List.getElem?_append_left (by rw [r.len]; exact hn)] at h2
      have q := r.ob n o' b h1 h2
      refine q.keep f (upd_ne fun e => ?_)
      subst e
      exact r.not_mem h (List.mem_of_getElem? h2)
    · have e : n = s.length := by
        have := (List.getElem?_eq_some_iff.mp h1).1
        simp at this; omega
      subst e
      simp at h1; subst h1
      rw [← r.len] at h2; simp at h2; subst h2
      exact c
theorem RC.ro {a : Addr} {u : HO} {o : O} (c : RC K cm p H a o u) (h : H a = some u) : RO K cm p H a o := by
  cases o with
  | lck o => exact False.elim c
  | err _ _ => exact False.elim c
  | lst _ => exact ⟨u, h, c⟩
  | dK _ => exact ⟨u, h, c⟩
  | dT _ => exact ⟨u, h, c⟩
  | dN _ => exact ⟨u, h, c⟩
  | ins _ _ => exact ⟨u, h, c⟩
theorem RS.new (r : RS K cm p s H) {a : Addr} {u : HO} {o : O} (h : H a = none) (c : RC K cm p H a o u) : Fut p H (p ++ [a]) (upd H a u) ∧ RS K cm (p ++ [a]) (s ++ [o]) (upd H a u) ∧ (p ++ [a])[s.length]? = some a :=
  ⟨Fut.new h, r.newO h ((c.mono (Fut.new h)).ro upd_same)⟩
/-- an object is changed -/
theorem put_at {b : Addr} {a : Addr} {u u0 w : HO} (h0 : H a = some u0) (hm : Mut (some u0)) (e : H b = some w) (hn : ¬ Mut (some w)) : upd H a u b = some w := by
  rw [upd_ne fun z => ?_]
  · exact e
  · subst z; rw [h0] at e; cases e; exact hn hm
theorem Fut.put {a : Addr} {u u0 : HO} (h0 : H a = some u0) (hm : Mut (some u0)) : Fut p H p (upd H a u) :=
  .mk' (fun _ _ e => e) (fun b ys e => put_at h0 hm e fun z => z) (fun b o ys e => put_at h0 hm e fun z => z) (fun b fs e => put_at h0 hm e fun z => z)
theorem RS.putO (r : RS K cm p s H) {n : Nat} {a : Addr} {u u0 : HO} {o : O} (ha : p[n]? = some a) (h0 : H a = some u0) (f : Fut0 p H p (upd H a u)) (c : RO K cm p (upd H a u) a o) : RS K cm p (s.set n o) (upd H a u) := by
  refine ⟨by simp [r.len], r.nd, fun k o' b h1 h2 => ?_⟩
  by_cases hk : n = k
  · subst hk
    rw [ha] at h2; cases h2
    have hn : n < s.length := by rw [← r.len]; exact (List.getElem?_eq_some_iff.mp ha).1
    rw [List.getElem?_set_self hn] at h1; cases h1
    exact c
  · rw [List.getElem?_set_ne hk] at h1
    have q := r.ob k o' b h1 h2
    refine q.keep0 f (upd_ne fun e => ?_)
    subst e
    have l1 := (List.getElem?_eq_some_iff.mp ha).1
    have l2 := (List.getElem?_eq_some_iff.mp h2).1
    exact hk ((List.getElem_inj r.nd (h₀ := l1) (h₁ := l2)).mp (by rw [(List.getElem?_eq_some_iff.mp ha).2, (List.getElem?_eq_some_iff.mp h2).2]))
theorem RS.put (r : RS K cm p s H) {n : Nat} {a : Addr} {u u0 : HO} {o : O} (ha : p[n]? = some a) (h0 : H a = some u0) (hm : Mut (some u0)) (c : RC K cm p H a o u) : Fut p H p (upd H a u) ∧ RS K cm p (s.set n o) (upd H a u) :=
  ⟨Fut.put h0 hm, r.putO ha h0 (Fut.put h0 hm).toFut0 ((c.mono (Fut.put h0 hm)).ro upd_same)⟩
end Fc
namespace L2
open PySem
theorem PE.imp {X : Cx} {x : Expr} {t t' : TE} (h : PE X x t) (k : ∀ σ H Q, t' σ H Q → t σ H Q) : PE X x t' := ⟨fun pins s σ H Q I q => h.run pins s σ H Q I (k σ H Q q)⟩
theorem PT.imp {X : Cx} {x : Expr} {t t' : TT} (h : PT X x t) (k : ∀ σ H Q, t' σ H Q → t σ H Q) : PT X x t' := ⟨fun pins s σ H Q I q => h.run pins s σ H Q I (k σ H Q q)⟩
theorem PW.imp {X : Cx} {x : Expr} {t t' : TT} (h : PW X x t) (k : ∀ σ H Q, t' σ H Q → t σ H Q) : PW X x t' := ⟨fun w pins s σ H Q I q => h.run w pins s σ H Q I (k σ H Q q)⟩
theorem PA.imp {X : Cx} {x : List Expr} {t t' : TA} (h : PA X x t) (k : ∀ σ H Q, t' σ H Q → t σ H Q) : PA X x t' := ⟨fun w pins s σ H Q I q => h.run w pins s σ H Q I (k σ H Q q)⟩
theorem PO.imp {X : Cx} {x : Option Expr} {t t' : TO} (h : PO X x t) (k : ∀ σ H Q, t' σ H Q → t σ H Q) : PO X x t' := ⟨fun pins s σ H Q I q => h.run pins s σ H Q I (k σ H Q q)⟩
theorem PE.or {X : Cx} {x : Expr} {t t' : TE} (h : PE X x t) (h' : PE X x t') : PE X x (fun σ H Q => t σ H Q ∨ t' σ H Q) := ⟨fun pins s σ H Q I q => q.elim (h.run pins s σ H Q I) (h'.run pins s σ H Q I)⟩
end L2
namespace Fc
open PySem PySem.Spec PyProof.Rows L2
/-- an error in the air: its class, its own dict's fields -/
def RX (K : PySem.W.Frag) (cm : CM) (p : List Addr) (H : Hp) (c : Str) (fs : List (Str × D)) (cls : Value) (d : Option Addr) : Prop :=
  ∃ C, cm.err c = some C ∧ cls = .ref C ∧ RDd K p H fs d
/-- what a result must give -/
def Po {a b : Type} (K : PySem.W.Frag) (cm : CM) (W : WX) (rel : List Addr → Hp → a → b → Prop) (p : List Addr) (σ : L2.St) (H : Hp) (r : Option (Res a)) (Q : b → Hp → Prop) : Prop := match r with
  | none => False
  | some (.ok d s') => ∀ p' H' v, Fut p H p' H' → RS K cm p' s' H' → rel p' H' d v → Q v H'
  | some (.exc c fs s') => ∀ p' H' cls dd, Fut p H p' H' → RS K cm p' s' H' → RX K cm p' H' c fs cls dd → W cls dd σ H'
section
variable {K : PySem.W.Frag} {cm : CM} {W : WX} {p p' : List Addr} {σ : L2.St} {H H' : Hp}
theorem Po.fut {a b : Type} {rel : List Addr → Hp → a → b → Prop} {r : Option (Res a)} {Q : b → Hp → Prop} (h : Po K cm W rel p σ H r Q) (f : Fut p H p' H') : Po K cm W rel p' σ H' r Q := by
  match r, h with
  | some (.ok d s'), h => exact fun p2 H2 v f2 => h p2 H2 v (f.trans f2)
  | some (.exc c fs s'), h => exact fun p2 H2 cls dd f2 => h p2 H2 cls dd (f.trans f2)
theorem Po.imp {a b : Type} {rel : List Addr → Hp → a → b → Prop} {r : Option (Res a)} {Q Q' : b → Hp → Prop} (h : Po K cm W rel p σ H r Q) (k : ∀ v H, Q v H → Q' v H) : Po K cm W rel p σ H r Q' := by
  match r, h with
  | some (.ok d s'), h => exact fun p2 H2 v f2 r2 q => k _ _ (h p2 H2 v f2 r2 q)
  | some (.exc c fs s'), h => exact h
/-- one thing behind another -/
theorem Po.bnd {a b c d : Type} {rel1 : List Addr → Hp → a → b → Prop} {rel2 : List Addr → Hp → c → d → Prop} {m : M a} {k : a → M c} {s : S} {Q : d → Hp → Prop} (h : Po K cm W rel2 p σ H (bnd m k s) Q) :
    Po K cm W rel1 p σ H (m s) fun x H1 => ∃ y p1 s1, Fut p H p1 H1 ∧ RS K cm p1 s1 H1 ∧ rel1 p1 H1 y x ∧ Po K cm W rel2 p1 σ H1 (k y s1) Q := by
  unfold Fc.bnd at h
  match e : m s, h with
  | none, h => exact h
  | some (.exc x fs s'), h => exact h
  | some (.ok y s'), h => exact fun p1 H1 v f r q => ⟨y, p1, s', f, r, q, Po.fut h f⟩
theorem Po.ok {a b : Type} {rel : List Addr → Hp → a → b → Prop} {x : a} {s : S} {Q : b → Hp → Prop} {v : b} (h : Po K cm W rel p σ H (some (.ok x s)) Q) (r : RS K cm p s H) (q : rel p H x v) : Q v H := h p H v Fut.refl r q
end
variable (K : PySem.W.Frag) (cm : CM) (W : WX)
def rB : List Addr → Hp → Bool → Bool → Prop := fun _ _ a b => a = b
def rI' : List Addr → Hp → Option Int → Option Int → Prop := fun _ _ a b => a = b
/-- an expression's, a test's, an argument list's, a slice part's reading -/
def tD (f : E) : TE := fun σ H Q => ∃ p e s, RE K p H e σ ∧ RS K cm p s H ∧ Po K cm W (RV K) p σ H (f e s) Q
def tT (f : T) : TT := fun σ H Q => ∃ p e s, RE K p H e σ ∧ RS K cm p s H ∧ Po K cm W rB p σ H (f e s) Q
def tL (f : EL) : TA := fun σ H Q => ∃ p e s, RE K p H e σ ∧ RS K cm p s H ∧ Po K cm W (RVs K) p σ H (f e s) Q
def tO (f : EO) : TO := fun σ H Q => ∃ p e s, RE K p H e σ ∧ RS K cm p s H ∧ Po K cm W rI' p σ H (f e s) Q
variable {K cm W}
section
variable (X : Cx) (cm : CM) (W : WX)
abbrev JE (x : Expr) (f : E) : Prop := PE X x (tD X.K cm W f)
abbrev JT (x : Expr) (f : T) : Prop := PT X x (tT X.K cm W f)
abbrev JW (x : Expr) (f : T) : Prop := PW X x (tT X.K cm W f)
abbrev JA (x : List Expr) (f : EL) : Prop := PA X x (tL X.K cm W f)
abbrev JO (x : Option Expr) (f : EO) : Prop := PO X x (tO X.K cm W f)
/-- an operator by values -/
def S2 (fv : Value → Value → Sem Value) (op : D → D → M D) : Prop := ∃ r : R2, OpR X fv r ∧ ∀ (W : WX) p s σ H x y dx dy Q, RS X.K cm p s H → RV X.K p H dx x → RV X.K p H dy y → Po X.K cm W (RV X.K) p σ H (op dx dy s) Q → r x y H Q
def SN (fv : Value) (op : List D → M D) : Prop := ∃ r : List V → Hp → VK → Prop, CallR X fv r ∧ ∀ (W : WX) p s σ H xs ds Q, RS X.K cm p s H → RVs X.K p H ds xs → Po X.K cm W (RV X.K) p σ H (op ds s) Q → r xs H Q
end
section
variable {σ : L2.St} {H : Hp}
theorem tD.bnd {f : E} {k : D → M D} {Q : VK} (h : tD K cm W (fun e => bnd (f e) k) σ H Q) : tD K cm W f σ H fun x H1 => ∃ p e s d, RE K p H1 e σ ∧ RS K cm p s H1 ∧ RV K p H1 d x ∧ Po K cm W (RV K) p σ H1 (k d s) Q := by
  obtain ⟨p, e, s, re, rs, q⟩ := h
  refine ⟨p, e, s, re, rs, (Po.bnd (rel1 := RV K) q).imp ?_⟩
  rintro v H1 ⟨d, p1, s1, f, rs1, rv, q1⟩
  exact ⟨p1, e, s1, d, re.mono f, rs1, rv, q1⟩
theorem tD.two {a b : E} {k : D → D → M D} {Q : VK} (h : tD K cm W (e2 k a b) σ H Q) : tD K cm W a σ H fun x H1 => tD K cm W b σ H1 fun y H2 => ∃ p e s d1 d2, RE K p H2 e σ ∧ RS K cm p s H2 ∧ RV K p H2 d1 x ∧ RV K p H2 d2 y ∧ Po K cm W (RV K) p σ H2 (k d1 d2 s) Q := by
  obtain ⟨p, e, s, re, rs, q⟩ := h
  refine ⟨p, e, s, re, rs, (Po.bnd (rel1 := RV K) q).imp ?_⟩
  rintro v H1 ⟨d, p1, s1, f, rs1, rv, q1⟩
  refine ⟨p1, e, s1, re.mono f, rs1, (Po.bnd (rel1 := RV K) q1).imp ?_⟩
  rintro w H2 ⟨d', p2, s2, f2, rs2, rw', q2⟩
  exact ⟨p2, e, s2, d, d', (re.mono f).mono f2, rs2, rv.mono f2, rw', q2⟩
theorem tD.args {es : EL} {k : List D → M D} {Q : VK} (h : tD K cm W (eN k es) σ H Q) : tL K cm W es σ H fun xs H1 => ∃ p e s ds, RE K p H1 e σ ∧ RS K cm p s H1 ∧ RVs K p H1 ds xs ∧ Po K cm W (RV K) p σ H1 (k ds s) Q := by
  obtain ⟨p, e, s, re, rs, q⟩ := h
  refine ⟨p, e, s, re, rs, (Po.bnd (rel1 := RVs K) q).imp ?_⟩
  rintro v H1 ⟨d, p1, s1, f, rs1, rv, q1⟩
  exact ⟨p1, e, s1, d, re.mono f, rs1, rv, q1⟩
end
section
variable {X : Cx} {a b c : Expr} {fa fb fc : E} {pos : Pos}
theorem r_var (i : Nat) {x : Str} {pos : Pos} (hN : X.N[i]? = some x := by rfl) (hv : Vis X.env.scope x := by first | exact Or.inl rfl | exact Or.inr (Or.inl rfl) | exact Or.inr (Or.inr rfl)) (hd : (x == ("__debug__" : Str)) = false := by decide)
    (hcd : (x == ("__classdict__" : Str)) = false := by decide) : JE X cm W (.Name x pos) (eVar i) := by
  refine (pe_var hN hv hd hcd).imp ?_
  rintro σ H Q ⟨p, e, s, re, rs, q⟩
  unfold eVar at q
  match h : e[i]?, q with
  | some (some d), q =>
    obtain ⟨v, h1, h2⟩ := re.2 i d h
    exact ⟨v, h1, q.ok rs h2⟩
theorem r_const {x : Expr} {d : D} {v : V} (h : PE X x (tC v)) (r : ∀ p H, RV X.K p H d v) : JE X cm W x (eC d) := by
  refine h.imp ?_
  rintro σ H Q ⟨p, e, s, re, rs, q⟩
  exact Po.ok q rs (r p H)
theorem r_int {i : Int} {j pos} : JE X cm W (.Constant (.int i) j pos) (eC (.int i)) := r_const pe_int fun _ _ => by simp [RV]
theorem r_bl {i : Bool} {j pos} : JE X cm W (.Constant (.bool i) j pos) (eC (.bl i)) := r_const pe_bl fun _ _ => by simp [RV]
theorem r_non {j pos} : JE X cm W (.Constant .none j pos) (eC .non) := r_const pe_non fun _ _ => by simp [RV]
theorem r_str {x : Str} {j pos} : JE X cm W (.Constant (.str x) j pos) (eC (.str x)) := r_const pe_str fun _ _ => by simp [RV]
/-- a constant of the module -/
structure GlobC (K : PySem.W.Frag) (mg : Str → Option Value) (x : Str) (d : D) : Prop where
  ex : ∃ v u, mg x = some u ∧ RelV v u ∧ ∀ p H, RV K p H d v
theorem r_glob {x : Str} {d : D} {pos : Pos} (h : GlobC X.K X.mg x d) (hg : Gl X x := by rfl) (hd : (x == ("__debug__" : Str)) = false := by decide) : JE X cm W (.Name x pos) (eC d) := by
  obtain ⟨v, u, h1, h2, h3⟩ := h.ex
  exact r_const (pe_glob hg h1 h2 hd) h3
theorem r_op {op : Operator} {f : D → D → M D} (ho : S2 X cm (binaryOp op) f) (ha : JE X cm W a fa) (hb : JE X cm W b fb) : JE X cm W (.BinOp a op b pos) (e2 f fa fb) := by
  obtain ⟨r, h1, h2⟩ := ho
  refine (pe_op h1 ha hb).imp fun σ H Q q => ?_
  refine (?_ : tOp r _ _ σ H Q)
  obtain ⟨p, e, s, re, rs, q⟩ := tD.two q
  refine ⟨p, e, s, re, rs, q.imp ?_⟩
  rintro x H1 ⟨p, e, s, re, rs, q⟩
  refine ⟨p, e, s, re, rs, q.imp ?_⟩
  rintro y H2 ⟨p, e, s, d1, d2, re, rs, r1, r2, q⟩
  exact h2 W p s σ H2 x y d1 d2 Q rs r1 r2 q
theorem r_cmp {op : CmpOp} {f : D → D → M D} (ho : S2 X cm (compareOp op) f) (ha : JE X cm W a fa) (hb : JE X cm W b fb) (hm : behindInMarks op b = false := by first | exact nomark _ | rfl) : JE X cm W (.Compare a [op] [b] pos) (e2 f fa fb) := by
  obtain ⟨r, h1, h2⟩ := ho
  refine (pe_cmpR h1 ha hb hm).imp fun σ H Q q => ?_
  refine (?_ : tOp r _ _ σ H Q)
  obtain ⟨p, e, s, re, rs, q⟩ := tD.two q
  refine ⟨p, e, s, re, rs, q.imp ?_⟩
  rintro x H1 ⟨p, e, s, re, rs, q⟩
  refine ⟨p, e, s, re, rs, q.imp ?_⟩
  rintro y H2 ⟨p, e, s, d1, d2, re, rs, r1, r2, q⟩
  exact h2 W p s σ H2 x y d1 d2 Q rs r1 r2 q
end
end Fc
namespace Fc
open PySem PySem.Spec PyProof.Rows L2
section
variable {K : PySem.W.Frag} {cm : CM} {W : WX} {p : List Addr} {s : S} {σ : L2.St} {H : Hp}
theorem lst_at (rs : RS K cm p s H) {n : Nat} {x : V} {ds : List D} (r : RV K p H (.ref n) x) (h : s[n]? = some (.lst ds)) : ∃ a vs, x = .ref a ∧ p[n]? = some a ∧ H a = some (.lst vs) ∧ RVs K p H ds vs := by
  simp only [RV] at r
  obtain ⟨a, ha, rfl⟩ := r
  obtain ⟨b, hb, u, e, vs, rfl, q⟩ := rs.at h
  rw [ha] at hb; cases hb
  exact ⟨a, vs, rfl, ha, e, q⟩
theorem rv_int {x : V} {i : Int} (r : RV K p H (.int i) x) : x = .int i := by simpa [RV] using r
theorem rv_bl {x : V} {i : Bool} (r : RV K p H (.bl i) x) : x = .bl i := by simpa [RV] using r
theorem rv_str {x : V} {i : Str} (r : RV K p H (.str i) x) : x = .str i := by simpa [RV] using r
theorem rv_non {x : V} (r : RV K p H .non x) : x = .non := by simpa [RV] using r
theorem rv_tup {x : V} {ds : List D} (r : RV K p H (.tup ds) x) : ∃ a vs, x = .ref a ∧ H a = some (.tup vs) ∧ RVs K p H ds vs := by simpa [RV] using r
theorem mk_int (i : Int) : RV K p H (.int i) (.int i) := by simp [RV]
theorem mk_bl (i : Bool) : RV K p H (.bl i) (.bl i) := by simp [RV]
theorem mk_str (i : Str) : RV K p H (.str i) (.str i) := by simp [RV]
theorem mk_non : RV K p H .non .non := by simp [RV]
theorem mk_tup {a : Addr} {vs : List V} {ds : List D} (h : H a = some (.tup vs)) (r : RVs K p H ds vs) : RV K p H (.tup ds) (.ref a) := by
  simp only [RV]
  exact ⟨a, vs, rfl, h, r⟩
theorem mk_ref {a : Addr} {n : Nat} (h : p[n]? = some a) : RV K p H (.ref n) (.ref a) := by
  simp only [RV]
  exact ⟨a, h, rfl⟩
theorem sz_ok {n : Nat} (h : sz n = true) : n ≤ sizeLine := by rw [sizeLine_eq]; exact of_decide_eq_true h
/-- a new list, a new tuple -/
theorem Po.newl {ds : List D} {vs : List V} {Q : VK} (h : Po K cm W (RV K) p σ H (new (.lst ds) s) Q) (rs : RS K cm p s H) (r : RVs K p H ds vs) {a : Addr} (ha : H a = none) : Q (.ref a) (upd H a (.lst vs)) := by
  obtain ⟨f, rs', e⟩ := rs.new (o := .lst ds) (u := .lst vs) ha ⟨vs, rfl, r⟩
  exact h _ _ _ f rs' (mk_ref e)
theorem Po.newt {ds : List D} {vs : List V} {Q : VK} (h : Po K cm W (RV K) p σ H (some (.ok (.tup ds) s)) Q) (rs : RS K cm p s H) (r : RVs K p H ds vs) {a : Addr} (ha : H a = none) : Q (.ref a) (upd H a (.tup vs)) := by
  have k := same_new (u := HO.tup vs) ha
  exact h _ _ _ (Fut.same k) (rs.same k) (mk_tup upd_same (r.mono (Fut.same k)))
mutual
theorem dat_ok (rs : RS K cm p s H) : ∀ (n : Nat) (d : D) {v : V} {x : PyData}, RV K p H d v → dat s n d = some x → Dp K H v x
  | n, .non, v, x, r, e => by
    cases n <;> (simp only [dat] at e; cases e; rw [rv_non r]; exact .non)
  | n, .bl b, v, x, r, e => by
    cases n <;> (simp only [dat] at e; cases e; rw [rv_bl r]; exact .bl b)
  | n, .int b, v, x, r, e => by
    cases n <;> (simp only [dat] at e; cases e; rw [rv_int r]; exact .int b)
  | n, .str b, v, x, r, e => by
    cases n <;> (simp only [dat] at e; cases e; rw [rv_str r]; exact .str b)
  | n, .rol b, v, x, r, e => by
    cases n <;> (simp only [dat] at e; cases e)
  | 0, .tup ds, v, x, r, e => by simp only [dat] at e; cases e
  | 0, .ref a, v, x, r, e => by simp only [dat] at e; cases e
  | 0, .stu ds, v, x, r, e => by simp only [dat] at e; cases e
  | n + 1, .stu ds, v, x, r, e => by
    simp only [dat, Option.map_eq_some_iff] at e
    obtain ⟨xs, e, rfl⟩ := e
    simp only [RV] at r
    obtain ⟨a, vs, rfl, h, q⟩ := r
    exact .tup h.sq (dats_ok rs n ds q e)
  | n + 1, .tup ds, v, x, r, e => by
    simp only [dat, Option.map_eq_some_iff] at e
    obtain ⟨xs, e, rfl⟩ := e
    obtain ⟨a, vs, rfl, h, q⟩ := rv_tup r
    exact .tup (SqT.of h) (dats_ok rs n ds q e)
  | n + 1, .ref a, v, x, r, e => by
    simp only [dat, lstAt] at e
    cases h : s[a]? with
    | none => rw [h] at e; cases e
    | some o =>
      rw [h] at e
      cases o with
      | lst ds =>
        obtain ⟨xs, e1, rfl⟩ := Option.map_eq_some_iff.mp e
        obtain ⟨b, vs, rfl, _, hb, q⟩ := lst_at rs r h
        exact .lst (SqL.of hb) (dats_ok rs n ds q e1)
      | _ => cases e
theorem dats_ok (rs : RS K cm p s H) : ∀ (n : Nat) (ds : List D) {vs : List V} {xs : List PyData}, RVs K p H ds vs → dats s n ds = some xs → DpAll K H vs xs
  | n, [], vs, xs, r, e => by
    cases n <;> (simp only [dats] at e; cases e; simp only [RVs] at r; rw [r]; exact .nil)
  | n, d :: ds, vs, xs, r, e => by
    simp only [RVs] at r
    obtain ⟨v, r', rfl, r1, r2⟩ := r
    simp only [dats] at e
    split at e
    · rename_i x xs' e1 e2
      cases e
      exact .cons (dat_ok rs n d r1 e1) (dats_ok rs n ds r2 e2)
    · cases e
end
/-- plain keys -/
theorem key_ok {d : D} {k : Key} {v : V} (h : keyOf d = some k) (r : RV K p H d v) : v = kV k := by
  cases d <;> simp only [keyOf] at h <;> first | (cases h; done) | skip
  · cases h; exact rv_int r
  · cases h; exact rv_str r
theorem keys_ok : ∀ {ds : List D} {ks : List Key} {vs : List V}, keysOf ds = some ks → RVs K p H ds vs → vs = ks.map kV
  | [], ks, vs, h, r => by
    simp only [keysOf] at h; cases h
    simp only [RVs] at r; rw [r]; rfl
  | d :: ds, ks, vs, h, r => by
    simp only [keysOf] at h
    simp only [RVs] at r
    obtain ⟨v, r', rfl, r1, r2⟩ := r
    split at h
    · rename_i k ks' e1 e2
      cases h
      rw [key_ok e1 r1, keys_ok e2 r2]; rfl
    · cases h
theorem RKs.get {κ : Type} [DecidableEq κ] (k : κ) : ∀ {ds : List (κ × D)} {vs : List (κ × V)}, RKs K p H ds vs → (∀ d, kget ds k = some d → ∃ v, valV vs k = some v ∧ RV K p H d v) ∧ (kget ds k = none → valV vs k = none)
  | [], vs, r => by
    simp only [RKs] at r; subst r
    exact ⟨fun d e => by simp [kget] at e, fun _ => rfl⟩
  | d :: ds, vs, r => by
    simp only [RKs] at r
    obtain ⟨v, r', rfl, r1, r2⟩ := r
    have ih := RKs.get k r2
    by_cases hk : d.1 = k
    · refine ⟨fun x e => ?_, fun e => ?_⟩
      · simp [kget, hk] at e; subst e
        exact ⟨v, by rw [valV_pos hk], r1⟩
      · simp [kget, hk] at e
    · refine ⟨fun x e => ?_, fun e => ?_⟩
      · have e' : kget ds k = some x := by simpa [kget, hk] using e
        obtain ⟨w, q1, q2⟩ := ih.1 x e'
        exact ⟨w, by rw [valV_neg hk]; exact q1, q2⟩
      · have e' : kget ds k = none := by simpa [kget, hk] using e
        rw [valV_neg hk]; exact ih.2 e'
theorem RKs.keys {κ : Type} : ∀ {ds : List (κ × D)} {vs : List (κ × V)}, RKs K p H ds vs → ds.map (·.1) = vs.map (·.1)
  | [], vs, r => by simp only [RKs] at r; rw [r]; rfl
  | d :: ds, vs, r => by
    simp only [RKs] at r
    obtain ⟨v, r', rfl, r1, r2⟩ := r
    simp [RKs.keys r2]
theorem RKs.length {κ : Type} {ds : List (κ × D)} {vs : List (κ × V)} (r : RKs K p H ds vs) : ds.length = vs.length := by
  have := congrArg List.length r.keys
  simpa using this
/-- what a dict, locked or not, gives at a key -/
theorem dget_ok (rs : RS K cm p s H) {n : Nat} {x : V} {o : O} {k : D} {kv : V} {r : Option D} (rx : RV K p H (.ref n) x) (h : s[n]? = some o) (rk : RV K p H k kv) (e : dget (unl o) k = some r) :
    ∃ a, x = .ref a ∧ ((∃ d v, r = some d ∧ DGet H a kv (some v) ∧ RV K p H d v) ∨ (r = none ∧ DGet H a kv none)) := by
  simp only [RV] at rx
  obtain ⟨a, ha, rfl⟩ := rx
  obtain ⟨b, hb, hr⟩ := rs.at h
  rw [ha] at hb; cases hb
  refine ⟨a, rfl, ?_⟩
  have rdK : ∀ kvs, unl o = .dK kvs → ∃ ws, Rd H a (.dK ws) ∧ RKs K p H kvs ws := fun kvs q => by
    cases o with
    | lck o' =>
      obtain ⟨od, u, e1, _, c⟩ := hr
      simp only [unl] at q; subst q
      obtain ⟨ws, rfl, c⟩ := c
      exact ⟨ws, .inr ⟨od, e1⟩, c⟩
    | dK _ =>
      simp only [unl] at q; cases q
      obtain ⟨u, e1, ws, rfl, c⟩ := hr
      exact ⟨ws, .inl e1, c⟩
    | _ => simp only [unl] at q; cases q
  have rdT : ∀ kvs, unl o = .dT kvs → ∃ ws, Rd H a (.dT ws) ∧ RKs K p H kvs ws := fun kvs q => by
    cases o with
    | lck o' =>
      obtain ⟨od, u, e1, _, c⟩ := hr
      simp only [unl] at q; subst q
      obtain ⟨ws, rfl, c⟩ := c
      exact ⟨ws, .inr ⟨od, e1⟩, c⟩
    | dT _ =>
      simp only [unl] at q; cases q
      obtain ⟨u, e1, ws, rfl, c⟩ := hr
      exact ⟨ws, .inl e1, c⟩
    | _ => simp only [unl] at q; cases q
  unfold dget at e
  split at e
  · rename_i kvs q
    obtain ⟨k', e1, rfl⟩ := Option.map_eq_some_iff.mp e
    obtain ⟨ws, h1, h2⟩ := rdK kvs q
    have ek := key_ok e1 rk
    subst ek
    have g := h2.get k'
    cases hg : kget kvs k' with
    | some d =>
      obtain ⟨v, g1, g2⟩ := g.1 d hg
      exact .inl ⟨d, v, rfl, .inl ⟨ws, k', h1, rfl, g1.symm⟩, g2⟩
    | none => exact .inr ⟨rfl, .inl ⟨ws, k', h1, rfl, (g.2 hg).symm⟩⟩
  · rename_i kvs q
    split at e
    · rename_i ds
      obtain ⟨k', e1, rfl⟩ := Option.map_eq_some_iff.mp e
      obtain ⟨ws, h1, h2⟩ := rdT kvs q
      obtain ⟨b, vs, rfl, hb, rb⟩ := rv_tup rk
      have ek := keys_ok e1 rb
      subst ek
      have g := h2.get k'
      cases hg : kget kvs k' with
      | some d =>
        obtain ⟨v, g1, g2⟩ := g.1 d hg
        exact .inl ⟨d, v, rfl, .inr ⟨ws, k', b, h1, rfl, hb, g1.symm⟩, g2⟩
      | none => exact .inr ⟨rfl, .inr ⟨ws, k', b, h1, rfl, hb, (g.2 hg).symm⟩⟩
    · cases e
  · cases e
end
section
variable {X : Cx} {cm : CM}
theorem s_oAdd : S2 X cm (binaryOp .Add) oAdd := by
  refine ⟨_, op_add.or (op_add_str.or (op_cat.or op_catA)), fun W p s σ H x y dx dy Q rs rx ry q => ?_⟩
  unfold oAdd at q
  split at q
  · rename_i i j
    exact .inl ⟨i, j, rv_int rx, rv_int ry, Po.ok q rs (mk_int _)⟩
  · rename_i a b
    split at q
    · rename_i h
      exact .inr (.inl ⟨a, b, rv_str rx, rv_str ry, sz_ok h, Po.ok q rs (mk_str _)⟩)
    · exact q.elim
  · rename_i a b
    split at q
    · rename_i h
      obtain ⟨c, vs, rfl, h1, r1⟩ := rv_tup rx
      obtain ⟨d, ws, rfl, h2, r2⟩ := rv_tup ry
      refine .inr (.inr (.inr ⟨c, d, vs, ws, rfl, rfl, SqT.of h1, SqT.of h2, by rw [← r1.length, ← r2.length]; exact sz_ok h, fun e => ?_, fun _ e => ?_, fun _ _ a ha => ?_⟩))
      · have e' : a = [] := List.length_eq_zero_iff.mp (by rw [r1.length, e]; rfl)
        subst e'
        exact Po.ok q rs (mk_tup h2 r2)
      · have e' : b = [] := List.length_eq_zero_iff.mp (by rw [r2.length, e]; rfl)
        subst e'
        refine Po.ok q rs ?_
        rw [List.append_nil]
        exact mk_tup h1 r1
      · exact Po.newt q rs (r1.append r2) ha
    · exact q.elim
  · rename_i m n
    split at q
    · rename_i a b h1 h2
      split at q
      · rename_i h
        obtain ⟨c, vs, rfl, _, g1, r1⟩ := lst_at rs rx h1
        obtain ⟨d, ws, rfl, _, g2, r2⟩ := lst_at rs ry h2
        exact .inr (.inr (.inl ⟨c, d, vs, ws, rfl, rfl, g1, g2, by rw [← r1.length, ← r2.length]; exact sz_ok h, fun a ha => Po.newl q rs (r1.append r2) ha⟩))
      · exact q.elim
    · exact q.elim
  · exact q.elim
theorem pur2_ok {K : PySem.W.Frag} {W : WX} {f : S → D → D → Option D} {p s σ H Q} {dx dy : D} (q : Po K cm W (RV K) p σ H (pur2 f dx dy s) Q) : ∃ d, f s dx dy = some d ∧ Po K cm W (RV K) p σ H (some (.ok d s)) Q := by
  unfold pur2 at q
  cases h : f s dx dy with
  | none => rw [h] at q; exact q.elim
  | some d => rw [h] at q; exact ⟨d, rfl, q⟩
theorem s_oSub : S2 X cm (binaryOp .Sub) oSub := by
  refine ⟨_, op_sub, fun W p s σ H x y dx dy Q rs rx ry q => ?_⟩
  obtain ⟨d, e, q⟩ := pur2_ok q
  split at e
  · rename_i i j
    cases e
    exact ⟨i, j, rv_int rx, rv_int ry, Po.ok q rs (mk_int _)⟩
  · cases e
theorem s_oMul : S2 X cm (binaryOp .Mult) oMul := by
  refine ⟨_, op_mulW.or op_rep, fun W p s σ H x y dx dy Q rs rx ry q => ?_⟩
  unfold oMul at q
  split at q
  · rename_i i j
    split at q
    · rename_i h
      refine .inl ⟨i, j, rv_int rx, rv_int ry, ?_, Po.ok q rs (mk_int _)⟩
      show i.natAbs.log2 + j.natAbs.log2 < 1000000
      unfold bits at h
      omega
    · exact q.elim
  · rename_i m k
    split at q
    · rename_i a h1
      split at q
      · rename_i h
        obtain ⟨c, vs, rfl, _, g1, r1⟩ := lst_at rs rx h1
        simp only [Bool.and_eq_true, decide_eq_true_eq] at h
        have hk : k.toNat = k.toNat := rfl
        refine .inr ⟨c, k, vs, rfl, rv_int ry, g1, ?_, by have := h.1.2; omega, by rw [← r1.length]; exact sz_ok h.2, fun b hb => ?_⟩
        · have := h.1.1
          omega
        · refine Po.newl q rs ?_ hb
          have : ∀ n : Nat, RVs X.K p H (List.replicate n a).flatten (List.replicate n vs).flatten := by
            intro n
            induction n with
            | zero => simp [RVs]
            | succ n ih =>
              rw [List.replicate_succ, List.replicate_succ, List.flatten_cons, List.flatten_cons]
              exact r1.append ih
          exact this _
      · exact q.elim
    · exact q.elim
  · exact q.elim
theorem s_oMod : S2 X cm (binaryOp .Mod) oMod := by
  refine ⟨_, op_mod, fun W p s σ H x y dx dy Q rs rx ry q => ?_⟩
  obtain ⟨d, e, q⟩ := pur2_ok q
  split at e
  · rename_i i j
    split at e
    · rename_i h
      cases e
      exact ⟨i, j, rv_int rx, rv_int ry, h, Po.ok q rs (mk_int _)⟩
    · cases e
  · cases e
theorem s_oDiv : S2 X cm (binaryOp .FloorDiv) oDiv := by
  refine ⟨_, op_fdivW, fun W p s σ H x y dx dy Q rs rx ry q => ?_⟩
  obtain ⟨d, e, q⟩ := pur2_ok q
  split at e
  · rename_i i j
    split at e
    · rename_i h
      cases e
      simp only [Bool.and_eq_true, decide_eq_true_eq] at h
      refine ⟨i, j, rv_int rx, rv_int ry, ⟨h.1, ?_⟩, Po.ok q rs (mk_int _)⟩
      have := h.2
      unfold bits at this
      omega
    · cases e
  · cases e
theorem op_powW : OpR X (binaryOp .Pow) (rI (fun i j => 0 ≤ j ∧ (Builtin.Int.intBits i : Int) * j ≤ 2 ^ 27) fun i j => .int (i ^ j.toNat)) := opI fun _ _ _ _ _ _ _ hc q => pow_int hc.1 hc.2 q
theorem s_oPow : S2 X cm (binaryOp .Pow) oPow := by
  refine ⟨_, op_powW, fun W p s σ H x y dx dy Q rs rx ry q => ?_⟩
  obtain ⟨d, e, q⟩ := pur2_ok q
  split at e
  · rename_i i j
    split at e
    · rename_i h
      cases e
      simp only [Bool.and_eq_true, decide_eq_true_eq] at h
      refine ⟨i, j, rv_int rx, rv_int ry, ⟨h.1, ?_⟩, Po.ok q rs (mk_int _)⟩
      have h2 := h.2
      have hb : Builtin.Int.intBits i ≤ bits i + 1 := by
        unfold Builtin.Int.intBits bits
        split <;> omega
      have h3 : Builtin.Int.intBits i * j.toNat ≤ 100000 := Nat.le_trans (Nat.mul_le_mul_right _ hb) h2
      have h4 : ((Builtin.Int.intBits i * j.toNat : Nat) : Int) = (Builtin.Int.intBits i : Int) * j := by
        rw [Int.natCast_mul, Int.toNat_of_nonneg h.1]
      omega
    · cases e
  · cases e
theorem s_cmpI {op : CmpOp} {f : Int → Int → Bool} (h : OpR X (compareOp op) (rI0 fun i j => .bl (f i j))) : S2 X cm (compareOp op) (cmpI f) := by
  refine ⟨_, h, fun W p s σ H x y dx dy Q rs rx ry q => ?_⟩
  obtain ⟨d, e, q⟩ := pur2_ok q
  split at e
  · rename_i i j
    cases e
    exact ⟨i, j, rv_int rx, rv_int ry, Po.ok q rs (mk_bl _)⟩
  · cases e
theorem s_oLt : S2 X cm (compareOp .Lt) oLt := s_cmpI op_lt
theorem s_oLe : S2 X cm (compareOp .LtE) oLe := s_cmpI op_le
theorem s_oGt : S2 X cm (compareOp .Gt) oGt := s_cmpI op_gt
section
variable {K : PySem.W.Frag} {cm : CM} {W : WX} {p : List Addr} {s : S} {σ : L2.St} {H : Hp} {X : Cx} {pins : List (Addr × Obj)} {s0 : Shared}
theorem zlstAt_ok {n : Nat} {ds : List D} (h : lstAt s n = some ds) : s[n]? = some (.lst ds) := by
  unfold lstAt at h
  split at h
  · rename_i e; cases h; exact e
  · cases h
theorem allT_len {f : D → D → Option Bool} : ∀ {ds es : List D}, allT f ds es = true → ds.length = es.length
  | [], [], _ => rfl
  | _ :: ds, _ :: es, h => by
    simp only [allT, Bool.and_eq_true] at h
    simp [allT_len h.2]
  | [], _ :: _, h => by simp [allT] at h
  | _ :: _, [], h => by simp [allT] at h
theorem zall_true {n : Nat} : (List.range n).all (fun _ => true) = true := by simp
theorem zlst_items {n : Nat} {x : V} {v : Value} {ds : List D} (I : Inv X pins σ H s0) (rs : RS X.K cm p s H) (r : RV X.K p H (.ref n) x) (rx : RelV x v) (h : s[n]? = some (.lst ds)) :
    ∃ a vs us, v = .ref a ∧ RVs X.K p H ds vs ∧ Vals vs us ∧ s0.heap.IsList a us.toArray := by
  obtain ⟨a, vs, rfl, _, hH, rr⟩ := lst_at rs r h
  obtain ⟨us, r2, pl, _⟩ := I.list (SqL.of hH)
  cases (show v = Value.ref a from rx)
  exact ⟨a, vs, us, rfl, rr, r2, pl.isList⟩
theorem ztup_items {x : V} {v : Value} {ds : List D} (I : Inv X pins σ H s0) (r : RV X.K p H (.tup ds) x) (rx : RelV x v) :
    ∃ a vs us, v = .ref a ∧ RVs X.K p H ds vs ∧ Vals vs us ∧ s0.heap.IsTuple a us.toArray := by
  obtain ⟨a, vs, rfl, hH, rr⟩ := rv_tup r
  obtain ⟨us, r2, ⟨o, e, c, n, d⟩, _⟩ := I.tuple (SqT.of hH)
  cases (show v = Value.ref a from rx)
  exact ⟨a, vs, us, rfl, rr, r2, ⟨o, e, c, n, d⟩⟩
theorem zitems_at {A : Around} {f : D → D → Option Bool} (hf : ∀ (a b : D) {x y : V} {v u : Value}, RV X.K p H a x → RV X.K p H b y → RelV x v → RelV y u → f a b = some true → SeqAt.EqAt A s0 v u true) :
    ∀ (ds es : List D) {vs ws : List V} {us ts : List Value}, RVs X.K p H ds vs → RVs X.K p H es ws → Vals vs us → Vals ws ts → allT f ds es = true → ∀ j (h1 : j < us.length) (h2 : j < ts.length), SeqAt.EqAt A s0 us[j] ts[j] true
  | [], _, vs, ws, us, ts, w1, _, w2, _, _, j, h1, _ => by
    simp only [RVs] at w1
    subst w1
    cases w2
    simp at h1
  | _ :: _, [], vs, ws, us, ts, w1, z1, w2, z2, ht, j, _, _ => by simp [allT] at ht
  | d :: ds, e :: es, vs, ws, us, ts, w1, z1, w2, z2, ht, j, h1, h2 => by
    simp only [allT, Bool.and_eq_true, beq_iff_eq] at ht
    simp only [RVs] at w1 z1
    obtain ⟨v, r, rfl, w3, w4⟩ := w1
    obtain ⟨v', r', rfl, z3, z4⟩ := z1
    cases w2 with
    | cons w5 w6 =>
    cases z2 with
    | cons z5 z6 =>
    cases j with
    | zero => exact hf d e w3 z3 w5 z5 ht.1
    | succ j => exact zitems_at hf ds es w4 z4 w6 z6 ht.2 j (Nat.lt_of_succ_lt_succ h1) (Nat.lt_of_succ_lt_succ h2)
theorem eqZ_at (I : Inv X pins σ H s0) (rs : RS X.K cm p s H) : ∀ (n : Nat) (A : Around) (a b : D) {x y : V} {v u : Value} {k : Bool}, RV X.K p H a x → RV X.K p H b y → RelV x v → RelV y u → eqZ s n a b = some k → A.units + n + 64 < cLine → SeqAt.EqAt A s0 v u k
  | 0, A, a, b, x, y, v, u, k, r1, r2, q1, q2, e, hu => by simp [eqZ] at e
  | n + 1, A, a, b, x, y, v, u, k, r1, r2, q1, q2, e, hu => by
    unfold eqZ at e
    split at e
    · rename_i d d' e1 e2
      split at e
      · rename_i h
        simp only [Bool.and_eq_true] at h
        cases e
        obtain ⟨as, w1⟩ := Dp.reads I d x v (dat_ok rs 60 a r1 e1) q1
        obtain ⟨bs, w2⟩ := Dp.reads I d' y u (dat_ok rs 60 b r2 e2) q2
        exact SeqAt.eqAt_reads d d' A s0 v u as bs w1 w2 (SeqAt.canLay_of_shaped h.1) (SeqAt.canLay_of_shaped h.2) (SeqAt.room_of_shaped h.1 (by omega))
      · cases e
    · split at e
      · rename_i i j
        split at e
        · rename_i hij
          subst hij
          cases e
          simp only [RV] at r1 r2
          obtain ⟨t, h1, rfl⟩ := r1
          obtain ⟨t', h2, rfl⟩ := r2
          rw [h1] at h2
          cases h2
          cases (show v = Value.ref t from q1)
          cases (show u = Value.ref t from q2)
          exact SeqAt.EqAt.same _
        · rename_i hij
          split at e
          · rename_i ds es l1 l2
            obtain ⟨a1, vs, us, rfl, w1, w2, w3⟩ := zlst_items I rs r1 q1 (zlstAt_ok l1)
            obtain ⟨a2, vs', us', rfl, z1, z2, z3⟩ := zlst_items I rs r2 q2 (zlstAt_ok l2)
            have n1 : us.length = ds.length := by rw [← w2.length, w1.length]
            have n2 : us'.length = es.length := by rw [← z2.length, z1.length]
            split at e
            · rename_i hl
              split at e
              · rename_i ht
                cases e
                by_cases hne : a1 = a2
                · subst hne
                  exact SeqAt.EqAt.same _
                · have := SeqAt.RcAt.lists (e := fun _ => true) w3 z3 (by simp; omega) (by omega) fun j j1 j2 => zitems_at (fun a b x y v u r1 r2 q1 q2 e => eqZ_at I rs n A.in1 a b r1 r2 q1 q2 e (by show A.units + 1 + n + 64 < cLine; omega)) ds es w1 z1 w2 z2 ht j (by simpa using j1) (by simpa using j2)
                  rw [zall_true] at this
                  exact SeqAt.EqAt.of_refs hne this
              · cases e
            · rename_i hl
              cases e
              have hne : a1 ≠ a2 := fun z => by
                subst z
                obtain ⟨o, g1, _, m1, g2⟩ := w3
                obtain ⟨o', g1', _, m1', g2'⟩ := z3
                rw [g1] at g1'
                cases g1'
                rw [g2] at g2'
                have : us.toArray.size = us'.toArray.size := by injection g2' with z; rw [z]
                simp at this
                omega
              exact SeqAt.EqAt.of_refs hne (SeqAt.RcAt.lists_lengths w3 z3 (by simp; omega) (by omega))
          · cases e
      · rename_i ds es _
        split at e
        · rename_i ht
          cases e
          obtain ⟨a1, vs, us, rfl, w1, w2, w3⟩ := ztup_items I r1 q1
          obtain ⟨a2, vs', us', rfl, z1, z2, z3⟩ := ztup_items I r2 q2
          have n1 : us.length = ds.length := by rw [← w2.length, w1.length]
          have n2 : us'.length = es.length := by rw [← z2.length, z1.length]
          have hl := allT_len ht
          by_cases hne : a1 = a2
          · subst hne
            exact SeqAt.EqAt.same _
          · have := SeqAt.RcAt.tuples (e := fun _ => true) w3 z3 (by omega) fun j j1 j2 => zitems_at (fun a b x y v u r1 r2 q1 q2 e => eqZ_at I rs n A.in1 a b r1 r2 q1 q2 e (by show A.units + 1 + n + 64 < cLine; omega)) ds es w1 z1 w2 z2 ht j (by simpa using j1) (by simpa using j2)
            rw [zall_true, show (us.toArray.size == us'.toArray.size) = true by simp; omega] at this
            exact SeqAt.EqAt.of_refs hne this
        · cases e
      · cases e
theorem eqT_at {A : Around} {ne : Bool} (I : Inv X pins σ H s0) (rs : RS X.K cm p s H) {a b : D} {x y : V} {v u : Value} {k : Bool} (r1 : RV X.K p H a x) (r2 : RV X.K p H b y) (q1 : RelV x v) (q2 : RelV y u) (e : eqT s a b = some k) (hu : A.units + 80 < cLine) :
    SeqAt.RcAt A s0 v u k ∧ SeqAt.RcNeAt A s0 v u (!k) := by
  unfold eqT at e
  split at e
  · split at e
    · rename_i ds es l1 l2
      obtain ⟨a1, vs, us, rfl, w1, w2, w3⟩ := zlst_items I rs r1 q1 (zlstAt_ok l1)
      obtain ⟨a2, vs', us', rfl, z1, z2, z3⟩ := zlst_items I rs r2 q2 (zlstAt_ok l2)
      have n1 : us.length = ds.length := by rw [← w2.length, w1.length]
      have n2 : us'.length = es.length := by rw [← z2.length, z1.length]
      split at e
      · rename_i hl
        split at e
        · rename_i ht
          cases e
          have he : ∀ j (j1 : j < us.toArray.size) (j2 : j < us'.toArray.size), SeqAt.EqAt A.in1 s0 us.toArray[j] us'.toArray[j] ((fun _ => true) j) := fun j j1 j2 => zitems_at (fun a b x y v u r1 r2 q1 q2 e => eqZ_at I rs 8 A.in1 a b r1 r2 q1 q2 e (by show A.units + 1 + 8 + 64 < cLine; omega)) ds es w1 z1 w2 z2 ht j (by simpa using j1) (by simpa using j2)
          have h1 := SeqAt.RcAt.lists (e := fun _ => true) w3 z3 (by simp; omega) (by omega) he
          have h2 := SeqAt.RcNeAt.lists (e := fun _ => true) w3 z3 (by simp; omega) (by omega) he
          rw [zall_true] at h1 h2
          exact ⟨h1, h2⟩
        · cases e
      · rename_i hl
        cases e
        exact ⟨SeqAt.RcAt.lists_lengths w3 z3 (by simp; omega) (by omega), SeqAt.RcNeAt.lists_lengths w3 z3 (by simp; omega) (by omega)⟩
    · cases e
  · cases e
def rZ (K : PySem.W.Frag) (cm : CM) (g : Bool → Bool) : R2 := fun x y H Q => ∃ p s dx dy b, RS K cm p s H ∧ RV K p H dx x ∧ RV K p H dy y ∧ eqT s dx dy = some b ∧ Q (.bl (g b)) H
theorem op_eqZ {k : Nat} (hr : Room k X.A) : OpR X (compareOp .Eq) (rZ X.K cm id) := by
  intro pins s0 σ H x y v u Q I rx ry h
  obtain ⟨p, s, dx, dy, b, rs, r1, r2, e, q⟩ := h
  exact (eqT_at (ne := true) I rs r1 r2 rx ry e (by have := hr.un; omega)).1 X.prog X.w _ _ ⟨.bl b, H, I, rfl, q⟩
theorem op_neZ {k : Nat} (hr : Room k X.A) : OpR X (compareOp .NotEq) (rZ X.K cm not) := by
  intro pins s0 σ H x y v u Q I rx ry h
  obtain ⟨p, s, dx, dy, b, rs, r1, r2, e, q⟩ := h
  exact (eqT_at (ne := true) I rs r1 r2 rx ry e (by have := hr.un; omega)).2 X.prog X.w _ _ ⟨.bl (!b), H, I, rfl, q⟩
end
theorem eqD_ok {K : PySem.W.Frag} {p : List Addr} {s : S} {H : Hp} {dx dy : D} {x y : V} {b : Bool} (rs : RS K cm p s H) (rx : RV K p H dx x) (ry : RV K p H dy y) (e : eqD s dx dy = some b) :
    (∃ d d', Dp K H x d ∧ Dp K H y d' ∧ SeqAt.shaped d = true ∧ SeqAt.shaped d' = true ∧ PyData.eqv d d' = b) ∨ eqT s dx dy = some b := by
  unfold eqD at e
  split at e
  · rename_i d d' e1 e2
    split at e
    · rename_i h
      simp only [Bool.and_eq_true] at h
      cases e
      exact .inl ⟨d, d', dat_ok rs 60 dx rx e1, dat_ok rs 60 dy ry e2, h.1, h.2, rfl⟩
    · cases e
  · exact .inr e
theorem s_oEq {k : Nat} (hr : Room k X.A) : S2 X cm (compareOp .Eq) oEq := by
  refine ⟨fun x y H Q => rEqD X.K x y H Q ∨ rZ X.K cm id x y H Q, fun pins s σ H x y v u Q I rx ry h => h.elim (fun h => op_eqD hr.units pins s σ H x y v u Q I rx ry h) fun h => op_eqZ hr pins s σ H x y v u Q I rx ry h, fun W p s σ H x y dx dy Q rs rx ry q => ?_⟩
  obtain ⟨d, e, q⟩ := pur2_ok q
  obtain ⟨b, e1, rfl⟩ := Option.map_eq_some_iff.mp e
  have q' := Po.ok q rs (mk_bl _)
  rcases eqD_ok rs rx ry e1 with ⟨d, d', h1, h2, h3, h4, h5⟩ | h
  · exact .inl ⟨d, d', h1, h2, h3, h4, by rw [h5]; exact q'⟩
  · exact .inr ⟨p, s, dx, dy, b, rs, rx, ry, h, q'⟩
theorem s_oNe {k : Nat} (hr : Room k X.A) : S2 X cm (compareOp .NotEq) oNe := by
  refine ⟨fun x y H Q => rNeD X.K x y H Q ∨ rZ X.K cm not x y H Q, fun pins s σ H x y v u Q I rx ry h => h.elim (fun h => op_neD hr.units pins s σ H x y v u Q I rx ry h) fun h => op_neZ hr pins s σ H x y v u Q I rx ry h, fun W p s σ H x y dx dy Q rs rx ry q => ?_⟩
  obtain ⟨d, e, q⟩ := pur2_ok q
  obtain ⟨b, e1, rfl⟩ := Option.map_eq_some_iff.mp e
  have q' := Po.ok q rs (mk_bl _)
  rcases eqD_ok rs rx ry e1 with ⟨d, d', h1, h2, h3, h4, h5⟩ | h
  · exact .inl ⟨d, d', h1, h2, h3, h4, by rw [h5]; exact q'⟩
  · exact .inr ⟨p, s, dx, dy, b, rs, rx, ry, h, q'⟩
theorem flat_ok {K : PySem.W.Frag} {p : List Addr} {H : Hp} {d : D} {v : V} (h : flat d = true) (r : RV K p H d v) : v = vOf d ∧ flatV v = true := by
  cases d <;> simp only [flat] at h <;> first | (cases h; done) | skip
  · rw [rv_non r]; exact ⟨rfl, rfl⟩
  · rw [rv_bl r]; exact ⟨rfl, rfl⟩
  · rw [rv_int r]; exact ⟨rfl, rfl⟩
  · rw [rv_str r]; exact ⟨rfl, rfl⟩
theorem flats_ok {K : PySem.W.Frag} {p : List Addr} {H : Hp} : ∀ {ds : List D} {vs : List V}, ds.all flat = true → RVs K p H ds vs → vs = ds.map vOf ∧ vs.all flatV = true
  | [], vs, _, r => by simp only [RVs] at r; subst r; exact ⟨rfl, rfl⟩
  | d :: ds, vs, h, r => by
    simp only [RVs] at r
    obtain ⟨v, r', rfl, r1, r2⟩ := r
    simp only [List.all_cons, Bool.and_eq_true] at h
    obtain ⟨e1, f1⟩ := flat_ok h.1 r1
    obtain ⟨e2, f2⟩ := flats_ok h.2 r2
    exact ⟨by rw [e1, e2]; rfl, by simp [f1, f2]⟩
def rNotInDk : R2 := fun x y H Q => ∃ a o, y = .ref a ∧ DGet H a x o ∧ Q (.bl (!o.isSome)) H
theorem op_notInDk (hu : X.A.units + 1 < cLine) : OpR X (compareOp .NotIn) rNotInDk := by
  intro pins s σ H x y v u Q I rx ry h
  obtain ⟨a, o, rfl, g, q⟩ := h
  cases (show u = Value.ref a from ry)
  exact d_notIn hu I g rx fun s' I' => ⟨.bl _, H, I', rfl, q⟩
theorem units65 {k : Nat} {A : Around} (hr : Room k A) : A.units + 65 < cLine := by have := hr.un; omega
theorem isIn_ok {K : PySem.W.Frag} {p : List Addr} {s : S} {H : Hp} {dx dy : D} {x y : V} {b : Bool} (rs : RS K cm p s H) (rx : RV K p H dx x) (ry : RV K p H dy y) (e : isIn s dx dy = some b) :
    (∃ i j, x = .str i ∧ y = .str j ∧ b = !(Builtin.Str.occurrences j i 0 j.length 1).isEmpty) ∨
    (∃ a xs, y = .ref a ∧ (SqL K H a xs ∨ SqT K H a xs) ∧ flatV x = true ∧ xs.all flatV = true ∧ b = inV x xs) ∨
    (∃ d ds, Dp K H x d ∧ Dp K H y (.list ds) ∧ SeqAt.shaped d = true ∧ SeqAt.shaped (.list ds) = true ∧ b = ds.any fun z => PyData.eqv z d) ∨
    (∃ a o, y = .ref a ∧ DGet H a x o ∧ b = o.isSome) := by
  unfold isIn at e
  split at e
  · rename_i j
    split at e
    · rename_i i
      cases e
      exact .inl ⟨i, j, rv_str rx, rv_str ry, rfl⟩
    · cases e
  · rename_i ds
    split at e
    · rename_i h
      simp only [Bool.and_eq_true] at h
      cases e
      obtain ⟨a, vs, rfl, h1, r1⟩ := rv_tup ry
      obtain ⟨e1, f1⟩ := flat_ok h.1 rx
      obtain ⟨e2, f2⟩ := flats_ok h.2 r1
      refine .inr (.inl ⟨a, vs, rfl, .inr (SqT.of h1), f1, f2, ?_⟩)
      rw [e2, e1]
      unfold inV
      rw [List.any_map]
      rfl
    · cases e
  · rename_i n
    split at e
    · rename_i ds h
      split at e
      · rename_i d es e1 e2
        split at e
        · rename_i h'
          simp only [Bool.and_eq_true] at h'
          cases e
          obtain ⟨a, vs, rfl, _, g, r⟩ := lst_at rs ry h
          exact .inr (.inr (.inl ⟨d, es, dat_ok rs 60 dx rx e1, .lst (SqL.of g) (dats_ok rs 60 ds r e2), h'.1, h'.2, rfl⟩))
        · cases e
      · cases e
    · rename_i o h1 h2
      obtain ⟨r, e1, rfl⟩ := Option.map_eq_some_iff.mp e
      obtain ⟨a, rfl, h⟩ := dget_ok rs ry h2 rx e1
      rcases h with ⟨d, v, rfl, g, _⟩ | ⟨rfl, g⟩
      · exact .inr (.inr (.inr ⟨a, _, rfl, g, rfl⟩))
      · exact .inr (.inr (.inr ⟨a, _, rfl, g, rfl⟩))
    · cases e
  · cases e
theorem s_oNotIn {k : Nat} (hr : Room k X.A) : S2 X cm (compareOp .NotIn) oNotIn := by
  refine ⟨_, L2.op_notin_str.or (op_notIn_seq.or ((op_notInD (units65 hr)).or (op_notInDk (hu_of hr)))), fun W p s σ H x y dx dy Q rs rx ry q => ?_⟩
  obtain ⟨d, e, q⟩ := pur2_ok q
  obtain ⟨b, e1, rfl⟩ := Option.map_eq_some_iff.mp e
  have q' := Po.ok q rs (mk_bl _)
  rcases isIn_ok rs rx ry e1 with ⟨i, j, h1, h2, h3⟩ | ⟨a, xs, h1, h2, h3, h4, h5⟩ | ⟨d, ds, h1, h2, h3, h4, h5⟩ | ⟨a, o, h1, h2, h3⟩
  · exact .inl ⟨i, j, h1, h2, h3 ▸ q'⟩
  · refine .inr (.inl ⟨a, xs, h1, h2, h3, h4, ?_⟩)
    rw [h5] at q'
    exact q'
  · exact .inr (.inr (.inl ⟨d, ds, h1, h2, h3, h4, h5 ▸ q'⟩))
  · exact .inr (.inr (.inr ⟨a, o, h1, h2, h3 ▸ q'⟩))
end
end Fc
namespace Fc
open PySem PySem.Spec PyProof.Rows L2
section
variable {K : PySem.W.Frag} {cm : CM} {W : WX} {p : List Addr} {s : S} {σ : L2.St} {H : Hp}
theorem isEmpty_len {a b : Type} {x : List a} {y : List b} (h : x.length = y.length) : (!x.isEmpty) = !y.isEmpty := by
  cases x <;> cases y <;> simp_all
theorem truth_ok {d : D} {x : V} {k : Bool} (rs : RS K cm p s H) (r : RV K p H d x) (e : truth s d = some k) : TruV K x H k := by
  unfold truth at e
  split at e
  · cases e; rw [rv_non r]; exact rfl
  · cases e; rw [rv_bl r]; exact rfl
  · cases e; rw [rv_int r]; exact rfl
  · split at e
    · rename_i h
      cases e; rw [rv_str r]; exact ⟨sz_ok h, rfl⟩
    · cases e
  · cases e
    obtain ⟨a, vs, rfl, h1, r1⟩ := rv_tup r
    exact .inr (.inl ⟨vs, SqT.of h1, isEmpty_len r1.length⟩)
  · cases e
    simp only [RV] at r
    obtain ⟨a, vs, rfl, h1, r1⟩ := r
    exact .inl ⟨vs, h1.1, isEmpty_len r1.length⟩
  · cases e
    simp only [RV] at r
    obtain ⟨a, vs, rfl, h1, r1⟩ := r
    exact .inr (.inl ⟨vs, h1.sq, isEmpty_len r1.length⟩)
  · rename_i n
    split at e
    · rename_i ds h
      cases e
      obtain ⟨a, vs, rfl, _, h1, r1⟩ := lst_at rs r h
      exact .inl ⟨vs, SqL.of h1, isEmpty_len r1.length⟩
    · rename_i kvs h
      cases e
      simp only [RV] at r
      obtain ⟨a, ha, rfl⟩ := r
      obtain ⟨b, hb, u, h1, ws, rfl, r1⟩ := rs.at h
      rw [ha] at hb; cases hb
      exact .inr (.inr ⟨ws, h1, isEmpty_len r1.length⟩)
    · cases e
end
section
variable {X : Cx} {cm : CM} {W : WX} {a b c : Expr} {fa fb fc : E} {ft fu : T} {pos : Pos} {rest : List Expr}
theorem r_one {op} (h : JE X cm W a fa) : JE X cm W (.BoolOp op [a] pos) fa := pe_one h
theorem r_or (ha : JE X cm W a fa) (hb : JE X cm W (.BoolOp .Or (b :: rest) pos) fb) : JE X cm W (.BoolOp .Or (a :: b :: rest) pos) (eOr fa fb) := by
  refine (pe_orT ha hb).imp fun σ H Q q => ?_
  obtain ⟨p, e, s, re, rs, q⟩ := q
  refine ⟨p, e, s, re, rs, (Po.bnd (rel1 := RV X.K) q).imp ?_⟩
  rintro x H1 ⟨d, p1, s1, f, rs1, r1, q⟩
  cases h : truth s1 d with
  | none => simp only [h] at q; exact q.elim
  | some c =>
    simp only [h] at q
    refine ⟨c, truth_ok rs1 r1 h, ?_⟩
    cases c with
    | true => exact iteT (Po.ok q rs1 r1)
    | false => exact iteF ⟨p1, e, s1, re.mono f, rs1, q⟩
theorem r_and (ha : JE X cm W a fa) (hb : JE X cm W (.BoolOp .And (b :: rest) pos) fb) : JE X cm W (.BoolOp .And (a :: b :: rest) pos) (eAnd fa fb) := by
  refine (pe_andT ha hb).imp fun σ H Q q => ?_
  obtain ⟨p, e, s, re, rs, q⟩ := q
  refine ⟨p, e, s, re, rs, (Po.bnd (rel1 := RV X.K) q).imp ?_⟩
  rintro x H1 ⟨d, p1, s1, f, rs1, r1, q⟩
  cases h : truth s1 d with
  | none => simp only [h] at q; exact q.elim
  | some c =>
    simp only [h] at q
    refine ⟨c, truth_ok rs1 r1 h, ?_⟩
    cases c with
    | true => exact iteT ⟨p1, e, s1, re.mono f, rs1, q⟩
    | false => exact iteF (Po.ok q rs1 r1)
theorem tE_bnd {f : E} {σ : L2.St} {H : Hp} {Q : Bool → Hp → Prop} (q : tT X.K cm W (tE f) σ H Q) : tD X.K cm W f σ H fun x H1 => ∃ k, TruV X.K x H1 k ∧ Q k H1 := by
  obtain ⟨p, e, s, re, rs, q⟩ := q
  refine ⟨p, e, s, re, rs, (Po.bnd (rel1 := RV X.K) q).imp ?_⟩
  rintro x H1 ⟨d, p1, s1, f, rs1, r1, q⟩
  cases h : truth s1 d with
  | none => simp only [h] at q; exact q.elim
  | some c =>
    simp only [h] at q
    exact ⟨c, truth_ok rs1 r1 h, Po.ok q rs1 rfl⟩
theorem r_notv (ha : JE X cm W a fa) : JE X cm W (.UnaryOp .Not a pos) (eNotT (tE fa)) := by
  refine (pe_notT ha).imp fun σ H Q q => ?_
  obtain ⟨p, e, s, re, rs, q⟩ := q
  refine tE_bnd (Q := fun k H1 => Q (.bl (!k)) H1) ⟨p, e, s, re, rs, (Po.bnd (rel1 := rB) q).imp ?_⟩
  rintro x H1 ⟨d, p1, s1, f, rs1, r1, q⟩
  obtain rfl : d = x := r1
  exact Po.ok q rs1 (mk_bl _)
theorem r_if (ht : JT X cm W c ft) (ha : JE X cm W a fa) (hb : JE X cm W b fb) : JE X cm W (.IfExp c a b pos) (eIf ft fa fb) := by
  refine (pe_ifExp ht ha hb).imp fun σ H Q q => ?_
  obtain ⟨p, e, s, re, rs, q⟩ := q
  refine ⟨p, e, s, re, rs, (Po.bnd (rel1 := rB) q).imp ?_⟩
  rintro x H1 ⟨d, p1, s1, f, rs1, r1, q⟩
  obtain rfl : d = x := r1
  cases d with
  | true => exact iteT ⟨p1, e, s1, re.mono f, rs1, q⟩
  | false => exact iteF ⟨p1, e, s1, re.mono f, rs1, q⟩
theorem r_truth (ha : JE X cm W a fa) (he : ∀ whole, isTrue a X.env whole = (do let v ← whole; standAt a.pos; holding [v] (truthy v)) := by intro _; rfl) : JT X cm W a (tE fa) := by
  exact (pt_truth ha he).imp fun σ H Q q => tE_bnd q
theorem r_tnot (ht : JT X cm W a ft) : JT X cm W (.UnaryOp .Not a pos) (tNot ft) := by
  refine (pt_not ht).imp fun σ H Q q => ?_
  obtain ⟨p, e, s, re, rs, q⟩ := q
  refine ⟨p, e, s, re, rs, (Po.bnd (rel1 := rB) q).imp ?_⟩
  rintro x H1 ⟨d, p1, s1, f, rs1, r1, q⟩
  obtain rfl : d = x := r1
  exact Po.ok q rs1 rfl
theorem r_tw (h : JW X cm W a ft) : JT X cm W a ft := PW.pt h
theorem r_wor1 (h : JT X cm W a ft) : JW X cm W (.BoolOp .Or [a] pos) ft := pw_or1 h
theorem r_wand1 (h : JT X cm W a ft) : JW X cm W (.BoolOp .And [a] pos) ft := pw_and1 h
theorem r_wor (ha : JT X cm W a ft) (hb : JW X cm W (.BoolOp .Or (b :: rest) pos) fu) : JW X cm W (.BoolOp .Or (a :: b :: rest) pos) (tOr ft fu) := by
  refine (pw_or ha hb).imp fun σ H Q q => ?_
  obtain ⟨p, e, s, re, rs, q⟩ := q
  refine ⟨p, e, s, re, rs, (Po.bnd (rel1 := rB) q).imp ?_⟩
  rintro x H1 ⟨d, p1, s1, f, rs1, r1, q⟩
  obtain rfl : d = x := r1
  cases d with
  | true => exact iteT (Po.ok q rs1 rfl)
  | false => exact iteF ⟨p1, e, s1, re.mono f, rs1, q⟩
theorem r_wand (ha : JT X cm W a ft) (hb : JW X cm W (.BoolOp .And (b :: rest) pos) fu) : JW X cm W (.BoolOp .And (a :: b :: rest) pos) (tAnd ft fu) := by
  refine (pw_and ha hb).imp fun σ H Q q => ?_
  obtain ⟨p, e, s, re, rs, q⟩ := q
  refine ⟨p, e, s, re, rs, (Po.bnd (rel1 := rB) q).imp ?_⟩
  rintro x H1 ⟨d, p1, s1, f, rs1, r1, q⟩
  obtain rfl : d = x := r1
  cases d with
  | true => exact iteT ⟨p1, e, s1, re.mono f, rs1, q⟩
  | false => exact iteF (Po.ok q rs1 rfl)
/-- from an expression's reading to the reading of it as a True or False -/
theorem tB_bnd {f : E} {σ : L2.St} {H : Hp} {Q : Bool → Hp → Prop} (q : tT X.K cm W (tB f) σ H Q) : tD X.K cm W f σ H fun x H1 => ∃ k, x = .bl k ∧ Q k H1 := by
  obtain ⟨p, e, s, re, rs, q⟩ := q
  refine ⟨p, e, s, re, rs, (Po.bnd (rel1 := RV X.K) q).imp ?_⟩
  rintro x H1 ⟨d, p1, s1, f, rs1, r1, q⟩
  split at q
  · exact ⟨_, rv_bl r1, Po.ok q rs1 rfl⟩
  · exact q.elim
theorem r_tcmp {op : CmpOp} {f : D → D → M D} (ho : S2 X cm (compareOp op) f) (ha : JE X cm W a fa) (hb : JE X cm W b fb) (hm : behindInMarks op b = false := by first | exact nomark _ | rfl) : JT X cm W (.Compare a [op] [b] pos) (tB (e2 f fa fb)) := by
  obtain ⟨r, h1, h2⟩ := ho
  refine (pt_cmpR h1 ha hb hm).imp fun σ H Q q => ?_
  refine (?_ : tOp r _ _ σ H _)
  obtain ⟨p, e, s, re, rs, q⟩ := tD.two (tB_bnd q)
  refine ⟨p, e, s, re, rs, q.imp ?_⟩
  rintro x H1 ⟨p, e, s, re, rs, q⟩
  refine ⟨p, e, s, re, rs, q.imp ?_⟩
  rintro y H2 ⟨p, e, s, d1, d2, re, rs, r1, r2, q⟩
  exact h2 W p s σ H2 x y d1 d2 _ rs r1 r2 q
theorem r_tisN {j : Nat} {pos' : Pos} {y : Expr} (ha : JE X cm W a fa) (hy : y = .Constant .none j pos' := by rfl) : JT X cm W (.Compare a [.Is] [y] pos) (tB (e1 oIsN fa)) := by
  subst hy
  refine (pt_cmp (pc_isN ha) rfl).imp fun σ H Q q => ?_
  obtain ⟨p, e, s, re, rs, q⟩ := tD.bnd (tB_bnd q)
  refine ⟨p, e, s, re, rs, q.imp ?_⟩
  rintro x H1 ⟨p, e, s, d, re, rs, r1, q⟩
  refine Po.ok q rs ?_
  cases d <;> simp only [RV] at r1 ⊢ <;> first | (subst r1; rfl) | (obtain ⟨_, _, rfl, _⟩ := r1; rfl) | (obtain ⟨_, _, rfl⟩ := r1; rfl)
theorem r_tnotN {j : Nat} {pos' : Pos} {y : Expr} (ha : JE X cm W a fa) (hy : y = .Constant .none j pos' := by rfl) : JT X cm W (.Compare a [.IsNot] [y] pos) (tB (e1 oNotN fa)) := by
  subst hy
  refine (pt_cmp (pc_notN ha) rfl).imp fun σ H Q q => ?_
  obtain ⟨p, e, s, re, rs, q⟩ := tD.bnd (tB_bnd q)
  refine ⟨p, e, s, re, rs, q.imp ?_⟩
  rintro x H1 ⟨p, e, s, d, re, rs, r1, q⟩
  refine Po.ok q rs ?_
  cases d <;> simp only [RV] at r1 ⊢ <;> first | (subst r1; rfl) | (obtain ⟨_, _, rfl, _⟩ := r1; rfl) | (obtain ⟨_, _, rfl⟩ := r1; rfl)
theorem chain_rd {r r' : R2} {f g : D → D → M D} (h2 : ∀ (W : WX) p s σ H x y dx dy Q, RS X.K cm p s H → RV X.K p H dx x → RV X.K p H dy y → Po X.K cm W (RV X.K) p σ H (f dx dy s) Q → r x y H Q)
    (h2' : ∀ (W : WX) p s σ H x y dx dy Q, RS X.K cm p s H → RV X.K p H dx x → RV X.K p H dy y → Po X.K cm W (RV X.K) p σ H (g dx dy s) Q → r' x y H Q)
    {σ : L2.St} {H : Hp} {Q : VK} (q : tD X.K cm W (eChain f g fa fb fc) σ H Q) : tD X.K cm W fa σ H fun x H1 => tD X.K cm W fb σ H1 fun y H2 => r x y H2 fun z H3 => ∃ k, z = .bl k ∧ if k = true then tD X.K cm W fc σ H3 fun w H4 => r' y w H4 Q else Q (.bl false) H3 := by
  obtain ⟨p, e, s, re, rs, q⟩ := q
  refine ⟨p, e, s, re, rs, (Po.bnd (rel1 := RV X.K) q).imp ?_⟩
  rintro x H1 ⟨d, p1, s1, f1, rs1, r1, q⟩
  refine ⟨p1, e, s1, re.mono f1, rs1, (Po.bnd (rel1 := RV X.K) q).imp ?_⟩
  rintro y H2 ⟨d', p2, s2, f2, rs2, r2, q⟩
  refine h2 W p2 s2 σ H2 x y d d' _ rs2 (r1.mono f2) r2 ((Po.bnd (rel1 := RV X.K) q).imp ?_)
  rintro z H3 ⟨d3, p3, s3, f3, rs3, r3, q⟩
  split at q
  · refine ⟨true, rv_bl r3, iteT ⟨p3, e, s3, ((re.mono f1).mono f2).mono f3, rs3, (Po.bnd (rel1 := RV X.K) q).imp ?_⟩⟩
    rintro w H4 ⟨d4, p4, s4, f4, rs4, r4, q⟩
    exact h2' W p4 s4 σ H4 y w d' d4 Q rs4 ((r2.mono f3).mono f4) r4 q
  · exact ⟨false, rv_bl r3, iteF (Po.ok q rs3 (mk_bl _))⟩
  · exact q.elim
theorem r_chain {op op' : CmpOp} {f g : D → D → M D} (ho : S2 X cm (compareOp op) f) (ho' : S2 X cm (compareOp op') g) (ha : JE X cm W a fa) (hb : JE X cm W b fb) (hc : JE X cm W c fc)
    (hm : lastMarks [op, op'] [b, c] = false := by rfl) : JE X cm W (.Compare a [op, op'] [b, c] pos) (eChain f g fa fb fc) := by
  obtain ⟨r, g1, g2⟩ := ho
  obtain ⟨r', g1', g2'⟩ := ho'
  exact (pe_chain g1 g1' ha hb hc hm).imp fun σ H Q q => chain_rd g2 g2' q
theorem r_tchain {op op' : CmpOp} {f g : D → D → M D} (ho : S2 X cm (compareOp op) f) (ho' : S2 X cm (compareOp op') g) (ha : JE X cm W a fa) (hb : JE X cm W b fb) (hc : JE X cm W c fc)
    (hm : lastMarks [op, op'] [b, c] = false := by rfl) : JT X cm W (.Compare a [op, op'] [b, c] pos) (tB (eChain f g fa fb fc)) := by
  obtain ⟨r, g1, g2⟩ := ho
  obtain ⟨r', g1', g2'⟩ := ho'
  exact (pt_chain g1 g1' ha hb hc hm).imp fun σ H Q q => chain_rd g2 g2' (tB_bnd q)
end
section
variable {X : Cx} {cm : CM} {W : WX} {a b : Expr} {es : List Expr} {fa fb : E} {fl : EL} {pos : Pos}
theorem r_nil : JA X cm W [] lNil := by
  refine pa_nil.imp fun σ H Q q => ?_
  obtain ⟨p, e, s, re, rs, q⟩ := q
  exact Po.ok q rs (by simp [RVs])
theorem r_cons (ha : JE X cm W a fa) (hr : JA X cm W es fl) (hs : starEach (a :: es) X.env = (false, eval a X.env) :: starEach es X.env := by rfl) : JA X cm W (a :: es) (lCons fa fl) := by
  refine (pa_cons ha hr hs).imp fun σ H Q q => ?_
  obtain ⟨p, e, s, re, rs, q⟩ := q
  refine ⟨p, e, s, re, rs, (Po.bnd (rel1 := RV X.K) q).imp ?_⟩
  rintro x H1 ⟨d, p1, s1, f1, rs1, r1, q⟩
  refine ⟨p1, e, s1, re.mono f1, rs1, (Po.bnd (rel1 := RVs X.K) q).imp ?_⟩
  rintro xs H2 ⟨ds, p2, s2, f2, rs2, r2, q⟩
  refine Po.ok q rs2 ?_
  simp only [RVs]
  exact ⟨x, xs, rfl, r1.mono f2, r2⟩
theorem r_tup {k : Nat} (h : JA X cm W es fl) : JE X cm W (.Tuple es k pos) (eN mTup fl) := by
  refine (pe_tup h).imp fun σ H Q q => ?_
  obtain ⟨p, e, s, re, rs, q⟩ := tD.args q
  refine ⟨p, e, s, re, rs, q.imp ?_⟩
  rintro xs H1 ⟨p, e, s, ds, re, rs, r1, q⟩
  unfold mTup at q
  split at q
  · rename_i h
    exact ⟨by rw [← r1.length]; exact sz_ok h, fun t ht => Po.newt q rs r1 ht⟩
  · exact q.elim
theorem r_lst (h : JA X cm W es fl) : JE X cm W (.List es pos) (eN mLst fl) := by
  refine (pe_lst h).imp fun σ H Q q => ?_
  obtain ⟨p, e, s, re, rs, q⟩ := tD.args q
  refine ⟨p, e, s, re, rs, q.imp ?_⟩
  rintro xs H1 ⟨p, e, s, ds, re, rs, r1, q⟩
  unfold mLst at q
  split at q
  · rename_i h
    exact ⟨by rw [← r1.length]; exact sz_ok h, fun t ht => Po.newl q rs r1 ht⟩
  · exact q.elim
theorem r_dT : JE X cm W (.Dict [] [] pos) (eN (fun _ => mDT) lNil) := by
  refine pe_dnewT.imp fun σ H Q q => ?_
  obtain ⟨p, e, s, re, rs, q⟩ := q
  intro a ha
  obtain ⟨f, rs', e⟩ := rs.new (o := .dT []) (u := .dT []) ha ⟨[], rfl, by simp [RKs]⟩
  exact q _ _ _ f rs' (mk_ref e)
theorem atI_rv {K : PySem.W.Frag} {p : List Addr} {H : Hp} {ds : List D} {vs : List V} {i : Int} {d : D} (r : RVs K p H ds vs) (e : atI ds i = some d) : ∃ v, atI vs i = some v ∧ RV K p H d v := by
  unfold atI at e ⊢
  rw [← r.length]
  cases h : ixN ds.length i with
  | none => rw [h] at e; cases e
  | some j =>
    rw [h] at e
    exact r.get e
theorem ix_dict (hu : X.A.units + 1 < cLine) : IxR X (fun x y H Q => ∃ a v, x = .ref a ∧ DGet H a y (some v) ∧ Q v H) := by
  intro value slice pins s σ H x y v u Q I rx ry h hs
  obtain ⟨a, w, rfl, g, q⟩ := h
  cases (show v = Value.ref a from rx)
  exact tail_any (dict_typeIs I g) PySem.F.slot_dict_getitem.lookup (d_getItem hu I g ry fun w' s' I' rw' => ⟨w, H, I', rw', q⟩) hs
theorem r_at {k : Nat} (hr : Room k X.A) (ha : JE X cm W a fa) (hb : JE X cm W b fb) (hs : PlainIx b := by intro _ _; rfl) : JE X cm W (.Subscript a b pos) (e2 oAt fa fb) := by
  refine (pe_ix (ix_seq.or (ix_dict (hu_of hr))) ha hb hs).imp fun σ H Q q => ?_
  obtain ⟨p, e, s, re, rs, q⟩ := tD.two q
  refine ⟨p, e, s, re, rs, q.imp ?_⟩
  rintro x H1 ⟨p, e, s, re, rs, q⟩
  refine ⟨p, e, s, re, rs, q.imp ?_⟩
  rintro y H2 ⟨p, e, s, d1, d2, re, rs, r1, r2, q0⟩
  obtain ⟨d, e1, qf⟩ := pur2_ok q0
  unfold atD at e1
  split at e1
  · rename_i ds
    split at e1
    · rename_i i
      obtain ⟨t, vs, rfl, h1, rr⟩ := rv_tup r1
      obtain ⟨v, e2, rv⟩ := atI_rv rr e1
      exact .inl (.inr (.inl ⟨t, vs, i, v, rfl, rv_int r2, SqT.of h1, e2, Po.ok qf rs rv⟩))
    · cases e1
  · rename_i ds
    split at e1
    · rename_i i
      simp only [RV] at r1
      obtain ⟨t, vs, rfl, h1, rr⟩ := r1
      obtain ⟨v, e2, rv⟩ := atI_rv rr e1
      exact .inl (.inl ⟨t, vs, i, v, rfl, rv_int r2, h1.1, e2, Po.ok qf rs rv⟩)
    · cases e1
  · rename_i z
    split at e1
    · rename_i i
      split at e1
      · rename_i hz
        obtain ⟨c, e2, rfl⟩ := Option.map_eq_some_iff.mp e1
        exact .inl (.inr (.inr ⟨z, i, c, rv_str r1, rv_int r2, sz_ok hz, e2, Po.ok qf rs (mk_str _)⟩))
      · cases e1
    · cases e1
  · rename_i n
    split at e1
    · rename_i ds h
      split at e1
      · rename_i i
        obtain ⟨t, vs, rfl, _, h1, rr⟩ := lst_at rs r1 h
        obtain ⟨v, e2, rv⟩ := atI_rv rr e1
        exact .inl (.inl ⟨t, vs, i, v, rfl, rv_int r2, SqL.of h1, e2, Po.ok qf rs rv⟩)
      · cases e1
    · rename_i o h1 h2
      obtain ⟨r, e2, e3⟩ := Option.bind_eq_some_iff.mp e1
      simp only [id] at e3
      subst e3
      obtain ⟨t, rfl, h⟩ := dget_ok rs r1 h2 r2 e2
      rcases h with ⟨d', v, e4, g, rv⟩ | ⟨e4, _⟩
      · cases e4
        exact .inr ⟨t, v, rfl, g, Po.ok qf rs rv⟩
      · cases e4
    · cases e1
  · cases e1
theorem r_pno : JO X cm W none pNo := by
  refine po_none.imp fun σ H Q q => ?_
  obtain ⟨p, e, s, re, rs, q⟩ := q
  exact Po.ok q rs rfl
theorem r_pyes (ha : JE X cm W a fa) : JO X cm W (some a) (pYes fa) := by
  refine (po_some ha).imp fun σ H Q q => ?_
  obtain ⟨p, e, s, re, rs, q⟩ := q
  refine ⟨p, e, s, re, rs, (Po.bnd (rel1 := RV X.K) q).imp ?_⟩
  rintro x H1 ⟨d, p1, s1, f, rs1, r1, q⟩
  split at q
  · exact ⟨_, rv_int r1, Po.ok q rs1 rfl⟩
  · exact q.elim
theorem cutV_rv {K : PySem.W.Frag} {p : List Addr} {H : Hp} {ds : List D} {vs : List V} {lo hi : Option Int} (r : RVs K p H ds vs) : RVs K p H (cutL ds lo hi) (cutV vs lo hi) := by
  unfold cutL cutV
  rw [← r.length]
  exact (r.drop _).take _
theorem r_cut {lo hi : Option Expr} {fl fh : EO} {p2 : Pos} (ha : JE X cm W a fa) (hl : JO X cm W lo fl) (hh : JO X cm W hi fh) : JE X cm W (.Subscript a (.Slice lo hi none p2) pos) (eCut fa fl fh) := by
  refine (pe_slice (sl_list.or (sl_tupA.or sl_str)) ha hl hh).imp fun σ H Q q => ?_
  obtain ⟨p, e, s, re, rs, q0⟩ := q
  refine ⟨p, e, s, re, rs, (Po.bnd (rel1 := RV X.K) q0).imp ?_⟩
  rintro x H1 ⟨d, p1, s1, f1, rs1, r1, q1⟩
  refine ⟨p1, e, s1, re.mono f1, rs1, (Po.bnd (rel1 := rI') q1).imp ?_⟩
  rintro l H2 ⟨l', p2, s2, f2, rs2, r2, q2⟩
  have r2' : l' = l := r2
  subst r2'
  refine ⟨p2, e, s2, (re.mono f1).mono f2, rs2, (Po.bnd (rel1 := rI') q2).imp ?_⟩
  rintro h H3 ⟨h', p3, s3, f3, rs3, r3, q3⟩
  have r3' : h' = h := r3
  subst r3'
  have rr1 := (r1.mono f2).mono f3
  clear r1
  unfold oCut at q3
  split at q3
  · rename_i ds
    obtain ⟨t, vs, rfl, h1, rr⟩ := rv_tup rr1
    refine .inr (.inl ⟨t, vs, rfl, SqT.of h1, fun z => ?_, fun _ b hb => Po.newt q3 rs3 (cutV_rv rr) hb⟩)
    refine Po.ok q3 rs3 (mk_tup h1 ?_)
    have e1 : cutL ds l' h' = ds := by
      unfold cutL
      have hl := rr.length
      rw [hl, z.1, z.2, ← hl]
      simp
    rw [e1]
    exact rr
  · rename_i z
    split at q3
    · rename_i hz
      exact .inr (.inr ⟨z, rv_str rr1, sz_ok hz, Po.ok q3 rs3 (mk_str _)⟩)
    · exact q3.elim
  · rename_i n
    split at q3
    · rename_i ds h
      obtain ⟨t, vs, rfl, _, h1, rr⟩ := lst_at rs3 rr1 h
      exact .inl ⟨t, vs, rfl, SqL.of h1, fun b hb => Po.newl q3 rs3 (cutV_rv rr) hb⟩
    · exact q3.elim
  · exact q3.elim
end
end Fc
namespace Fc
open PySem PySem.Spec PyProof.Rows L2
section
variable {X : Cx} {cm : CM} {W : WX} {a b c : Expr} {es : List Expr} {fa fb fc : E} {fl : EL} {pos : Pos}
/-- what the classes must have for a field to be read and written -/
structure FldOk (K : PySem.W.Frag) (cm : CM) (f : Str) : Prop where
  ins : ∀ c C, cm.ins c = some C → Cls K C ∧ NoAttr K C f
  err : ∀ c C, cm.err c = some C → XfC K C ∧ PySem.W.findIn K (.ref C) f = some none
theorem r_biB {id : String} {x : Str} {f : List D → M D} {p' : Pos} (hc : SN X cm (.builtin id) f) (hm : X.mg x = none) (ha : JA X cm W (a :: es) fl) (hg : Gl X x := by rfl) (hv : bootBuiltins x = some (.builtin id) := by decide +kernel) (hn : x ≠ "__name__" := by decide) (hdb : (x == ("__debug__" : Str)) = false := by decide)
    (he : starEach (a :: es) X.env = (false, eval a X.env) :: starEach es X.env := by rfl) (hpl : (backTo pos (starEach es X.env)).any (·.1) = false := by rfl) : JE X cm W (.Call (.Name x p') (a :: es) [] pos) (eN f fl) := by
  obtain ⟨r, h1, h2⟩ := hc
  refine (pe_callB h1 hg hm hv ha hn hdb he hpl).imp fun σ H Q q => ?_
  obtain ⟨p, e, s, re, rs, q⟩ := tD.args q
  refine ⟨p, e, s, re, rs, q.imp ?_⟩
  rintro xs H1 ⟨p, e, s, ds, re, rs, r1, q⟩
  exact h2 W p s σ H1 xs ds Q rs r1 q
theorem r_biT {id : String} {x : Str} {f : List D → M D} {p' : Pos} (hc : SN X cm (.type id) f) (hm : X.mg x = none) (ha : JA X cm W (a :: es) fl) (hg : Gl X x := by rfl) (hv : bootBuiltins x = some (.type id) := by decide +kernel) (hn : x ≠ "__name__" := by decide) (hdb : (x == ("__debug__" : Str)) = false := by decide)
    (he : starEach (a :: es) X.env = (false, eval a X.env) :: starEach es X.env := by rfl) (hpl : (backTo pos (starEach es X.env)).any (·.1) = false := by rfl) : JE X cm W (.Call (.Name x p') (a :: es) [] pos) (eN f fl) := by
  obtain ⟨r, h1, h2⟩ := hc
  refine (pe_callTy h1 hg hm hv ha hn hdb he hpl).imp fun σ H Q q => ?_
  obtain ⟨p, e, s, re, rs, q⟩ := tD.args q
  refine ⟨p, e, s, re, rs, q.imp ?_⟩
  rintro xs H1 ⟨p, e, s, ds, re, rs, r1, q⟩
  exact h2 W p s σ H1 xs ds Q rs r1 q
theorem one_rv {K : PySem.W.Frag} {p : List Addr} {H : Hp} {d : D} {xs : List V} (r : RVs K p H [d] xs) : ∃ x, xs = [x] ∧ RV K p H d x := by
  simp only [RVs] at r
  obtain ⟨v, r', rfl, r1, rfl⟩ := r
  exact ⟨v, rfl, r1⟩
theorem two_rv {K : PySem.W.Frag} {p : List Addr} {H : Hp} {d d' : D} {xs : List V} (r : RVs K p H [d, d'] xs) : ∃ x y, xs = [x, y] ∧ RV K p H d x ∧ RV K p H d' y := by
  simp only [RVs] at r
  obtain ⟨v, r', rfl, r1, w, r'', rfl, r2, rfl⟩ := r
  exact ⟨v, w, rfl, r1, r2⟩
theorem call_lenDk : CallR X (.builtin "len") (fun xs H Q => ∃ a kvs, xs = [V.ref a] ∧ Rd H a (.dK kvs) ∧ Q (.int kvs.length) H) := by
  intro pins s σ H xs us Q I r h
  obtain ⟨a, kvs, rfl, ha, q⟩ := h
  obtain ⟨u, rfl, ru⟩ := vals1 r
  cases (show u = Value.ref a from ru)
  exact d_len I ha fun t s' I' => ⟨.int _, H, I', ⟨t, rfl⟩, q⟩
theorem s_len : SN X cm (.builtin "len") fLen := by
  refine ⟨_, call_len.or call_lenDk, fun W p s σ H xs ds Q rs r q => ?_⟩
  unfold fLen at q
  split at q
  · rename_i d
    obtain ⟨x, rfl, r1⟩ := one_rv r
    cases hl : lenD s d with
    | none => rw [hl] at q; exact q.elim
    | some n =>
      rw [hl] at q
      have q' := Po.ok q rs (mk_int _)
      unfold lenD at hl
      split at hl
      · split at hl
        · rename_i hz
          cases hl
          exact .inl ⟨x, _, rfl, by rw [rv_str r1]; exact ⟨sz_ok hz, rfl⟩, q'⟩
        · cases hl
      · cases hl
        obtain ⟨t, vs, rfl, h1, rr⟩ := rv_tup r1
        exact .inl ⟨_, _, rfl, .inr ⟨vs, SqT.of h1, rr.length⟩, q'⟩
      · cases hl
        simp only [RV] at r1
        obtain ⟨t, vs, rfl, h1, rr⟩ := r1
        exact .inl ⟨_, _, rfl, .inl ⟨vs, h1.1, rr.length⟩, q'⟩
      · cases hl
        simp only [RV] at r1
        obtain ⟨t, vs, rfl, h1, rr⟩ := r1
        exact .inl ⟨_, _, rfl, .inr ⟨vs, h1.sq, rr.length⟩, q'⟩
      · rename_i n'
        split at hl
        · rename_i ds h
          cases hl
          obtain ⟨t, vs, rfl, _, h1, rr⟩ := lst_at rs r1 h
          exact .inl ⟨_, _, rfl, .inl ⟨vs, SqL.of h1, rr.length⟩, q'⟩
        · rename_i o h0 h
          split at hl
          · rename_i kvs hu
            cases hl
            simp only [RV] at r1
            obtain ⟨t, ht, rfl⟩ := r1
            obtain ⟨t', ht', hr⟩ := rs.at h
            rw [ht] at ht'; cases ht'
            have : ∃ ws, Rd H t (.dK ws) ∧ RKs X.K p H kvs ws := by
              cases o with
              | lck o' =>
                obtain ⟨od, u, e1, _, c⟩ := hr
                simp only [unl] at hu; subst hu
                obtain ⟨ws, rfl, c⟩ := c
                exact ⟨ws, .inr ⟨od, e1⟩, c⟩
              | dK _ =>
                simp only [unl] at hu; cases hu
                obtain ⟨u, e1, ws, rfl, c⟩ := hr
                exact ⟨ws, .inl e1, c⟩
              | _ => simp only [unl] at hu; cases hu
            obtain ⟨ws, h1, rr⟩ := this
            rw [rr.length] at q'
            exact .inr ⟨t, ws, rfl, h1, q'⟩
          · cases hl
        · cases hl
      · cases hl
  · exact q.elim
theorem s_int : SN X cm (.type "int") fInt := by
  refine ⟨_, call_int1, fun W p s σ H xs ds Q rs r q => ?_⟩
  unfold fInt at q
  split at q
  · obtain ⟨x, rfl, r1⟩ := one_rv r
    exact .inl ⟨_, by rw [rv_int r1], Po.ok q rs (mk_int _)⟩
  · obtain ⟨x, rfl, r1⟩ := one_rv r
    exact .inr ⟨_, by rw [rv_bl r1], Po.ok q rs (mk_int _)⟩
  · exact q.elim
theorem intsD_rv {K : PySem.W.Frag} {p : List Addr} {H : Hp} : ∀ {ds : List D} {ns : List Int} {vs : List V}, intsD ds = some ns → RVs K p H ds vs → vs = ns.map V.int
  | [], ns, vs, e, r => by
    simp only [intsD] at e; cases e
    simp only [RVs] at r; subst r; rfl
  | d :: ds, ns, vs, e, r => by
    cases d <;> simp only [intsD] at e <;> first | (cases e; done) | skip
    obtain ⟨ms, e1, rfl⟩ := Option.map_eq_some_iff.mp e
    simp only [RVs] at r
    obtain ⟨v, r', rfl, r1, r2⟩ := r
    rw [rv_int r1, intsD_rv e1 r2]; rfl
theorem maxI_spec : ∀ (r : List Int) (a : Int), (maxI a r = a ∨ maxI a r ∈ r) ∧ a ≤ maxI a r ∧ ∀ y ∈ r, y ≤ maxI a r
  | [], a => ⟨.inl rfl, Int.le_refl _, fun y h => nomatch h⟩
  | b :: r, a => by
    unfold maxI
    split
    · rename_i h
      obtain ⟨h1, h2, h3⟩ := maxI_spec r b
      refine ⟨.inr ?_, by omega, fun y hy => ?_⟩
      · rcases h1 with e | e
        · rw [e]; exact List.mem_cons_self
        · exact List.mem_cons_of_mem _ e
      · rcases List.mem_cons.mp hy with rfl | hy
        · exact h2
        · exact h3 y hy
    · rename_i h
      obtain ⟨h1, h2, h3⟩ := maxI_spec r a
      refine ⟨h1.imp id fun e => List.mem_cons_of_mem _ e, h2, fun y hy => ?_⟩
      rcases List.mem_cons.mp hy with rfl | hy
      · omega
      · exact h3 y hy
theorem minI_spec : ∀ (r : List Int) (a : Int), (minI a r = a ∨ minI a r ∈ r) ∧ minI a r ≤ a ∧ ∀ y ∈ r, minI a r ≤ y
  | [], a => ⟨.inl rfl, Int.le_refl _, fun y h => nomatch h⟩
  | b :: r, a => by
    unfold minI
    split
    · rename_i h
      obtain ⟨h1, h2, h3⟩ := minI_spec r b
      refine ⟨.inr ?_, by omega, fun y hy => ?_⟩
      · rcases h1 with e | e
        · rw [e]; exact List.mem_cons_self
        · exact List.mem_cons_of_mem _ e
      · rcases List.mem_cons.mp hy with rfl | hy
        · exact h2
        · exact h3 y hy
    · rename_i h
      obtain ⟨h1, h2, h3⟩ := minI_spec r a
      refine ⟨h1.imp id fun e => List.mem_cons_of_mem _ e, h2, fun y hy => ?_⟩
      rcases List.mem_cons.mp hy with rfl | hy
      · omega
      · exact h3 y hy
theorem s_max (hc : X.calm = true) : SN X cm (.builtin "max") fMax := by
  refine ⟨_, (cr_max hc).or (call_max2 hc), fun W p s σ H xs ds Q rs r q => ?_⟩
  unfold fMax mm at q
  split at q
  · rename_i n
    obtain ⟨x, rfl, r1⟩ := one_rv r
    split at q
    · rename_i ds h
      unfold lstAt at h
      split at h
      · rename_i ds' h'
        cases h
        split at q
        · rename_i a r' hi
          obtain ⟨t, vs, rfl, _, h1, rr⟩ := lst_at rs r1 h'
          have e := intsD_rv hi rr
          subst e
          obtain ⟨k1, k2, k3⟩ := maxI_spec r' a
          refine .inl ⟨t, _, rfl, SqL.of h1, by simp, fun m hm hle => ?_⟩
          have e : m = maxI a r' := by
            have := hle (maxI a r') (by
              rcases k1 with e | e
              · rw [e]; exact List.mem_cons_self
              · exact List.mem_cons_of_mem _ e)
            rcases List.mem_cons.mp hm with rfl | hm
            · omega
            · have := k3 m hm; omega
          rw [e]
          exact Po.ok q rs (mk_int _)
        · exact q.elim
      · cases h
    · exact q.elim
  · rename_i i j
    obtain ⟨x, y, rfl, r1, r2⟩ := two_rv r
    exact .inr ⟨i, j, by rw [rv_int r1, rv_int r2], Po.ok q rs (mk_int _)⟩
  · exact q.elim
theorem s_min (hc : X.calm = true) : SN X cm (.builtin "min") fMin := by
  refine ⟨_, (cr_min hc).or (call_min2 hc), fun W p s σ H xs ds Q rs r q => ?_⟩
  unfold fMin mm at q
  split at q
  · rename_i n
    obtain ⟨x, rfl, r1⟩ := one_rv r
    split at q
    · rename_i ds h
      unfold lstAt at h
      split at h
      · rename_i ds' h'
        cases h
        split at q
        · rename_i a r' hi
          obtain ⟨t, vs, rfl, _, h1, rr⟩ := lst_at rs r1 h'
          have e := intsD_rv hi rr
          subst e
          obtain ⟨k1, k2, k3⟩ := minI_spec r' a
          refine .inl ⟨t, _, rfl, SqL.of h1, by simp, fun m hm hle => ?_⟩
          have e : m = minI a r' := by
            have := hle (minI a r') (by
              rcases k1 with e | e
              · rw [e]; exact List.mem_cons_self
              · exact List.mem_cons_of_mem _ e)
            rcases List.mem_cons.mp hm with rfl | hm
            · omega
            · have := k3 m hm; omega
          rw [e]
          exact Po.ok q rs (mk_int _)
        · exact q.elim
      · cases h
    · exact q.elim
  · rename_i i j
    obtain ⟨x, y, rfl, r1, r2⟩ := two_rv r
    exact .inr ⟨i, j, by rw [rv_int r1, rv_int r2], Po.ok q rs (mk_int _)⟩
  · exact q.elim
theorem s_tuple : SN X cm (.type "tuple") fTuple := by
  refine ⟨_, call_tuple_of, fun W p s σ H xs ds Q rs r q => ?_⟩
  unfold fTuple at q
  split at q
  · obtain ⟨x, rfl, r1⟩ := one_rv r
    obtain ⟨t, vs, rfl, h1, rr⟩ := rv_tup r1
    exact ⟨t, vs, rfl, .inr ⟨SqT.of h1, Po.ok q rs (mk_tup h1 rr)⟩⟩
  · rename_i n
    obtain ⟨x, rfl, r1⟩ := one_rv r
    split at q
    · rename_i ds h
      obtain ⟨t, vs, rfl, _, h1, rr⟩ := lst_at rs r1 h
      exact ⟨t, vs, rfl, .inl ⟨SqL.of h1, fun l hl => Po.newt q rs rr hl⟩⟩
    · exact q.elim
  · exact q.elim
def tyName : Ty → String
  | .int => "int"
  | .bool => "bool"
  | .str => "str"
  | .tuple => "tuple"
  | .list => "list"
  | .dict => "dict"
theorem isTy_ok {K : PySem.W.Frag} {p : List Addr} {s : S} {H : Hp} {d : D} {x : V} {t : Ty} {k : Bool} (rs : RS K cm p s H) (r : RV K p H d x) (e : isTy s d t = some k) : ∃ T : String, TyX K H x (.type T) ∧ kitB T (tyName t) = some k := by
  unfold isTy at e
  split at e
  · cases e; rw [rv_non r]
    exact ⟨_, .base .non, by cases t <;> decide +kernel⟩
  · cases e; rw [rv_bl r]
    exact ⟨_, .base (.bl _), by cases t <;> decide +kernel⟩
  · cases e; rw [rv_int r]
    exact ⟨_, .base (.int _), by cases t <;> decide +kernel⟩
  · cases e; rw [rv_str r]
    exact ⟨_, .base (.str _), by cases t <;> decide +kernel⟩
  · cases e
    obtain ⟨a, vs, rfl, h1, rr⟩ := rv_tup r
    exact ⟨_, .base (.tup h1), by cases t <;> decide +kernel⟩
  · cases e
  · cases e
    simp only [RV] at r
    obtain ⟨a, vs, rfl, ⟨o, its, m, h1, h2, _⟩, rr⟩ := r
    exact ⟨_, .kTuple h1 h2, by cases t <;> decide +kernel⟩
  · rename_i n
    obtain ⟨o, h, e⟩ := Option.bind_eq_some_iff.mp e
    simp only [RV] at r
    obtain ⟨a, ha, rfl⟩ := r
    obtain ⟨b, hb, q⟩ := rs.at h
    rw [ha] at hb; cases hb
    cases o with
    | lst ds =>
      cases e
      obtain ⟨u, h1, vs, rfl, _⟩ := q
      exact ⟨_, .base (.lst h1), by cases t <;> decide +kernel⟩
    | dK ds =>
      cases e
      obtain ⟨u, h1, vs, rfl, _⟩ := q
      exact ⟨_, .base (.dK h1), by cases t <;> decide +kernel⟩
    | dT ds =>
      cases e
      obtain ⟨u, h1, vs, rfl, _⟩ := q
      exact ⟨_, .base (.dT h1), by cases t <;> decide +kernel⟩
    | _ => cases e
theorem r_is {t : Ty} {x : Str} {p1 p2 : Pos} (he : JE X cm W a fa) (hm : X.mg "isinstance" = none) (hx : X.mg x = none) (hb : bootBuiltins x = some (.type (tyName t)) := by decide +kernel) (hg : Gl X "isinstance" := by rfl) (hgx : Gl X x := by rfl) (hn : x ≠ "__name__" := by decide) (hdb : (x == ("__debug__" : Str)) = false := by decide)
    (he1 : starEach [a, .Name x p2] X.env = (false, eval a X.env) :: starEach [.Name x p2] X.env := by rfl) (he2 : starEach [.Name x p2] X.env = (false, eval (.Name x p2) X.env) :: starEach [] X.env := by rfl) (hpl : (backTo pos (starEach [.Name x p2] X.env)).any (·.1) = false := by rfl) :
    JE X cm W (.Call (.Name "isinstance" p1) [a, .Name x p2] [] pos) (e1 (oIs t) fa) := by
  refine (pe_callB call_isi hg hm (by decide +kernel) (pa_cons he (pa_cons (pe_bltn (v := .ty (tyName t)) hgx hx hb rfl hn hdb) pa_nil he2) he1) (he := he1) (hpl := hpl)).imp fun σ H Q q => ?_
  obtain ⟨p, e, s, re, rs, q⟩ := tD.bnd q
  refine ⟨p, e, s, re, rs, q.imp ?_⟩
  rintro v H1 ⟨p, e, s, d, re, rs, r1, q⟩
  unfold oIs at q
  cases h : isTy s d t with
  | none => rw [h] at q; exact q.elim
  | some k =>
    rw [h] at q
    obtain ⟨T, h1, h2⟩ := isTy_ok rs r1 h
    exact ⟨v, .ty (tyName t), .type T, .type (tyName t), k, rfl, .ty _, h1, kit_ty h2, Po.ok q rs (mk_bl _)⟩
theorem isLst_ok {K : PySem.W.Frag} {p : List Addr} {s : S} {H : Hp} {d : D} {x : V} (rs : RS K cm p s H) (r : RV K p H d x) (e : isLst s d = true) : tyV K "list" x H := by
  unfold isLst at e
  split at e
  · rename_i n
    split at e
    · rename_i ds h
      obtain ⟨t, vs, rfl, _, h1, rr⟩ := lst_at rs r h
      exact .inl ⟨rfl, vs, SqL.of h1⟩
    · cases e
  · cases e
theorem mutO_ok {K : PySem.W.Frag} {W : WX} {p : List Addr} {s : S} {σ : L2.St} {H : Hp} {n : Nat} {f : O → Option (O × D)} {Q : VK} (q : Po K cm W (RV K) p σ H (mutO n f s) Q) : ∃ o o' d, s[n]? = some o ∧ f o = some (o', d) ∧ Po K cm W (RV K) p σ H (some (.ok d (s.set n o'))) Q := by
  unfold mutO at q
  cases h : s[n]? with
  | none => rw [h] at q; exact q.elim
  | some o =>
    rw [h] at q
    cases h2 : f o with
    | none => simp only [h2] at q; exact q.elim
    | some r => simp only [h2] at q; exact ⟨o, r.1, r.2, rfl, h2, q⟩
/-- a method of lists, with arguments -/
theorem r_m {id : String} {m : Str} {f : D → List D → M D} {apos cpos : Pos} {r : V → List V → Hp → VK → Prop} (slot : Slot "list" m id) (hty : typeOf (.builtin id) = pure (.type "method_descriptor")) (hm : MtR X id r)
    (hr : ∀ (W : WX) p s σ H x xs d ds Q, RS X.K cm p s H → RV X.K p H d x → RVs X.K p H ds xs → Po X.K cm W (RV X.K) p σ H (f d ds s) Q → r x xs H Q) (ho : JE X cm W a fa) (ha : JA X cm W (b :: es) fl)
    (hbase : attributeBase a m X.env (eval a X.env) = eval a X.env := by rfl)
    (hfew : ((backTo cpos (starEach (b :: es) X.env)).all (fun x => !x.1) && (backToKw cpos (keywordEach [] X.env)).all (fun x => x.1.isSome)
      && decide ((b :: es).length + ([] : List Keyword).length + (if ([] : List Keyword).isEmpty then 0 else 1) < 30)) = true := by rfl)
    (hline : (apos.endLine == cpos.line) = true := by rfl) (hs : starEach (b :: es) X.env = (false, eval b X.env) :: starEach es X.env := by rfl) (hplain : (backTo cpos (starEach es X.env)).any (·.1) = false := by rfl) :
    JE X cm W (.Call (.Attribute a m apos) (b :: es) [] cpos) (eM f fa fl) := by
  refine (pe_bm PySem.F.plainAttrs_list slot hty hm ho ha hbase hfew hline hs hplain).imp fun σ H Q q => ?_
  obtain ⟨p, e, s, re, rs, q⟩ := q
  refine ⟨p, e, s, re, rs, (Po.bnd (rel1 := RV X.K) q).imp ?_⟩
  rintro x H1 ⟨d, p1, s1, f1, rs1, r1, q⟩
  split at q
  · rename_i h
    refine ⟨isLst_ok rs1 r1 h, p1, e, s1, re.mono f1, rs1, (Po.bnd (rel1 := RVs X.K) q).imp ?_⟩
    rintro xs H2 ⟨ds, p2, s2, f2, rs2, r2, q⟩
    exact hr W p2 s2 σ H2 x xs d ds Q rs2 (r1.mono f2) r2 q
  · exact q.elim
theorem r_m_append1 {apos cpos : Pos} (ho : JE X cm W a fa) (ha : JA X cm W [b] fl)
    (hbase : attributeBase a "append" X.env (eval a X.env) = eval a X.env := by rfl)
    (hfew : ((backTo cpos (starEach [b] X.env)).all (fun x => !x.1) && (backToKw cpos (keywordEach [] X.env)).all (fun x => x.1.isSome)
      && decide (([b] : List Expr).length + ([] : List Keyword).length + (if ([] : List Keyword).isEmpty then 0 else 1) < 30)) = true := by rfl)
    (hline : (apos.endLine == cpos.line) = true := by rfl) (hs : starEach [b] X.env = (false, eval b X.env) :: starEach [] X.env := by rfl) (hplain : (backTo cpos (starEach [] X.env)).any (·.1) = false := by rfl) :
    JE X cm W (.Call (.Attribute a "append" apos) [b] [] cpos) (eM mAppend fa fl) := by
  refine r_m PySem.F.slot_list_append PySem.F.type_list_append mt_append (fun W p s σ H x xs d ds Q rs rx rxs q => ?_) ho ha hbase hfew hline hs hplain
  unfold mAppend at q
  split at q
  · rename_i n y
    obtain ⟨o, o', d', h1, h2, q⟩ := mutO_ok q
    split at h2
    · rename_i ds'
      split at h2
      · rename_i hlen
        cases h2
        obtain ⟨z, rfl, ry⟩ := one_rv rxs
        obtain ⟨t, vs, rfl, hp, hH, rr⟩ := lst_at rs rx h1
        have c : RC X.K cm p H t (.lst (ds' ++ [y])) (.lst (vs ++ [z])) := ⟨_, rfl, rr.append rxs⟩
        obtain ⟨f, rs'⟩ := rs.put hp hH trivial c
        exact ⟨t, vs, z, rfl, rfl, hH, by rw [← rr.length, sizeLine_eq]; exact hlen, q _ _ _ f rs' mk_non⟩
      · cases h2
    · cases h2
  · exact q.elim
theorem r_bitlen {apos : Pos} (ho : JE X cm W a fa) (hbase : attributeBase a "bit_length" X.env (eval a X.env) = eval a X.env := by rfl) (hline : (apos.endLine == pos.line) = true := by rfl) : JE X cm W (.Call (.Attribute a "bit_length" apos) [] [] pos) (e1 oBitLen fa) := by
  refine (pe_bits ho hbase hline).imp fun σ H Q q => ?_
  obtain ⟨p, e, s, re, rs, q⟩ := tD.bnd q
  refine ⟨p, e, s, re, rs, q.imp ?_⟩
  rintro x H1 ⟨p, e, s, d, re, rs, r1, q⟩
  unfold oBitLen at q
  split at q
  · exact ⟨_, rv_int r1, Po.ok q rs (mk_int _)⟩
  · exact q.elim
theorem isDict_ok {K : PySem.W.Frag} {p : List Addr} {s : S} {H : Hp} {d : D} {x : V} (rs : RS K cm p s H) (r : RV K p H d x) (e : isDict s d = true) : ∃ n a o, d = .ref n ∧ x = .ref a ∧ p[n]? = some a ∧ s[n]? = some o ∧ IsD H a := by
  unfold isDict at e
  split at e
  · rename_i n
    simp only [RV] at r
    obtain ⟨a, ha, rfl⟩ := r
    unfold rd at e
    cases h : s[n]? with
    | none => rw [h] at e; cases e
    | some o =>
      rw [h] at e
      obtain ⟨b, hb, q⟩ := rs.at h
      rw [ha] at hb; cases hb
      refine ⟨n, a, o, rfl, rfl, ha, h, ?_⟩
      cases o with
      | dK kvs => obtain ⟨u, h1, ws, rfl, _⟩ := q; exact .inl ⟨ws, .inl h1⟩
      | dT kvs => obtain ⟨u, h1, ws, rfl, _⟩ := q; exact .inr ⟨ws, .inl h1⟩
      | lck o' =>
        obtain ⟨od, u, h1, _, c⟩ := q
        cases o' with
        | dK kvs => obtain ⟨ws, rfl, _⟩ := c; exact .inl ⟨ws, .inr ⟨od, h1⟩⟩
        | dT kvs => obtain ⟨ws, rfl, _⟩ := c; exact .inr ⟨ws, .inr ⟨od, h1⟩⟩
        | _ => cases e
      | _ => cases e
  · cases e
theorem r_get2 {k : Nat} {apos cpos : Pos} (hr : Room k X.A) (ha : JE X cm W a fa) (hb : JE X cm W b fb) (hc : JE X cm W c fc) (m : M2 X a "get" apos b c cpos := by exact ⟨rfl, rfl, rfl, rfl⟩) : JE X cm W (.Call (.Attribute a "get" apos) [b, c] [] cpos) (eGet2 fa fb fc) := by
  refine (pe_dget2 (hu_of hr) ha hb hc m).imp fun σ H Q q => ?_
  obtain ⟨p, e, s, re, rs, q⟩ := q
  refine ⟨p, e, s, re, rs, (Po.bnd (rel1 := RV X.K) q).imp ?_⟩
  rintro x H1 ⟨d, p1, s1, f1, rs1, r1, q1⟩
  split at q1
  · rename_i h
    obtain ⟨n, t, o, hd, rfl, h1, h2, h3⟩ := isDict_ok rs1 r1 h
    subst hd
    refine ⟨t, rfl, h3, p1, e, s1, re.mono f1, rs1, (Po.bnd (rel1 := RV X.K) q1).imp ?_⟩
    rintro y H2 ⟨d2, p2, s2, f2, rs2, r2, q2⟩
    refine ⟨p2, e, s2, (re.mono f1).mono f2, rs2, (Po.bnd (rel1 := RV X.K) q2).imp ?_⟩
    rintro z H3 ⟨d3, p3, s3, f3, rs3, r3, q3⟩
    cases h4 : dgetAt s3 (.ref n) d2 with
    | none => rw [h4] at q3; exact q3.elim
    | some r =>
      rw [h4] at q3
      unfold dgetAt rd at h4
      obtain ⟨o3, h5, h6⟩ := Option.bind_eq_some_iff.mp h4
      obtain ⟨o4, h7, rfl⟩ := Option.map_eq_some_iff.mp h5
      obtain ⟨t', et, h⟩ := dget_ok rs3 ((r1.mono f2).mono f3) h7 (r2.mono f3) h6
      cases et
      rcases h with ⟨d', v, rfl, g, rv⟩ | ⟨rfl, g⟩
      · exact ⟨_, g, Po.ok q3 rs3 rv⟩
      · exact ⟨_, g, Po.ok q3 rs3 r3⟩
  · exact q1.elim
end
end Fc
namespace L2
open PySem
theorem PG.imp {X : Cx} {x : Expr} {t t' : TG} (h : PG X x t) (k : ∀ v σ H Q, t' v σ H Q → t v σ H Q) : PG X x t' := ⟨fun pins s σ H v u Q I r q => h.run pins s σ H v u Q I r (k v σ H Q q)⟩
theorem PG.or {X : Cx} {x : Expr} {t t' : TG} (h : PG X x t) (h' : PG X x t') : PG X x (fun v σ H Q => t v σ H Q ∨ t' v σ H Q) := ⟨fun pins s σ H v u Q I r q => q.elim (h.run pins s σ H v u Q I r) (h'.run pins s σ H v u Q I r)⟩
theorem PGs.imp {X : Cx} {x : List Expr} {t t' : TGs} (h : PGs X x t) (k : ∀ v σ H Q, t' v σ H Q → t v σ H Q) : PGs X x t' := ⟨fun pins s σ H v u Q I r q => h.run pins s σ H v u Q I r (k v σ H Q q)⟩
theorem PS.imp {X : Cx} {x : Stmt} {t t' : TS} (h : PS X x t) (k : ∀ D σ H, t' D σ H → t D σ H) : PS X x t' := ⟨fun pins s σ H D I q => h.run pins s σ H D I (k D σ H q)⟩
theorem PSs.imp {X : Cx} {x : List Stmt} {t t' : TS} (h : PSs X x t) (k : ∀ D σ H, t' D σ H → t D σ H) : PSs X x t' := ⟨fun pins s σ H D I q => h.run pins s σ H D I (k D σ H q)⟩
theorem PSet.or {X : Cx} {t t' : TSet} (h : PSet X t) (h' : PSet X t') : PSet X (fun o i v H Q => t o i v H Q ∨ t' o i v H Q) := fun pins s σ H o i v ov iv u Q I ro ri rv q => q.elim (h pins s σ H o i v ov iv u Q I ro ri rv) (h' pins s σ H o i v ov iv u Q I ro ri rv)
theorem PI.or {X : Cx} {tg e : Expr} {t t' : TI} (h : PI X tg e t) (h' : PI X tg e t') : PI X tg e (fun σ H R => t σ H R ∨ t' σ H R) := ⟨fun pins s σ H R I q => q.elim (h.run pins s σ H R I) (h'.run pins s σ H R I)⟩
end L2
namespace Fc
open PySem PySem.Spec PyProof.Rows L2
variable {K : PySem.W.Frag} {cm : CM} {W : WX}
section
variable (K : PySem.W.Frag) (cm : CM)
/-- a target that sets the slots vs alone -/
def tG (g : G) (vs : List Nat) : TG := fun v σ H Q => ∃ p e s d e', RE K p H e σ ∧ RS K cm p s H ∧ RV K p H d v ∧ g d e s = some e' ∧ ∀ σ', RE K p H e' σ' → (∀ i, i ∉ vs → σ'[i]? = σ[i]?) → Q σ' H
def tGs (g : GL) (vs : List Nat) : TGs := fun v σ H Q => ∃ p e s d e', RE K p H e σ ∧ RS K cm p s H ∧ RVs K p H d v ∧ g d e s = some e' ∧ ∀ σ', RE K p H e' σ' → (∀ i, i ∉ vs → σ'[i]? = σ[i]?) → Q σ' H
end
abbrev JG (X : Cx) (cm : CM) (x : Expr) (g : G) (vs : List Nat) : Prop := PG X x (tG X.K cm g vs)
abbrev JGs (X : Cx) (cm : CM) (x : List Expr) (g : GL) (vs : List Nat) : Prop := PGs X x (tGs X.K cm g vs)
theorem RE.set {p : List Addr} {H : Hp} {e : Env} {σ : L2.St} (re : RE K p H e σ) (i : Nat) {d : D} {v : V} (r : RV K p H d v) : RE K p H (e.set i (some d)) (σ.set i (some v)) := by
  refine ⟨by simp [re.1], fun j d' h => ?_⟩
  rw [List.getElem?_set] at h ⊢
  by_cases hij : i = j
  · rw [if_pos hij] at h ⊢
    split at h
    · rename_i hl
      rw [if_pos (by rw [← re.1]; exact hl)]
      cases h
      exact ⟨v, rfl, r⟩
    · cases h
  · rw [if_neg hij] at h ⊢
    exact re.2 j d' h
theorem RE.unset {p : List Addr} {H : Hp} {e : Env} {σ : L2.St} (re : RE K p H e σ) (i : Nat) : RE K p H (e.set i none) (σ.set i none) := by
  refine ⟨by simp [re.1], fun j d' h => ?_⟩
  rw [List.getElem?_set] at h ⊢
  by_cases hij : i = j
  · rw [if_pos hij] at h
    split at h <;> cases h
  · rw [if_neg hij] at h ⊢
    exact re.2 j d' h
section
variable {X : Cx} {es : List Expr} {a b : Expr} {pos : Pos}
theorem g_name (i : Nat) {x : Str} (hN : X.N.Nodup) (hi : X.N[i]? = some x := by rfl) (hx : Loc X.env.scope x := by first | exact Or.inl rfl | exact Or.inr rfl) (hf : X.fn x = true ∨ X.env.scope.names.lookup x = some .local := by first | exact .inl rfl | exact .inr rfl) : JG X cm (.Name x pos) (gName i) [i] := by
  refine (pg_name hN hi hx hf).imp ?_
  rintro v σ H Q ⟨p, e, s, d, e', re, rs, rv, h, q⟩
  cases h
  refine q _ (re.set i rv) fun j hj => ?_
  rw [List.getElem?_set_ne (fun e => hj (by simp [e]))]
theorem g_nil : JGs X cm [] gNil [] := by
  refine pgs_nil.imp ?_
  rintro v σ H Q ⟨p, e, s, d, e', re, rs, rv, h, q⟩
  unfold gNil at h
  split at h
  · cases h
    simp only [RVs] at rv
    exact ⟨rv, q σ re fun _ _ => rfl⟩
  · cases h
theorem g_cons {g : G} {r : GL} {vs ws : List Nat} (h1 : JG X cm a g vs) (h2 : JGs X cm es r ws) (hs : (assignEach (a :: es) X.env).map (·.2) = assign a X.env :: (assignEach es X.env).map (·.2) := by rfl) : JGs X cm (a :: es) (gCons g r) (vs ++ ws) := by
  refine (pgs_cons h1 h2 hs).imp ?_
  rintro v σ H Q ⟨p, e, s, d, e', re, rs, rv, h, q⟩
  unfold gCons at h
  split at h
  · rename_i d ds
    obtain ⟨e1, h3, h4⟩ := Option.bind_eq_some_iff.mp h
    simp only [RVs] at rv
    obtain ⟨v, r', rfl, r1, r2⟩ := rv
    refine ⟨v, r', rfl, p, e, s, d, e1, re, rs, r1, h3, fun σ1 re1 k1 => ⟨p, e1, s, ds, e', re1, rs, r2, h4, fun σ2 re2 k2 => q σ2 re2 fun i hi => ?_⟩⟩
    simp only [List.mem_append, not_or] at hi
    rw [k2 i hi.2, k1 i hi.1]
  · cases h
theorem g_tup {k : Nat} {r : GL} {vs : List Nat} {n : Nat} (hc : X.calm = true) (h : JGs X cm es r vs) (hn : (assignEach es X.env).length = n := by rfl) (hst : (assignEach es X.env).findIdx? (·.1) = none := by rfl) : JG X cm (.Tuple es k pos) (gTup n r) vs := by
  refine (PG.or (pg_tup hc h hn hst) (pg_lst hc h hn hst)).imp ?_
  rintro v σ H Q ⟨p, e, s, d, e', re, rs, rv, h, q⟩
  unfold gTup at h
  split at h
  · rename_i ds
    split at h
    · rename_i hl
      obtain ⟨a, xs, rfl, h1, rr⟩ := rv_tup rv
      exact .inl ⟨a, xs, rfl, SqT.of h1, by rw [← rr.length]; exact hl, p, e, s, ds, e', re, rs, rr, h, q⟩
    · cases h
  · rename_i n'
    split at h
    · rename_i ds hs
      split at h
      · rename_i hl
        obtain ⟨a, xs, rfl, _, h1, rr⟩ := lst_at rs rv hs
        exact .inr ⟨a, xs, rfl, SqL.of h1, by rw [← rr.length]; exact hl, p, e, s, ds, e', re, rs, rr, h, q⟩
      · cases h
    · cases h
  · cases h
end
variable (K cm W) in
/-- what a statement's result must give -/
def PoS (p : List Addr) (H : Hp) (r : Option R) (Dn : Ends) : Prop := match r with
  | none => False
  | some (.nx e s) => ∀ p' H' σ', Fut p H p' H' → RS K cm p' s H' → RE K p' H' e σ' → Dn.nx σ' H'
  | some (.rt d s) => ∀ p' H' v, Fut p H p' H' → RS K cm p' s H' → RV K p' H' d v → Dn.rt v H'
  | some (.bk e s) => ∀ p' H' σ', Fut p H p' H' → RS K cm p' s H' → RE K p' H' e σ' → Dn.bk σ' H'
  | some (.ct e s) => ∀ p' H' σ', Fut p H p' H' → RS K cm p' s H' → RE K p' H' e σ' → Dn.ct σ' H'
  | some (.xc c fs e s) => ∀ p' H' σ' cls dd, Fut p H p' H' → RS K cm p' s H' → RE K p' H' e σ' → RX K cm p' H' c fs cls dd → W cls dd σ' H'
variable (K cm W) in
def tS (f : C) : TS := fun Dn σ H => ∃ p e s, RE K p H e σ ∧ RS K cm p s H ∧ PoS K cm W p H (f e s) Dn
abbrev JS (X : Cx) (cm : CM) (W : WX) (x : Stmt) (f : C) : Prop := PS X x (tS X.K cm W f)
abbrev JSs (X : Cx) (cm : CM) (W : WX) (x : List Stmt) (f : C) : Prop := PSs X x (tS X.K cm W f)
theorem PoS.fut {p p' : List Addr} {H H' : Hp} {r : Option R} {Dn : Ends} (h : PoS K cm W p H r Dn) (f : Fut p H p' H') : PoS K cm W p' H' r Dn := by
  match r, h with
  | some (.nx _ _), h => exact fun p2 H2 v f2 => h p2 H2 v (f.trans f2)
  | some (.rt _ _), h => exact fun p2 H2 v f2 => h p2 H2 v (f.trans f2)
  | some (.bk _ _), h => exact fun p2 H2 v f2 => h p2 H2 v (f.trans f2)
  | some (.ct _ _), h => exact fun p2 H2 v f2 => h p2 H2 v (f.trans f2)
  | some (.xc _ _ _ _), h => exact fun p2 H2 σ' cls dd f2 => h p2 H2 σ' cls dd (f.trans f2)
/-- an expression ahead -/
theorem PoS.ex {α β : Type} {rel : List Addr → Hp → α → β → Prop} {p : List Addr} {H : Hp} {σ : L2.St} {e : Env} {r : Option (Res α)} {k : α → S → Option R} {Dn : Ends} (h : PoS K cm W p H (ex e r k) Dn) (re : RE K p H e σ) :
    Po K cm W rel p σ H r fun x H1 => ∃ y p1 s1, Fut p H p1 H1 ∧ RS K cm p1 s1 H1 ∧ rel p1 H1 y x ∧ PoS K cm W p1 H1 (k y s1) Dn := by
  unfold Fc.ex at h
  split at h
  · exact h
  · exact fun p1 H1 v f rs r1 => ⟨_, p1, _, f, rs, r1, PoS.fut h f⟩
  · exact fun p1 H1 cls dd f rs rx => h p1 H1 σ cls dd f rs (re.mono f) rx
section
variable {X : Cx} {st : Stmt} {rest sts : List Stmt} {a b c : Expr} {fa fb fc : E} {ft : T} {f g : C} {pos : Pos}
theorem r_snil : JSs X cm W [] cNil := by
  refine pss_nil.imp ?_
  rintro D σ H ⟨p, e, s, re, rs, q⟩
  exact q p H σ Fut.refl rs re
theorem r_sone (h : JS X cm W st f) : JSs X cm W [st] f := pss_one h
theorem PoS.seq {p : List Addr} {H : Hp} {e : Env} {s : S} {Dn : Ends} (h : PoS K cm W p H (cSeq f g e s) Dn) : PoS K cm W p H (f e s) { Dn with nx := tS K cm W g Dn } := by
  unfold cSeq at h
  split at h
  · rename_i e' s' hf
    rw [hf]
    exact fun p' H' σ' fu rs re => ⟨p', e', s', re, rs, PoS.fut h fu⟩
  · rename_i r hr
    cases hf : f e s with
    | none => rw [hf] at h; exact h
    | some r =>
      rw [hf] at h
      cases r with
      | nx e' s' => exact absurd hf (hr e' s')
      | _ => exact h
theorem r_scons (h1 : JS X cm W st f) (h2 : JSs X cm W rest g) : JSs X cm W (st :: rest) (cSeq f g) := by
  refine (pss_cons h1 h2).imp ?_
  rintro D σ H ⟨p, e, s, re, rs, q⟩
  exact ⟨p, e, s, re, rs, q.seq⟩
theorem r_expr (ha : JE X cm W a fa) (hs : swapsWith a none pos.line X.env = pure false := by rfl) : JS X cm W (.Expr a pos) (cExpr fa) := by
  refine (ps_expr ha hs).imp ?_
  rintro D σ H ⟨p, e, s, re, rs, q⟩
  refine ⟨p, e, s, re, rs, (PoS.ex (rel := RV X.K) q re).imp ?_⟩
  rintro x H1 ⟨y, p1, s1, f, rs1, r1, q⟩
  exact q p1 H1 σ Fut.refl rs1 (re.mono f)
theorem r_ret (ha : JE X cm W a fa) : JS X cm W (.Return (some a) pos) (cRet fa) := by
  refine (ps_ret ha).imp ?_
  rintro D σ H ⟨p, e, s, re, rs, q⟩
  refine ⟨p, e, s, re, rs, (PoS.ex (rel := RV X.K) q re).imp ?_⟩
  rintro x H1 ⟨y, p1, s1, f, rs1, r1, q⟩
  exact q p1 H1 x Fut.refl rs1 r1
theorem r_ifs (ht : JT X cm W c ft) (h1 : JSs X cm W sts f) (h2 : JSs X cm W rest g) : JS X cm W (.If c sts rest pos) (cIf ft f g) := by
  refine (ps_if ht h1 h2).imp ?_
  rintro D σ H ⟨p, e, s, re, rs, q⟩
  refine ⟨p, e, s, re, rs, (PoS.ex (rel := rB) q re).imp ?_⟩
  rintro x H1 ⟨y, p1, s1, f, rs1, r1, q⟩
  obtain rfl : y = x := r1
  cases y with
  | true => exact iteT ⟨p1, e, s1, re.mono f, rs1, q⟩
  | false => exact iteF ⟨p1, e, s1, re.mono f, rs1, q⟩
theorem PoS.set {p : List Addr} {H : Hp} {e : Env} {σ : L2.St} {g : G} {s : S} {Dn : Ends} {vs : List Nat} (h : PoS K cm W p H (cSet fa g e s) Dn) (re : RE K p H e σ) :
    Po K cm W (RV K) p σ H (fa e s) fun x H1 => tG K cm g vs x σ H1 Dn.nx := by
  refine (PoS.ex (rel := RV K) h re).imp ?_
  rintro x H1 ⟨y, p1, s1, f, rs1, r1, q⟩
  cases hg : g y e s1 with
  | none => rw [hg] at q; exact q.elim
  | some e' =>
    rw [hg] at q
    exact ⟨p1, e, s1, y, e', re.mono f, rs1, r1, hg, fun σ' re' _ => q p1 H1 σ' Fut.refl rs1 re'⟩
theorem tG_name {p : List Addr} {H : Hp} {e : Env} {s : S} {σ : L2.St} {Q : L2.St → Hp → Prop} {i : Nat} {x : V} (h : tG K cm (gName i) [i] x σ H Q) : L2.gName i x σ H Q := by
  obtain ⟨p, e, s, d, e', re, rs, rv, h, q⟩ := h
  cases h
  refine q _ (re.set i rv) fun j hj => ?_
  rw [List.getElem?_set_ne (fun e => hj (by simp [e]))]
theorem r_set (i : Nat) {x : Str} {pos' : Pos} (hN : X.N.Nodup) (ha : JE X cm W a fa) (hi : X.N[i]? = some x := by rfl) (hx : Loc X.env.scope x := by first | exact Or.inl rfl | exact Or.inr rfl) (hs : swapsWith a (some (.Name x pos')) pos.line X.env = pure false := by rfl)
    (hf : X.fn x = true ∨ X.env.scope.names.lookup x = some .local := by first | exact .inl rfl | exact .inr rfl) : JS X cm W (.Assign [.Name x pos'] a pos) (cSet fa (gName i)) := by
  refine (ps_set hN hi hx ha hs hf).imp ?_
  rintro D σ H ⟨p, e, s, re, rs, q⟩
  exact ⟨p, e, s, re, rs, (PoS.set q re (vs := [i])).imp fun x H1 h => tG_name (p := p) (e := e) (s := s) h⟩
theorem r_par (i j : Nat) {x y : Str} {fl : EL} {px py pt : Pos} {kt k2 : Nat} {pt2 : Pos} (hc : X.calm = true) (hN : X.N.Nodup) (ha : JA X cm W [a, b] fl) (hi : X.N[i]? = some x := by rfl) (hj : X.N[j]? = some y := by rfl) (hij : i ≠ j := by decide)
    (hx : X.env.scope.names.lookup x = some .local := by rfl) (hy : X.env.scope.names.lookup y = some .local := by rfl)
    (hw : swappedStores [.Tuple [.Name x px, .Name y py] kt pt] (.Tuple [a, b] k2 pt2) X.env = pure (some [x, y]) := by rfl)
    (hs : swapsWithSole [.Tuple [.Name x px, .Name y py] kt pt] (.Tuple [a, b] k2 pt2) pos.line X.env = pure false := by rfl) :
    JS X cm W (.Assign [.Tuple [.Name x px, .Name y py] kt pt] (.Tuple [a, b] k2 pt2) pos) (cPar i j fl) := by
  refine (ps_par hc hN hi hj hij hx hy ha hw hs).imp ?_
  rintro D σ H ⟨p, e, s, re, rs, q⟩
  refine ⟨p, e, s, re, rs, (PoS.ex (rel := RVs X.K) q re).imp ?_⟩
  rintro xs H1 ⟨ds, p1, s1, f, rs1, r1, q⟩
  split at q
  · obtain ⟨u, v, rfl, ru, rv⟩ := two_rv r1
    exact ⟨u, v, rfl, q p1 H1 _ Fut.refl rs1 (((re.mono f).set i ru).set j rv)⟩
  · exact q.elim
theorem set_dict (hu : X.A.units + 1 < cLine) : PSet X (fun o i v H Q => ∃ a H4, o = .ref a ∧ DPut H a i v H4 ∧ Q H4) := by
  intro pins s σ H o i v ov iv u Q I ro ri rv h
  obtain ⟨a, H4, rfl, g, q⟩ := h
  cases (show ov = Value.ref a from ro)
  exact d_setItem hu I g ri rv fun s4 I4 => ⟨H4, I4, q⟩
theorem RKs.putK {κ : Type} [DecidableEq κ] {p : List Addr} {H : Hp} (k : κ) {d : D} {v : V} (rv : RV K p H d v) {ds : List (κ × D)} {vs : List (κ × V)} (r : RKs K p H ds vs) : RKs K p H (kput ds k d) (L2.putK vs k v) := by
  have hany : ∀ {ds : List (κ × D)} {vs : List (κ × V)}, RKs K p H ds vs → (ds.any fun kv => decide (kv.1 = k)) = vs.any fun kv => decide (kv.1 = k) := by
    intro ds
    induction ds with
    | nil => intro vs r; simp only [RKs] at r; rw [r]; rfl
    | cons x ds ih =>
      intro vs r
      simp only [RKs] at r
      obtain ⟨w, r', rfl, r1, r2⟩ := r
      simp only [List.any_cons, ih r2]
  have hmap : ∀ {ds : List (κ × D)} {vs : List (κ × V)}, RKs K p H ds vs → RKs K p H (ds.map fun kv => if kv.1 = k then (kv.1, d) else kv) (vs.map fun kv => if kv.1 = k then (kv.1, v) else kv) := by
    intro ds
    induction ds with
    | nil => intro vs r; simp only [RKs] at r; rw [r]; simp [RKs]
    | cons x ds ih =>
      intro vs r
      simp only [RKs] at r
      obtain ⟨w, r', rfl, r1, r2⟩ := r
      simp only [List.map_cons]
      by_cases hk : x.1 = k
      · rw [if_pos hk, if_pos hk]
        simp only [RKs]
        exact ⟨v, _, rfl, rv, ih r2⟩
      · rw [if_neg hk, if_neg hk]
        simp only [RKs]
        exact ⟨w, _, rfl, r1, ih r2⟩
  have happ : ∀ {ds : List (κ × D)} {vs : List (κ × V)}, RKs K p H ds vs → RKs K p H (ds ++ [(k, d)]) (vs ++ [(k, v)]) := by
    intro ds
    induction ds with
    | nil => intro vs r; simp only [RKs] at r; rw [r]; simp only [List.nil_append, RKs]; exact ⟨v, [], rfl, rv, rfl⟩
    | cons x ds ih =>
      intro vs r
      simp only [RKs] at r
      obtain ⟨w, r', rfl, r1, r2⟩ := r
      simp only [List.cons_append, RKs]
      exact ⟨w, _, rfl, r1, ih r2⟩
  unfold kput L2.putK
  rw [hany r]
  split
  · exact hmap r
  · exact happ r
theorem dput_ok {p : List Addr} {s : S} {H : Hp} {n : Nat} {a : Addr} {o o' : O} {k d : D} {y v : V} (rs : RS K cm p s H) (ha : p[n]? = some a) (h : s[n]? = some o) (rk : RV K p H k y) (rv : RV K p H d v) (e : dput o k d = some o') :
    ∃ u, DPut H a y v (upd H a u) ∧ Fut p H p (upd H a u) ∧ RS K cm p (s.set n o') (upd H a u) := by
  obtain ⟨b, hb, q⟩ := rs.at h
  rw [ha] at hb; cases hb
  unfold dput at e
  split at e
  · rename_i kvs
    split at e
    · rename_i hl
      obtain ⟨k', e1, rfl⟩ := Option.map_eq_some_iff.mp e
      obtain ⟨u, hu, ws, rfl, c⟩ := q
      have ek := key_ok e1 rk
      subst ek
      obtain ⟨f, rs'⟩ := rs.put (o := .dK (kput kvs k' d)) (u := .dK (L2.putK ws k' v)) ha hu trivial ⟨_, rfl, c.putK k' rv⟩
      exact ⟨_, DPut.k hu (by rw [← c.length, sizeLine_eq]; exact hl), f, rs'⟩
    · cases e
  · rename_i kvs
    split at e
    · rename_i hl
      split at e
      · rename_i ds
        obtain ⟨k', e1, rfl⟩ := Option.map_eq_some_iff.mp e
        obtain ⟨u, hu, ws, rfl, c⟩ := q
        obtain ⟨t, vs, rfl, ht, rr⟩ := rv_tup rk
        have ek := keys_ok e1 rr
        subst ek
        obtain ⟨f, rs'⟩ := rs.put (o := .dT (kput kvs k' d)) (u := .dT (L2.putK ws k' v)) ha hu trivial ⟨_, rfl, c.putK k' rv⟩
        exact ⟨_, DPut.t hu ht (by rw [← c.length, sizeLine_eq]; exact hl), f, rs'⟩
      · cases e
    · cases e
  · cases e
theorem r_sub {k : Nat} {pos' : Pos} (hr : Room k X.A) (hb : JE X cm W b fb) (hc : JE X cm W c fc) (ha : JE X cm W a fa)
    (hsub : ∀ v, assign (.Subscript b c pos') X.env v = (do
      let ov ← holding [v] (eval b X.env)
      let iv ← holding [v, ov] (eval c X.env)
      standAt pos'
      holding [v, ov, iv] (setItem ov iv v)
      release [v, ov, iv] []) := by intro _; rfl)
    (hs : swapsWithSole [.Subscript b c pos'] a pos.line X.env = pure false := by rfl) (hw : swappedStores [.Subscript b c pos'] a X.env = pure none := by rfl)
    (h1 : (assignEach [.Subscript b c pos'] X.env).map (·.2) = [assign (.Subscript b c pos') X.env] := by rfl) : JS X cm W (.Assign [.Subscript b c pos'] a pos) (cSub fb fc fa) := by
  refine (ps_asg ha (pg_sub hb hc (set_list.or (set_dict (hu_of hr))) hsub) hs hw h1).imp ?_
  rintro D σ H ⟨p, e, s, re, rs, q⟩
  refine ⟨p, e, s, re, rs, (PoS.ex (rel := RV X.K) q re).imp ?_⟩
  rintro v H1 ⟨d1, p1, s1, f1, rs1, r1, q1⟩
  refine ⟨p1, e, s1, re.mono f1, rs1, (PoS.ex (rel := RV X.K) q1 (re.mono f1)).imp ?_⟩
  rintro o H2 ⟨d2, p2, s2, f2, rs2, r2, q2⟩
  refine ⟨p2, e, s2, (re.mono f1).mono f2, rs2, (PoS.ex (rel := RV X.K) q2 ((re.mono f1).mono f2)).imp ?_⟩
  rintro i H3 ⟨d3, p3, s3, f3, rs3, r3, q3⟩
  have re3 := ((re.mono f1).mono f2).mono f3
  have r1' := (r1.mono f2).mono f3
  have r2' := r2.mono f3
  split at q3
  · rename_i n
    split at q3
    · rename_i ds h
      split at q3
      · rename_i kk
        obtain ⟨t, vs, rfl, hp, hH, rr⟩ := lst_at rs3 r2' h
        cases hj : ixN ds.length kk with
        | none => rw [hj] at q3; exact q3.elim
        | some j =>
          rw [hj] at q3
          obtain ⟨f, rs'⟩ := rs3.put (o := .lst (ds.set j d1)) (u := .lst (vs.set j v)) hp hH trivial ⟨_, rfl, rr.set j r1'⟩
          exact .inl ⟨t, vs, kk, j, rfl, rv_int r3, hH, by rw [← rr.length]; exact hj, q3 p3 _ σ f rs' (re3.mono f)⟩
      · exact q3.elim
    · rename_i o' h0 h
      cases hd : dput o' d3 d1 with
      | none => rw [hd] at q3; exact q3.elim
      | some o2 =>
        rw [hd] at q3
        simp only [RV] at r2'
        obtain ⟨t, ht, rfl⟩ := r2'
        obtain ⟨u, g, f, rs'⟩ := dput_ok rs3 ht h r3 r1' hd
        exact .inr ⟨t, _, rfl, g, q3 p3 _ σ f rs' (re3.mono f)⟩
    · exact q3.elim
  · exact q3.elim
end
end Fc
namespace Fc
open PySem PySem.Spec PyProof.Rows L2
variable {K : PySem.W.Frag} {cm : CM} {W : WX}
def NF (X : Cx) (d : Addr) : Prop := ∀ o' u', X.H_0 d ≠ some (.frz o' u')
def Ul (X : Cx) (P : Hp → Prop) (H' : Hp) : Prop := P H' ∨ ∃ d od u, H' d = some (.frz od u) ∧ NF X d ∧ P (upd H' d u)
section
variable {X : Cx} {e : Expr} {te : TE} {st : Stmt} {t : TS}
theorem pe_glock (h : PE X e te) : PE X e (fun σ H Q => te σ H fun x H1 => Q x H1 ∨ ∃ d u, H1 d = some u ∧ Mut (some u) ∧ ∀ od, NF X d → Q x (upd H1 d (.frz od u))) := by
  refine ⟨fun pins s σ H Q I q => thn (h.run pins s σ H _ I q) ?_⟩
  rintro v s1 ⟨x, H1, I1, r, q | ⟨d, u, h1, mu, q⟩⟩
  · exact ⟨x, H1, I1, r, q⟩
  · obtain ⟨od, I2⟩ := I1.lock h1 mu
    exact ⟨x, _, I2, r, q od (I1.nofrz h1 mu)⟩
theorem ul_out {pins : List (Addr × Obj)} {σ : L2.St} {H : Hp} {s : Shared} {P : Hp → Prop} (I : Inv X pins σ H s) (h : Ul X P H) : ∃ H', Inv X pins σ H' s ∧ P H' := by
  rcases h with h | ⟨d, od, u, h1, nf, h⟩
  · exact ⟨H, I, h⟩
  · exact ⟨_, I.unlock h1 nf, h⟩
theorem pe_gunlock (h : PE X e te) : PE X e (fun σ H Q => te σ H fun x H1 => Ul X (Q x) H1) := by
  refine ⟨fun pins s σ H Q I q => thn (h.run pins s σ H _ I q) ?_⟩
  rintro v s1 ⟨x, H1, I1, r, q⟩
  obtain ⟨H2, I2, q⟩ := ul_out I1 q
  exact ⟨x, H2, I2, r, q⟩
def ulE (X : Cx) (D : Ends) : Ends := ⟨fun σ => Ul X (D.nx σ), fun v => Ul X (D.rt v), fun σ => Ul X (D.bk σ), fun σ => Ul X (D.ct σ)⟩
theorem ps_gunlock (h : PS X st t) : PS X st (fun D σ H => t (ulE X D) σ H) := by
  refine ⟨fun pins s σ H D I q => thn (h.run pins s σ H _ I q) ?_⟩
  intro f s1 q
  cases f with
  | next =>
    obtain ⟨σ', H1, I1, q⟩ := q
    obtain ⟨H2, I2, q⟩ := ul_out I1 q
    exact ⟨σ', H2, I2, q⟩
  | brk =>
    obtain ⟨σ', H1, I1, q⟩ := q
    obtain ⟨H2, I2, q⟩ := ul_out I1 q
    exact ⟨σ', H2, I2, q⟩
  | cont =>
    obtain ⟨σ', H1, I1, q⟩ := q
    obtain ⟨H2, I2, q⟩ := ul_out I1 q
    exact ⟨σ', H2, I2, q⟩
  | ret u =>
    obtain ⟨v, σ', H1, I1, r, q⟩ := q
    obtain ⟨H2, I2, q⟩ := ul_out I1 q
    exact ⟨v, σ', H2, I2, r, q⟩
end
structure WalkD (K : PySem.W.Frag) (cm : CM) (J : It) (ds : List D) (G : List Addr → Hp → Prop) : Prop where
  go : ∀ p H i, G p H → i < ds.length → J.go i H
  st : ∀ p H, G p H → J.stop ds.length H
  yl : ∀ p H s i x H', G p H → RS K cm p s H → i < ds.length → J.yld i H x H' → ∃ d, ds[i]? = some d ∧ Fut p H p H' ∧ RS K cm p s H' ∧ RV K p H' d x
  fu : ∀ p H p' H', G p H → Fut p H p' H' → G p' H'
/-- what a walk of this source must give -/
def Drv (X : Cx) (cm : CM) (sk : SK) (p : List Addr) (H : Hp) (s : S) (R : It → Hp → Prop) : Prop := match sk with
  | .vals ds => ∀ J G, WalkD X.K cm J ds G → G p H → R J H
  | .list n k => (∃ ds, s[n]? = some (.lst ds) ∧ ds.length = k) → ∀ a, p[n]? = some a → R (Itl X.K a) H
  | .dict n ds => match s[n]? with
    | some (.lck o) => ∀ J G, WalkD X.K cm J ds G → G p H → R J H
    | some o => ∀ a u od J G, p[n]? = some a → H a = some u → Mut (some u) → RC X.K cm p H a o u → NF X a → (∀ ys, u ≠ .lst ys) → WalkD X.K cm J ds G → G p (upd H a (.frz od u)) → R J (upd H a (.frz od u))
    | none => False
def PoI (X : Cx) (cm : CM) (W : WX) (p : List Addr) (σ : L2.St) (H : Hp) (r : Option (Res SK)) (R : It → Hp → Prop) : Prop := match r with
  | none => False
  | some (.ok sk s1) => ∀ p1 H1, Fut p H p1 H1 → RS X.K cm p1 s1 H1 → Drv X cm sk p1 H1 s1 R
  | some (.exc c fs s') => ∀ p' H' cls dd, Fut p H p' H' → RS X.K cm p' s' H' → RX X.K cm p' H' c fs cls dd → W cls dd σ H'
def JI (X : Cx) (cm : CM) (W : WX) (tg iter : Expr) (src : SrcE) : Prop := ∃ wi : TI, PI X tg iter wi ∧ ∀ p e s σ H R, RE X.K p H e σ → RS X.K cm p s H → PoI X cm W p σ H (src e s) R → wi σ H R
section
variable {X : Cx} {tg a b : Expr} {fa fb : E} {pos : Pos}
theorem walk_tupD {a : Addr} {vs : List V} {ds : List D} : WalkD K cm (Itt K a) ds (fun p H => H a = some (.tup vs) ∧ RVs K p H ds vs) where
  go := fun p H i ⟨h, r⟩ hi => ⟨vs, vs[i]'(by rw [← r.length]; exact hi), SqT.of h, by simp [← r.length, hi]⟩
  st := fun p H ⟨h, r⟩ => ⟨vs, SqT.of h, by rw [← r.length]; exact Nat.le_refl _⟩
  yl := fun p H s i x H' ⟨h, r⟩ rs hi ⟨e, y⟩ => by
    subst e
    have e1 : ds[i]? = some ds[i] := by simp [hi]
    obtain ⟨v, h1, h2⟩ := r.get e1
    have := y vs (SqT.of h)
    rw [h1] at this; cases this
    exact ⟨ds[i], e1, Fut.refl, rs, h2⟩
  fu := fun p H p' H' ⟨h, r⟩ f => ⟨f.tup _ _ h, r.mono f⟩
theorem walk_stuD {a : Addr} {vs : List V} {ds : List D} : WalkD K cm (Itt K a) ds (fun p H => StT K a vs ∧ RVs K p H ds vs) where
  go := fun p H i ⟨h, r⟩ hi => ⟨vs, vs[i]'(by rw [← r.length]; exact hi), h.sq, by simp [← r.length, hi]⟩
  st := fun p H ⟨h, r⟩ => ⟨vs, h.sq, by rw [← r.length]; exact Nat.le_refl _⟩
  yl := fun p H s i x H' ⟨h, r⟩ rs hi ⟨e, y⟩ => by
    subst e
    have e1 : ds[i]? = some ds[i] := by simp [hi]
    obtain ⟨v, h1, h2⟩ := r.get e1
    have := y vs h.sq
    rw [h1] at this; cases this
    exact ⟨ds[i], e1, Fut.refl, rs, h2⟩
  fu := fun p H p' H' ⟨h, r⟩ f => ⟨h, r.mono f⟩
theorem walk_strD {z : Str} : WalkD K cm (Its z) (signs z) (fun _ _ => True) where
  go := fun p H i _ hi => by
    have h := hi
    simp [signs] at h
    exact h
  st := fun p H _ => by simp [signs, Its]
  yl := fun p H s i x H' _ rs hi ⟨e, c, hc, y⟩ => by
    subst e
    refine ⟨.str ⟨#[c]⟩, ?_, Fut.refl, rs, by rw [y]; exact mk_str _⟩
    unfold signs
    rw [List.getElem?_map, Array.getElem?_toList, hc]
    rfl
  fu := fun _ _ _ _ _ _ => True.intro
theorem walk_rangeD {i j : Int} : WalkD K cm (Itr i (j - i).toNat) (rangeL i j) (fun _ _ => True) where
  go := fun p H k _ hk => by
    have h := hk
    simp only [rangeL, List.length_map, List.length_range] at h
    exact h
  st := fun p H _ => by
    show _ ≤ _
    simp only [rangeL, List.length_map, List.length_range]
    omega
  yl := fun p H s k x H' _ rs hk ⟨e, y⟩ => by
    subst e
    refine ⟨.int (i + (k : Int)), ?_, Fut.refl, rs, by rw [y]; exact mk_int _⟩
    have hk' : k < (j - i).toNat := by simpa [rangeL] using hk
    unfold rangeL
    rw [List.getElem?_map, List.getElem?_range hk']
    rfl
  fu := fun _ _ _ _ _ _ => True.intro
theorem rv_dOf {p : List Addr} {H : Hp} (k : Key) : RV K p H (dOf k) (kV k) := by
  cases k with
  | inl i => exact mk_int i
  | inr x => exact mk_str x
theorem RKs.at {κ : Type} {p : List Addr} {H : Hp} : ∀ {ds : List (κ × D)} {vs : List (κ × V)} {i : Nat} {k : κ} {v : V}, RKs K p H ds vs → vs[i]? = some (k, v) → ∃ d, ds[i]? = some (k, d) ∧ RV K p H d v
  | [], vs, i, k, v, r, e => by simp only [RKs] at r; rw [r] at e; simp at e
  | x :: ds, vs, i, k, v, r, e => by
    simp only [RKs] at r
    obtain ⟨w, r', rfl, r1, r2⟩ := r
    cases i with
    | zero =>
      simp at e
      obtain ⟨rfl, rfl⟩ := e
      exact ⟨x.2, rfl, r1⟩
    | succ i =>
      obtain ⟨d, h1, h2⟩ := RKs.at r2 (by simpa using e)
      exact ⟨d, by simpa using h1, h2⟩
theorem walk_keysD {d : Addr} {o : Obj} {ws : List (Key × V)} {kvs : List (Key × D)} : WalkD K cm (Itk d o ws) (kvs.map fun kv => dOf kv.1) (fun p H => H d = some (.frz o (.dK ws)) ∧ RKs K p H kvs ws) where
  go := fun p H i ⟨h, r⟩ hi => ⟨h, by rw [← r.length]; simpa using hi⟩
  st := fun p H ⟨h, r⟩ => ⟨h, by rw [← r.length]; simp⟩
  yl := fun p H s i x H' ⟨h, r⟩ rs hi ⟨e, k, v, h1, y⟩ => by
    subst e
    obtain ⟨d', h2, _⟩ := r.at h1
    exact ⟨dOf k, by rw [List.getElem?_map, h2]; rfl, Fut.refl, rs, by rw [y]; exact rv_dOf k⟩
  fu := fun p H p' H' ⟨h, r⟩ f => ⟨f.frz _ _ _ h, r.mono f⟩
theorem rvs_dOf {p : List Addr} {H : Hp} : ∀ ks : List Key, RVs K p H (ks.map dOf) (ks.map kV)
  | [] => by simp [RVs]
  | k :: ks => by
    simp only [List.map_cons, RVs]
    exact ⟨_, _, rfl, rv_dOf k, rvs_dOf ks⟩
theorem walk_keysTD {d : Addr} {o : Obj} {ws : List (List Key × V)} {kvs : List (List Key × D)} : WalkD K cm (Itkt d o ws) (kvs.map fun kv => .tup (kv.1.map dOf)) (fun p H => H d = some (.frz o (.dT ws)) ∧ RKs K p H kvs ws) where
  go := fun p H i ⟨h, r⟩ hi => ⟨h, by rw [← r.length]; simpa using hi⟩
  st := fun p H ⟨h, r⟩ => ⟨h, by rw [← r.length]; simp⟩
  yl := fun p H s i x H' ⟨h, r⟩ rs hi ⟨e, k, v, q, h1, y, h3⟩ => by
    subst e
    obtain ⟨d', h2, _⟩ := r.at h1
    refine ⟨.tup (k.map dOf), by rw [List.getElem?_map, h2]; rfl, Fut.refl, rs, ?_⟩
    rw [y]
    exact mk_tup h3 (rvs_dOf k)
  fu := fun p H p' H' ⟨h, r⟩ f => ⟨f.frz _ _ _ h, r.mono f⟩
theorem walk_valsD {d : Addr} {o : Obj} {ws : List (Key × V)} {kvs : List (Key × D)} : WalkD K cm (Itd d o ws) (kvs.map (·.2)) (fun p H => H d = some (.frz o (.dK ws)) ∧ RKs K p H kvs ws) where
  go := fun p H i ⟨h, r⟩ hi => ⟨h, by rw [← r.length]; simpa using hi⟩
  st := fun p H ⟨h, r⟩ => ⟨h, by rw [← r.length]; simp⟩
  yl := fun p H s i x H' ⟨h, r⟩ rs hi ⟨e, k, h1⟩ => by
    subst e
    obtain ⟨d', h2, rv⟩ := r.at h1
    exact ⟨d', by rw [List.getElem?_map, h2]; rfl, Fut.refl, rs, rv⟩
  fu := fun p H p' H' ⟨h, r⟩ f => ⟨f.frz _ _ _ h, r.mono f⟩
theorem walk_itemsD {d : Addr} {o : Obj} {ws : List (Key × V)} {kvs : List (Key × D)} : WalkD K cm (Iti d o ws) (kvs.map pairD) (fun p H => H d = some (.frz o (.dK ws)) ∧ RKs K p H kvs ws) where
  go := fun p H i ⟨h, r⟩ hi => ⟨h, by rw [← r.length]; simpa using hi⟩
  st := fun p H ⟨h, r⟩ => ⟨h, by rw [← r.length]; simp⟩
  yl := fun p H s i x H' ⟨h, r⟩ rs hi ⟨t, k, v, h1, y, h3, e⟩ => by
    subst e
    obtain ⟨d', h2, rv⟩ := r.at h1
    have sm := same_new (u := HO.tup [kV k, v]) h3
    refine ⟨pairD (k, d'), by rw [List.getElem?_map, h2]; rfl, Fut.same sm, rs.same sm, ?_⟩
    rw [y]
    refine mk_tup upd_same ?_
    simp only [RVs]
    exact ⟨_, _, rfl, rv_dOf k, _, _, rfl, rv.mono (Fut.same sm), rfl⟩
  fu := fun p H p' H' ⟨h, r⟩ f => ⟨f.frz _ _ _ h, r.mono f⟩
/-- locking: what is tracked stays, but for the lock -/
theorem Fut0.lock {p : List Addr} {H : Hp} {a : Addr} {u : HO} {od : Obj} (h : H a = some u) (mu : Mut (some u)) : Fut p H p (upd H a (.frz od u)) := Fut.put h mu
/-- a dict's walk, by how it is walked -/
theorem dwalk {k : Src} {o : O} {ds : List D} {u : HO} {p : List Addr} {H H' : Hp} {a : Addr} {od : Obj} (e : dSrc k o = some ds) (c : RC K cm p H a o u) (f : Fut0 p H p H') (h : H' a = some (.frz od u)) :
    ((k = .seq ∨ k = .keys) ∧ ((∃ ws, u = .dK ws ∧ ∃ G, WalkD K cm (Itk a od ws) ds G ∧ G p H') ∨ (k = .seq ∧ ∃ ws, u = .dT ws ∧ ∃ G, WalkD K cm (Itkt a od ws) ds G ∧ G p H'))) ∨
    (k = .items ∧ ∃ ws, u = .dK ws ∧ ∃ G, WalkD K cm (Iti a od ws) ds G ∧ G p H') ∨ (k = .vals ∧ ∃ ws, u = .dK ws ∧ ∃ G, WalkD K cm (Itd a od ws) ds G ∧ G p H') := by
  unfold dSrc at e
  split at e
  · cases e
    obtain ⟨ws, rfl, c⟩ := c
    exact .inl ⟨.inr rfl, .inl ⟨ws, rfl, _, walk_keysD, h, c.mono0 f⟩⟩
  · cases e
  · cases e
    obtain ⟨ws, rfl, c⟩ := c
    exact .inl ⟨.inl rfl, .inl ⟨ws, rfl, _, walk_keysD, h, c.mono0 f⟩⟩
  · cases e
    obtain ⟨ws, rfl, c⟩ := c
    exact .inl ⟨.inl rfl, .inr ⟨rfl, ws, rfl, _, walk_keysTD, h, c.mono0 f⟩⟩
  · cases e
    obtain ⟨ws, rfl, c⟩ := c
    exact .inr (.inl ⟨rfl, ws, rfl, _, walk_itemsD, h, c.mono0 f⟩)
  · cases e
    obtain ⟨ws, rfl, c⟩ := c
    exact .inr (.inr ⟨rfl, ws, rfl, _, walk_valsD, h, c.mono0 f⟩)
  · cases e
/-- what a dict's walk gives, by its kind -/
def DW (k : Src) (a : Addr) (od : Obj) (u : HO) (R : It → Hp → Prop) (H' : Hp) : Prop :=
  ((k = .seq ∨ k = .keys) ∧ ((∃ ws, u = .dK ws ∧ R (Itk a od ws) H') ∨ (k = .seq ∧ ∃ ws, u = .dT ws ∧ R (Itkt a od ws) H'))) ∨
    (k = .items ∧ ∃ ws, u = .dK ws ∧ R (Iti a od ws) H') ∨ (k = .vals ∧ ∃ ws, u = .dK ws ∧ R (Itd a od ws) H')
theorem dw_of {k : Src} {o : O} {ds : List D} {u : HO} {p : List Addr} {H H' : Hp} {a : Addr} {od : Obj} {R : It → Hp → Prop} (e : dSrc k o = some ds) (c : RC K cm p H a o u) (f : Fut0 p H p H') (h : H' a = some (.frz od u))
    (q : ∀ J G, WalkD K cm J ds G → G p H' → R J H') : DW k a od u R H' := by
  rcases dwalk e c f h with ⟨h1, ⟨ws, h2, G, h3, h4⟩ | ⟨h5, ws, h2, G, h3, h4⟩⟩ | ⟨h1, ws, h2, G, h3, h4⟩ | ⟨h1, ws, h2, G, h3, h4⟩
  · exact .inl ⟨h1, .inl ⟨ws, h2, q _ _ h3 h4⟩⟩
  · exact .inl ⟨h1, .inr ⟨h5, ws, h2, q _ _ h3 h4⟩⟩
  · exact .inr (.inl ⟨h1, ws, h2, q _ _ h3 h4⟩)
  · exact .inr (.inr ⟨h1, ws, h2, q _ _ h3 h4⟩)
theorem dsrc_mut {k : Src} {o : O} {ds : List D} {u : HO} {p : List Addr} {H : Hp} {a : Addr} (e : dSrc k o = some ds) (c : RC K cm p H a o u) : Mut (some u) := by
  unfold dSrc at e
  split at e <;> first
    | (cases e; done)
    | (obtain ⟨ws, rfl, _⟩ := c; exact True.intro)
theorem dsrc_nl {k : Src} {o : O} {ds : List D} {u : HO} {p : List Addr} {H : Hp} {a : Addr} (e : dSrc k o = some ds) (c : RC K cm p H a o u) : ∀ ys, u ≠ .lst ys := by
  unfold dSrc at e
  split at e <;> first
    | (cases e; done)
    | (obtain ⟨ws, rfl, _⟩ := c; exact fun ys z => by cases z)
theorem dict_i {k : Src} {n : Nat} {o : O} {ds : List D} {p : List Addr} {H : Hp} {s : S} {v : V} {R : It → Hp → Prop} (hs : s[n]? = some o) (e : dSrc k (unl o) = some ds) (rs : RS X.K cm p s H) (rv : RV X.K p H (.ref n) v) (q : Drv X cm (.dict n ds) p H s R) :
    ∃ a, v = .ref a ∧ ((∃ od u, H a = some (.frz od u) ∧ DW k a od u R H) ∨ ∃ u, H a = some u ∧ Mut (some u) ∧ ∀ od, NF X a → DW k a od u R (upd H a (.frz od u))) := by
  simp only [RV] at rv
  obtain ⟨a, ha, rfl⟩ := rv
  obtain ⟨b, hb, hr⟩ := rs.at hs
  rw [ha] at hb; cases hb
  refine ⟨a, rfl, ?_⟩
  simp only [Drv, hs] at q
  cases o with
  | lck o' =>
    obtain ⟨od, u, e1, _, c⟩ := hr
    exact .inl ⟨od, u, e1, dw_of e c Fut.refl.toFut0 e1 q⟩
  | err _ _ => simp [unl, dSrc] at e
  | lst _ =>
    obtain ⟨u, e1, c⟩ := hr
    have mu := dsrc_mut e c
    exact .inr ⟨u, e1, mu, fun od nf => dw_of e c (Fut0.lock e1 mu).toFut0 upd_same fun J G w g => q a u od J G ha e1 mu c nf (dsrc_nl e c) w g⟩
  | dK _ =>
    obtain ⟨u, e1, c⟩ := hr
    have mu := dsrc_mut e c
    exact .inr ⟨u, e1, mu, fun od nf => dw_of e c (Fut0.lock e1 mu).toFut0 upd_same fun J G w g => q a u od J G ha e1 mu c nf (dsrc_nl e c) w g⟩
  | dT _ =>
    obtain ⟨u, e1, c⟩ := hr
    have mu := dsrc_mut e c
    exact .inr ⟨u, e1, mu, fun od nf => dw_of e c (Fut0.lock e1 mu).toFut0 upd_same fun J G w g => q a u od J G ha e1 mu c nf (dsrc_nl e c) w g⟩
  | dN _ => simp [unl, dSrc] at e
  | ins _ _ =>
    obtain ⟨u, e1, c⟩ := hr
    have mu := dsrc_mut e c
    exact .inr ⟨u, e1, mu, fun od nf => dw_of e c (Fut0.lock e1 mu).toFut0 upd_same fun J G w g => q a u od J G ha e1 mu c nf (dsrc_nl e c) w g⟩
/-- a source's expression -/
theorem PoI.cases {k : Src} {p : List Addr} {σ : L2.St} {H : Hp} {e : Env} {s : S} {R : It → Hp → Prop} (q : PoI X cm W p σ H (iSrc k fa e s) R) :
    (∃ c fs s', fa e s = some (.exc c fs s') ∧ ∀ Q : VK, Po X.K cm W (RV X.K) p σ H (fa e s) Q) ∨ ∃ d s1 sk, fa e s = some (.ok d s1) ∧ srcOf k d s1 = some sk ∧ ∀ p1 H1, Fut p H p1 H1 → RS X.K cm p1 s1 H1 → Drv X cm sk p1 H1 s1 R := by
  unfold iSrc bnd at q
  cases h : fa e s with
  | none => rw [h] at q; exact q.elim
  | some r =>
    rw [h] at q
    cases r with
    | exc c fs s' => exact .inl ⟨c, fs, s', rfl, fun Q => q⟩
    | ok d s1 =>
      cases hs : srcOf k d s1 with
      | none => simp only [hs] at q; exact q.elim
      | some sk =>
        simp only [hs] at q
        exact .inr ⟨d, s1, sk, rfl, hs, q⟩
theorem i_seq (ha : JE X cm W a fa) : JI X cm W tg a (iSrc .seq fa) := by
  refine ⟨_, (pi_list ha).or ((pi_tup ha).or ((pi_str ha).or (pi_keys (pe_glock ha)))), ?_⟩
  intro p e s σ H R re rs q
  rcases PoI.cases q with ⟨c, fs, s', h, q⟩ | ⟨d, s1, sk, h, hs, q⟩
  · exact .inl ⟨p, e, s, re, rs, q _⟩
  · unfold srcOf at hs
    split at hs
    · rename_i ds
      cases hs
      refine .inr (.inl ⟨p, e, s, re, rs, ?_⟩)
      rw [h]
      intro p1 H1 v f rs1 rv
      obtain ⟨t, vs, rfl, h1, rr⟩ := rv_tup rv
      exact ⟨t, rfl, ⟨vs, SqT.of h1⟩, q p1 H1 f rs1 _ _ walk_tupD ⟨h1, rr⟩⟩
    · rename_i ds
      cases hs
      refine .inr (.inl ⟨p, e, s, re, rs, ?_⟩)
      rw [h]
      intro p1 H1 v f rs1 rv
      simp only [RV] at rv
      obtain ⟨t, vs, rfl, h1, rr⟩ := rv
      exact ⟨t, rfl, ⟨vs, h1.sq⟩, q p1 H1 f rs1 _ _ walk_stuD ⟨h1, rr⟩⟩
    · rename_i z
      cases hs
      refine .inr (.inr (.inl ⟨p, e, s, re, rs, ?_⟩))
      rw [h]
      intro p1 H1 v f rs1 rv
      exact ⟨z, rv_str rv, q p1 H1 f rs1 _ _ walk_strD True.intro⟩
    · rename_i n
      split at hs
      · rename_i ds hn
        cases hs
        refine .inl ⟨p, e, s, re, rs, ?_⟩
        rw [h]
        intro p1 H1 v f rs1 rv
        obtain ⟨t, vs, rfl, hp, h1, rr⟩ := lst_at rs1 rv hn
        exact ⟨t, rfl, ⟨vs, SqL.of h1⟩, q p1 H1 f rs1 ⟨ds, hn, rfl⟩ t hp⟩
      · rename_i o hn
        obtain ⟨ds, e1, rfl⟩ := Option.map_eq_some_iff.mp hs
        refine .inr (.inr (.inr ⟨p, e, s, re, rs, ?_⟩))
        rw [h]
        intro p1 H1 v f rs1 rv
        obtain ⟨t, rfl, ⟨od, u, h1, dw⟩ | ⟨u, h1, mu, dw⟩⟩ := dict_i ‹_› e1 rs1 rv (q p1 H1 f rs1)
        · refine .inl ⟨t, od, rfl, ?_⟩
          rcases dw with ⟨_, ⟨ws, rfl, z⟩ | ⟨_, ws, rfl, z⟩⟩ | ⟨z, _⟩ | ⟨z, _⟩
          · exact .inl ⟨ws, h1, z⟩
          · exact .inr ⟨ws, h1, z⟩
          · cases z
          · cases z
        · refine .inr ⟨t, u, h1, mu, fun od nf => ⟨t, od, rfl, ?_⟩⟩
          rcases dw od nf with ⟨_, ⟨ws, rfl, z⟩ | ⟨_, ws, rfl, z⟩⟩ | ⟨z, _⟩ | ⟨z, _⟩
          · exact .inl ⟨ws, upd_same, z⟩
          · exact .inr ⟨ws, upd_same, z⟩
          · cases z
          · cases z
      · cases hs
    · cases hs
/-- a dict's view -/
theorem PoI.view {k : Src} (hk : k ≠ .seq) {p : List Addr} {σ : L2.St} {H : Hp} {e : Env} {s : S} {R : It → Hp → Prop} (q : PoI X cm W p σ H (iSrc k fa e s) R) {Q : VK}
    (hQ : ∀ a od u H1, H1 a = some (.frz od u) → DW k a od u R H1 → Q (.ref a) H1) :
    Po X.K cm W (RV X.K) p σ H (fa e s) fun x H1 => Q x H1 ∨ ∃ d u, H1 d = some u ∧ Mut (some u) ∧ ∀ od, NF X d → Q x (upd H1 d (.frz od u)) := by
  rcases PoI.cases q with ⟨c, fs, s', h, q⟩ | ⟨d, s1, sk, h, hs, q⟩
  · exact q _
  · rw [h]
    unfold srcOf at hs
    split at hs
    · split at hs
      · exact absurd rfl hk
      · cases hs
    · split at hs
      · exact absurd rfl hk
      · cases hs
    · split at hs
      · exact absurd rfl hk
      · cases hs
    · rename_i n
      split at hs
      · split at hs
        · exact absurd rfl hk
        · cases hs
      · rename_i o hn
        obtain ⟨ds, e1, rfl⟩ := Option.map_eq_some_iff.mp hs
        intro p1 H1 v f rs1 rv
        obtain ⟨t, rfl, ⟨od, u, h1, dw⟩ | ⟨u, h1, mu, dw⟩⟩ := dict_i ‹_› e1 rs1 rv (q p1 H1 f rs1)
        · exact .inl (hQ t od u H1 h1 dw)
        · exact .inr ⟨t, u, h1, mu, fun od nf => hQ t od u _ upd_same (dw od nf)⟩
      · cases hs
    · cases hs
theorem small_ok {i : Int} (h : small i = true) : -(2 ^ 62) ≤ i ∧ i < 2 ^ 62 := by
  unfold small at h
  simpa using h
theorem i_range1 {pf pos : Pos} (hm : X.mg "range" = none) (ha : JE X cm W a fa) (hg : Gl X "range" := by rfl) (hs : starEach [a] X.env = [(false, eval a X.env)] := by rfl) :
    JI X cm W tg (.Call (.Name "range" pf) [a] [] pos) (iRange (eC (.int 0)) fa) := by
  refine ⟨_, pi_range1 hg hm (r_cons ha r_nil (by rw [hs]; rfl)) hs, ?_⟩
  intro p e s σ H R re rs q
  refine ⟨p, e, s, re, rs, ?_⟩
  show Po X.K cm W (RVs X.K) p σ H (lCons fa lNil e s) _
  unfold iRange eC at q
  unfold lCons lNil
  unfold bnd at q ⊢
  simp only [bnd] at q ⊢
  cases h : fa e s with
  | none => rw [h] at q; exact q.elim
  | some r =>
    rw [h] at q
    cases r with
    | exc c fs s' => exact q
    | ok d s1 =>
      simp only [ret] at q ⊢
      split at q
      · rename_i i j hi
        cases hi
        split at q
        · rename_i hsm
          rw [Bool.and_eq_true] at hsm
          intro p1 H1 vs f rs1 rr
          obtain ⟨x, rfl, rx⟩ := one_rv rr
          have b2 := small_ok hsm.2
          refine ⟨j, by rw [rv_int rx], b2.1, b2.2, ?_⟩
          have z := q p1 H1 f rs1 _ _ walk_rangeD True.intro
          rw [show (j - 0).toNat = j.toNat by rw [Int.sub_zero]] at z
          exact z
        · exact q.elim
      · exact q.elim
end
section
variable {X : Cx}
/-- the loop's premise of the hand layer -/
def LoopW (J : It) (g : TG) (tb : TS) (Dn : Ends) (σ : L2.St) (H : Hp) : Prop := ∃ W : Nat → Nat → L2.St → Hp → Prop, (∃ m, W 0 m σ H) ∧ ∀ i m σ H, W i m σ H →
  (J.stop i H ∧ Dn.nx σ H) ∨ (J.go i H ∧ ∃ N : L2.St → Hp → Prop, (∀ σ' H', N σ' H' → ∃ m', m' < m ∧ W (i + 1) m' σ' H') ∧ ∀ x H', J.yld i H x H' → g x σ H' fun σ2 H2 => tb { Dn with nx := N, ct := N, bk := Dn.nx } σ2 H2)
theorem loop_vals {J : It} {ds : List D} {G : List Addr → Hp → Prop} (w : WalkD K cm J ds G) {g : Fc.G} {vs : List Nat} {b : C} {p : List Addr} {e : Env} {s : S} {σ : L2.St} {H : Hp} {Dn : Ends} (hG : G p H) (re : RE K p H e σ) (rs : RS K cm p s H) (q : PoS K cm W p H (forV g b ds e s) Dn) :
    LoopW J (tG K cm g vs) (tS K cm W b) Dn σ H := by
  refine ⟨fun i m σ H => i ≤ ds.length ∧ m = ds.length - i ∧ ∃ p e s, G p H ∧ RE K p H e σ ∧ RS K cm p s H ∧ PoS K cm W p H (forV g b (ds.drop i) e s) Dn, ⟨_, Nat.zero_le _, rfl, p, e, s, hG, re, rs, by simpa using q⟩, ?_⟩
  rintro i m σ H ⟨hi, rfl, p, e, s, hG, re, rs, q⟩
  by_cases hlt : i < ds.length
  · refine .inr ⟨w.go p H i hG hlt, fun σ' H' => ∃ p e s, G p H' ∧ RE K p H' e σ' ∧ RS K cm p s H' ∧ PoS K cm W p H' (forV g b (ds.drop (i + 1)) e s) Dn, fun σ' H' n => ⟨ds.length - (i + 1), by omega, hlt, rfl, n⟩, fun x H' y => ?_⟩
    obtain ⟨d, e1, f, rs', rv⟩ := w.yl p H s i x H' hG rs hlt y
    have hd : ds.drop i = d :: ds.drop (i + 1) := by
      have e2 : ds[i] = d := by
        have := List.getElem?_eq_getElem hlt
        rw [this] at e1; exact Option.some.inj e1
      rw [← e2]
      exact List.drop_eq_getElem_cons hlt
    rw [hd] at q
    unfold forV at q
    cases hg : g d e s with
    | none => rw [hg] at q; exact q.elim
    | some e' =>
      simp only [hg] at q
      refine ⟨p, e, s, d, e', re.mono f, rs', rv, hg, fun σ' re' _ => ⟨p, e', s, re', rs', ?_⟩⟩
      have q := q.fut f
      have hG' := w.fu p H p H' hG f
      cases hb : b e' s with
      | none => rw [hb] at q; exact q.elim
      | some r =>
        rw [hb] at q
        cases r with
        | nx e2 s2 => exact fun p2 H2 σ2 f2 rs2 re2 => ⟨p2, e2, s2, w.fu _ _ _ _ hG' f2, re2, rs2, q.fut f2⟩
        | ct e2 s2 => exact fun p2 H2 σ2 f2 rs2 re2 => ⟨p2, e2, s2, w.fu _ _ _ _ hG' f2, re2, rs2, q.fut f2⟩
        | bk e2 s2 => exact q
        | rt d2 s2 => exact q
        | xc c fs e2 s2 => exact q
  · have e1 : i = ds.length := by omega
    subst e1
    rw [List.drop_length] at q
    exact .inl ⟨w.st p H hG, q p H σ Fut.refl rs re⟩
theorem loop_list {a : Addr} {n k : Nat} {g : Fc.G} {vs : List Nat} {b : C} {p : List Addr} {e : Env} {s : S} {σ : L2.St} {H : Hp} {Dn : Ends} (ha : p[n]? = some a) (re : RE K p H e σ) (rs : RS K cm p s H) (q : PoS K cm W p H (forL n g b k 0 e s) Dn) :
    LoopW (Itl K a) (tG K cm g vs) (tS K cm W b) Dn σ H := by
  refine ⟨fun i m σ H => ∃ p e s, p[n]? = some a ∧ RE K p H e σ ∧ RS K cm p s H ∧ PoS K cm W p H (forL n g b m i e s) Dn, ⟨k, p, e, s, ha, re, rs, q⟩, ?_⟩
  rintro i m σ H ⟨p, e, s, ha, re, rs, q⟩
  have rn : RV K p H (.ref n) (.ref a) := mk_ref ha
  cases m with
  | zero =>
    unfold forL at q
    split at q
    · rename_i ds hd
      split at q
      · rename_i hl
        have hd' : s[n]? = some (.lst ds) := by
          unfold lstAt at hd
          split at hd
          · rename_i h; cases hd; exact h
          · cases hd
        obtain ⟨t, vs, h0, h1, h2, h3⟩ := lst_at rs rn hd'
        cases h0
        exact .inl ⟨⟨vs, SqL.of h2, by rw [← h3.length, hl]; exact Nat.le_refl _⟩, q p H σ Fut.refl rs re⟩
      · exact q.elim
    · exact q.elim
  | succ m =>
    unfold forL at q
    split at q
    · rename_i ds hd
      split at q
      · rename_i hl
        have hd' : s[n]? = some (.lst ds) := by
          unfold lstAt at hd
          split at hd
          · rename_i h; cases hd; exact h
          · cases hd
        obtain ⟨t, ws, h0, h1, h2, h3⟩ := lst_at rs rn hd'
        cases h0
        split at q
        · rename_i d hdi
          obtain ⟨v, hv, rv⟩ := h3.get hdi
          refine .inr ⟨⟨ws, v, SqL.of h2, hv⟩, fun σ' H' => ∃ p e s, p[n]? = some a ∧ RE K p H' e σ' ∧ RS K cm p s H' ∧ PoS K cm W p H' (forL n g b m (i + 1) e s) Dn, fun σ' H' z => ⟨m, by omega, z⟩, fun x H' y => ?_⟩
          obtain ⟨rfl, y⟩ := y
          have y := y ws (SqL.of h2)
          rw [hv] at y; cases y
          cases hg : g d e s with
          | none => simp only [hg] at q; exact q.elim
          | some e' =>
            simp only [hg] at q
            refine ⟨p, e, s, d, e', re, rs, rv, hg, fun σ' re' _ => ⟨p, e', s, re', rs, ?_⟩⟩
            cases hb : b e' s with
            | none => rw [hb] at q; exact q.elim
            | some r =>
              rw [hb] at q
              cases r with
              | nx e2 s2 => exact fun p2 H2 σ2 f2 rs2 re2 => ⟨p2, e2, s2, f2.pre _ _ ha, re2, rs2, q.fut f2⟩
              | ct e2 s2 => exact fun p2 H2 σ2 f2 rs2 re2 => ⟨p2, e2, s2, f2.pre _ _ ha, re2, rs2, q.fut f2⟩
              | bk e2 s2 => exact q
              | rt d2 s2 => exact q
              | xc c fs e2 s2 => exact q
        · exact q.elim
      · exact q.elim
    · exact q.elim
/-- what is tracked once the dict at a is open again -/
theorem unlock_ok {n : Nat} {a : Addr} {od : Obj} {u : HO} {o : O} {p p' : List Addr} {H H' : Hp} {s : S} (ha : p[n]? = some a) (h0 : H a = some u) (mu : Mut (some u)) (c : RC K cm p H a o u) (nl : ∀ ys, u ≠ .lst ys) (f : Fut p (upd H a (.frz od u)) p' H') (rs : RS K cm p' s H') :
    H' a = some (.frz od u) ∧ Fut p H p' (upd H' a u) ∧ RS K cm p' (s.set n o) (upd H' a u) ∧ Fut0 p' H' p' (upd H' a u) := by
  have hf : H' a = some (.frz od u) := f.frz a od u upd_same
  have f0 : Fut0 p' H' p' (upd H' a u) := by
    have ne : ∀ b w, H' b = some w → (∀ o ys, w = .frz o (.lst ys) → True) → (w ≠ .frz od u) → upd H' a u b = some w := fun b w e _ hw => by
      rw [upd_ne]
      · exact e
      · rintro rfl
        rw [hf] at e; cases e; exact hw rfl
    refine ⟨fun _ _ e => e, fun b ys e => ne b _ e (fun _ _ _ => True.intro) (by intro z; cases z), fun b o' ys e => ne b _ e (fun _ _ _ => True.intro) (fun z => by cases z; exact nl _ rfl), fun b fs e => ne b _ e (fun _ _ _ => True.intro) (by intro z; cases z)⟩
  have fl : Fut0 p H p' H' := (Fut0.lock (od := od) h0 mu).toFut0.trans f.toFut0
  have fa := fl.trans f0
  refine ⟨hf, ⟨fa, fun b o' w e => ?_⟩, rs.putO (f.pre _ _ ha) hf f0 ((c.mono0 fa).ro upd_same), f0⟩
  have hb : b ≠ a := by
    rintro rfl
    rw [h0] at e; cases e; exact mu
  rw [upd_ne hb]
  exact f.frz b o' w (by rw [upd_ne hb]; exact e)
theorem PoS.unlock {n : Nat} {a : Addr} {od : Obj} {u : HO} {o : O} {p : List Addr} {H : Hp} {r : Option R} {Dn : Ends} (nf : NF X a) (ha : p[n]? = some a) (h0 : H a = some u) (mu : Mut (some u)) (c : RC K cm p H a o u) (nl : ∀ ys, u ≠ .lst ys)
    (hx : ∀ c fs e s, r = some (.xc c fs e s) → ∀ p' H' σ' cls dd, Fut p (upd H a (.frz od u)) p' H' → RS K cm p' s H' → RE K p' H' e σ' → RX K cm p' H' c fs cls dd → W cls dd σ' H')
    (q : PoS K cm W p H (setBack n o r) Dn) : PoS K cm W p (upd H a (.frz od u)) r (ulE X Dn) := by
  have key : ∀ {p' H' s}, Fut p (upd H a (.frz od u)) p' H' → RS K cm p' s H' → H' a = some (.frz od u) ∧ Fut p H p' (upd H' a u) ∧ RS K cm p' (s.set n o) (upd H' a u) ∧ Fut0 p' H' p' (upd H' a u) := fun f rs => unlock_ok ha h0 mu c nl f rs
  match r, q with
  | some (.nx e s), q =>
    intro p' H' σ' f rs re
    obtain ⟨k1, k2, k3, k4⟩ := key f rs
    exact .inr ⟨a, od, u, k1, nf, q _ _ _ k2 k3 (re.mono0 k4)⟩
  | some (.rt d s), q =>
    intro p' H' v f rs rv
    obtain ⟨k1, k2, k3, k4⟩ := key f rs
    exact .inr ⟨a, od, u, k1, nf, q _ _ _ k2 k3 (RV.mono0 k4 _ rv)⟩
  | some (.bk e s), q =>
    intro p' H' σ' f rs re
    obtain ⟨k1, k2, k3, k4⟩ := key f rs
    exact .inr ⟨a, od, u, k1, nf, q _ _ _ k2 k3 (re.mono0 k4)⟩
  | some (.ct e s), q =>
    intro p' H' σ' f rs re
    obtain ⟨k1, k2, k3, k4⟩ := key f rs
    exact .inr ⟨a, od, u, k1, nf, q _ _ _ k2 k3 (re.mono0 k4)⟩
  | some (.xc c fs e s), q => exact hx c fs e s rfl
theorem setBack_xc {n : Nat} {o : O} {r : Option R} {c : Str} {fs : List (Str × D)} {e : Env} {s : S} (h : r = some (.xc c fs e s)) : setBack n o r = r := by subst h; rfl
theorem lockV_lck {n : Nat} {s : S} {o : O} {f : S → Option R} (h : s[n]? = some (.lck o)) : lockV n s f = f s := by
  unfold lockV
  rw [h]
theorem lockV_open {n : Nat} {s : S} {o : O} {f : S → Option R} (h : s[n]? = some o) (hn : ∀ o', o ≠ .lck o') : lockV n s f = setBack n o (f (s.set n (.lck o))) := by
  unfold lockV
  rw [h]
  cases o with
  | lck o' => exact absurd rfl (hn o')
  | _ => rfl
theorem r_for {tg iter : Expr} {src : SrcE} {g : Fc.G} {vs : List Nat} {body : List Stmt} {b : C} {pos : Pos} (hp : PassesOwn (model X.prog X.w) X.A X.env X.xe) (hc : X.calm = true) (hi : JI X cm W tg iter src) (hg : JG X cm tg g vs) (hb : JSs X cm W body b)
    (hs : ∀ x, foldedSetIterable iter X.env x = pure x := by intro _; rfl) : JS X cm W (.For tg iter body [] pos) (cFor src g b) := by
  obtain ⟨wi, hi, hw⟩ := hi
  refine ⟨fun pins s0 σ H Dn I q => ?_⟩
  obtain ⟨p, e, s, re, rs, q⟩ := q
  have plain : ∀ (R : Ends), (PoI X cm W p σ H (src e s) fun J H1 => LoopW J (tG X.K cm g vs) (tS X.K cm W b) R σ H1) → tFor wi (tG X.K cm g vs) (tS X.K cm W b) R σ H := fun R z => hw p e s σ H _ re rs z
  unfold cFor Fc.ex at q
  cases h : src e s with
  | none => rw [h] at q; exact q.elim
  | some r =>
    cases r with
    | exc c fs s' =>
      rw [h] at q
      refine (ps_for hp hc hi hg hb hs).run pins s0 σ H Dn I (plain Dn ?_)
      rw [h]
      exact fun p1 H1 cls dd f rs1 rx => q p1 H1 σ cls dd f rs1 (re.mono f) rx
    | ok sk s1 =>
      rw [h] at q
      cases sk with
      | vals ds =>
        refine (ps_for hp hc hi hg hb hs).run pins s0 σ H Dn I (plain Dn ?_)
        rw [h]
        exact fun p1 H1 f rs1 J G w hG => loop_vals w hG (re.mono f) rs1 (PoS.fut q f)
      | list n k =>
        refine (ps_for hp hc hi hg hb hs).run pins s0 σ H Dn I (plain Dn ?_)
        rw [h]
        exact fun p1 H1 f rs1 _ a ha => loop_list ha (re.mono f) rs1 (PoS.fut q f)
      | dict n ds =>
        simp only at q
        refine (ps_gunlock (ps_for hp hc hi hg hb hs)).run pins s0 σ H Dn I (plain (ulE X Dn) ?_)
        rw [h]
        intro p1 H1 f rs1
        have q := PoS.fut q f
        have re1 := re.mono f
        show Drv X cm (.dict n ds) p1 H1 s1 _
        cases hn : s1[n]? with
        | none => unfold lockV at q; rw [hn] at q; exact q.elim
        | some o =>
          by_cases hl : ∃ o', o = .lck o'
          · obtain ⟨o', rfl⟩ := hl
            rw [lockV_lck hn] at q
            simp only [Drv, hn]
            intro J G w hG
            have ul : ∀ {r : Option R}, PoS X.K cm W p1 H1 r Dn → PoS X.K cm W p1 H1 r (ulE X Dn) := fun {r} q => by
              match r, q with
              | some (.nx e s), q => exact fun p' H' σ' f rs re => .inl (q p' H' σ' f rs re)
              | some (.rt e s), q => exact fun p' H' σ' f rs re => .inl (q p' H' σ' f rs re)
              | some (.bk e s), q => exact fun p' H' σ' f rs re => .inl (q p' H' σ' f rs re)
              | some (.ct e s), q => exact fun p' H' σ' f rs re => .inl (q p' H' σ' f rs re)
              | some (.xc c fs e s), q => exact q
            exact loop_vals w hG re1 rs1 (ul q)
          · have hl' : ∀ o', o ≠ .lck o' := fun o' z => hl ⟨o', z⟩
            rw [lockV_open hn hl'] at q
            have goal : ∀ a u od J G, p1[n]? = some a → H1 a = some u → Mut (some u) → RC X.K cm p1 H1 a o u → NF X a → (∀ ys, u ≠ .lst ys) → WalkD X.K cm J ds G → G p1 (upd H1 a (.frz od u)) → LoopW J (tG X.K cm g vs) (tS X.K cm W b) (ulE X Dn) σ (upd H1 a (.frz od u)) := by
              intro a u od J G ha h0 mu c nf nl w hG
              have fl := Fut0.lock (od := od) (p := p1) h0 mu
              have rs2 := rs1.putO (o := .lck o) ha h0 fl.toFut0 ⟨od, u, upd_same, mu, c.mono0 fl.toFut0⟩
              refine loop_vals w hG (re1.mono fl) rs2 (PoS.unlock nf ha h0 mu c nl ?_ q)
              intro c fs e' s' er p' H' σ' cls dd f' rs' re' rx
              rw [setBack_xc er, er] at q
              exact q p' H' σ' cls dd (fl.trans f') rs' re' rx
            simp only [Drv, hn]
            cases o with
            | lck o' => exact absurd rfl (hl' o')
            | _ => exact fun a u od J G ha h0 mu c nf nl w hG => goal a u od J G ha h0 mu c nf nl w hG
end
end Fc
namespace L2
open PySem
theorem PTs.imp {X : Cx} {x : List Expr} {t t' : TT} (h : PTs X x t) (k : ∀ σ H Q, t' σ H Q → t σ H Q) : PTs X x t' := ⟨fun pins s σ H Q I q => h.run pins s σ H Q I (k σ H Q q)⟩
end L2
namespace Fc
open PySem PySem.Spec PyProof.Rows L2
variable {K : PySem.W.Frag} {cm : CM} {W : WX}
section
variable {X : Cx} {c : Expr} {t : T} {b : C} {body : List Stmt} {pos : Pos}
theorem r_while (hp : PassesOwn (model X.prog X.w) X.A X.env X.xe) (hc : JT X cm W c t) (hb : JSs X cm W body b) : JS X cm W (.While c body [] pos) (cWhile t b) := by
  refine (ps_while hp hc hb).imp ?_
  rintro Dn σ H ⟨p, e, s, re, rs, q⟩
  unfold cWhile at q
  split at q
  · rename_i h
    obtain ⟨n, hn⟩ := Classical.choose_spec h
    rw [← hn] at q
    clear hn
    refine ⟨fun m σ H => ∃ p e s, RE X.K p H e σ ∧ RS X.K cm p s H ∧ PoS X.K cm W p H (whileN t b m e s) Dn, ⟨n, p, e, s, re, rs, q⟩, ?_⟩
    rintro m σ H ⟨p, e, s, re, rs, q⟩
    cases m with
    | zero => exact q.elim
    | succ m =>
      unfold whileN at q
      refine ⟨p, e, s, re, rs, (PoS.ex (rel := rB) q re).imp ?_⟩
      rintro k H1 ⟨k', p1, s1, f1, rs1, rk, q⟩
      obtain rfl : k' = k := rk
      cases k' with
      | true =>
        rw [if_pos rfl] at q ⊢
        refine ⟨fun σ' H' => ∃ p e s, RE X.K p H' e σ' ∧ RS X.K cm p s H' ∧ PoS X.K cm W p H' (whileN t b m e s) Dn, fun σ' H' z => ⟨m, Nat.lt_succ_self _, z⟩, p1, e, s1, re.mono f1, rs1, ?_⟩
        cases hb : b e s1 with
        | none => rw [hb] at q; exact q.elim
        | some r =>
          rw [hb] at q
          cases r with
          | nx e2 s2 => exact fun p2 H2 σ2 f2 rs2 re2 => ⟨p2, e2, s2, re2, rs2, q.fut f2⟩
          | ct e2 s2 => exact fun p2 H2 σ2 f2 rs2 re2 => ⟨p2, e2, s2, re2, rs2, q.fut f2⟩
          | bk e2 s2 => exact q
          | rt d2 s2 => exact q
          | xc c fs e2 s2 => exact q
      | false =>
        rw [if_neg Bool.false_ne_true] at q ⊢
        exact q p1 H1 σ Fut.refl rs1 (re.mono f1)
  · exact q.elim
end
/-- no error leaves a block -/
def Wf : WX := fun _ _ _ _ => False
abbrev JTs (X : Cx) (cm : CM) (W : WX) (ifs : List Expr) (t : T) : Prop := PTs X ifs (tT X.K cm W t)
theorem r_tsnil {X : Cx} : JTs X cm W [] Fc.tYes := by
  refine pts_nil.imp ?_
  rintro σ H Q ⟨p, e, s, re, rs, q⟩
  exact Po.ok q rs rfl
theorem r_tsone {X : Cx} {c : Expr} {t : T} (h : JT X cm W c t) : JTs X cm W [c] t := pts_one h
theorem RE.wipe {p : List Addr} {H : Hp} {e : Env} {σ : L2.St} (re : RE K p H e σ) : ∀ vs, RE K p H (Fc.wipe e vs) (L2.wipe σ vs)
  | [] => re
  | v :: vs => (RE.wipe re vs).unset v
theorem wipe_len (e : Env) : ∀ vs, (Fc.wipe e vs).length = e.length
  | [] => rfl
  | v :: vs => by simp [Fc.wipe, wipe_len e vs]
theorem wipe_get (σ : L2.St) : ∀ (vs : List Nat) (i : Nat), (L2.wipe σ vs)[i]? = if i < σ.length then (if i ∈ vs then some none else σ[i]?) else none
  | [], i => by
    by_cases h : i < σ.length
    · simp [L2.wipe, h]
    · simp [L2.wipe, h]
  | v :: vs, i => by
    show ((L2.wipe σ vs).set v none)[i]? = _
    rw [List.getElem?_set, wipe_get σ vs i, L2.wipe_length]
    by_cases hv : v = i
    · subst hv
      by_cases h : v < σ.length
      · simp [h]
      · simp [h]
    · rw [if_neg hv]
      by_cases h : i < σ.length
      · simp only [h, if_true, List.mem_cons]
        by_cases hi : i ∈ vs
        · simp [hi]
        · simp [hi, Ne.symm hv]
      · simp [h]
theorem wipe_same {σ σ' : L2.St} {vs ws : List Nat} (hl : σ'.length = σ.length) (h : ∀ i, i ∉ ws → σ'[i]? = (L2.wipe σ vs)[i]?) (hs : ∀ i ∈ ws, i ∈ vs) : L2.wipe σ' vs = L2.wipe σ vs := by
  apply List.ext_getElem?
  intro i
  rw [wipe_get, wipe_get, hl]
  by_cases hi : i < σ.length
  · simp only [hi, if_true]
    by_cases hv : i ∈ vs
    · simp [hv]
    · simp only [hv, if_false]
      have := h i fun z => hv (hs i z)
      rw [this, wipe_get]
      simp [hi, hv]
  · simp [hi]
/-- what stays while the new list grows -/
theorem lcStep_ok {D0 : Nat} {Da : Addr} {d : D} {v : V} {s s' : S} {p : List Addr} {H : Hp} (rs : RS K cm p s H) (rv : RV K p H d v) (hp : p[D0]? = some Da) (h : lcStep D0 d s = some s') :
    ∃ acc, H Da = some (.lst acc) ∧ acc.length < sizeLine ∧ Fut p H p (upd H Da (.lst (acc ++ [v]))) ∧ RS K cm p s' (upd H Da (.lst (acc ++ [v]))) := by
  unfold lcStep at h
  split at h
  · rename_i acc hs
    split at h
    · rename_i hl
      cases h
      obtain ⟨a, vs, h0, h1, h2, h3⟩ := lst_at rs (mk_ref hp) hs
      cases h0
      have hu : RC K cm p H Da (.lst (acc ++ [d])) (.lst (vs ++ [v])) := by
        refine ⟨_, rfl, h3.append ?_⟩
        simp only [RVs]
        exact ⟨v, [], rfl, rv, rfl⟩
      obtain ⟨f, rs'⟩ := rs.put hp h2 True.intro hu
      exact ⟨vs, h2, by rw [← h3.length, sizeLine_eq]; exact hl, f, rs'⟩
    · cases h
  · cases h
/-- the loop's premise of the hand layer -/
def LcW (J : It) (g : TG) (tt : TT) (te : TE) (vs : List Nat) (Da : Addr) (σ : L2.St) (H1 : Hp) (Qd : Hp → Prop) : Prop := ∃ W : Nat → Nat → Hp → Prop, (∃ m, W 0 m (upd H1 Da (.lst []))) ∧ ∀ i m H, W i m H →
  (J.stop i H ∧ Qd H) ∨ (J.go i H ∧ ∃ Nx : Hp → Prop, (∀ H', Nx H' → ∃ m', m' < m ∧ W (i + 1) m' H') ∧ ∀ x H', J.yld i H x H' → g x (L2.wipe σ vs) H' fun σ2 H2 => L2.wipe σ2 vs = L2.wipe σ vs ∧ tt σ2 H2 fun b H3 =>
    if b = true then te σ2 H3 fun y H4 => ∃ acc, H4 Da = some (.lst acc) ∧ acc.length < sizeLine ∧ Nx (upd H4 Da (.lst (acc ++ [y]))) else Nx H3)
section
variable {g : Fc.G} {gs vs : List Nat} {t : T} {el : E} {e : Env} {σ : L2.St}
/-- one turn -/
theorem lc_turn (hsub : ∀ i ∈ gs, i ∈ vs) (hgl : ∀ d e s e', g d e s = some e' → e'.length = e.length) {p p0 : List Addr} {H H0 : Hp} {s : S} {d : D} {x : V} {D0 : Nat} {Da : Addr} {k : S → Option S} {sF : S} {Nx : Hp → Prop}
    (re : RE K p H e σ) (rs : RS K cm p s H) (rv : RV K p H d x) (hD : p[D0]? = some Da) (f0 : Fut p0 H0 p H)
    (h : (match g d (Fc.wipe e vs) s with
      | some σ1 => match t σ1 s with
        | some (.ok true s1) => match el σ1 s1 with
          | some (.ok y s2) => (lcStep D0 y s2).bind k
          | _ => none
        | some (.ok false s1) => k s1
        | _ => none
      | none => none) = some sF)
    (nx : ∀ p2 s2 H2, Fut p H p2 H2 → RS K cm p2 s2 H2 → k s2 = some sF → Nx H2) :
    tG K cm g gs x (L2.wipe σ vs) H fun σ2 H2 => L2.wipe σ2 vs = L2.wipe σ vs ∧ tT K cm Wf t σ2 H2 fun b H3 =>
      if b = true then tD K cm Wf el σ2 H3 fun y H4 => ∃ acc, H4 Da = some (.lst acc) ∧ acc.length < sizeLine ∧ Nx (upd H4 Da (.lst (acc ++ [y]))) else Nx H3 := by
  cases hg : g d (Fc.wipe e vs) s with
  | none => rw [hg] at h; cases h
  | some e1 =>
    simp only [hg] at h
    refine ⟨p, Fc.wipe e vs, s, d, e1, re.wipe vs, rs, rv, hg, fun σ2 re2 hs => ⟨wipe_same ?_ hs hsub, p, e1, s, re2, rs, ?_⟩⟩
    · rw [← re2.1, hgl _ _ _ _ hg, wipe_len, re.1]
    · cases ht : t e1 s with
      | none => rw [ht] at h; cases h
      | some r =>
        rw [ht] at h
        cases r with
        | exc c fs s' => cases h
        | ok k1 s1 =>
          intro p1 H1 k2 f1 rs1 rk
          obtain rfl : k1 = k2 := rk
          cases k1 with
          | false =>
            rw [if_neg Bool.false_ne_true]
            exact nx p1 s1 H1 f1 rs1 h
          | true =>
            rw [if_pos rfl]
            simp only at h
            refine ⟨p1, e1, s1, re2.mono f1, rs1, ?_⟩
            cases he : el e1 s1 with
            | none => rw [he] at h; cases h
            | some r =>
              rw [he] at h
              cases r with
              | exc c fs s' => cases h
              | ok y s2 =>
                intro p2 H2 v f2 rs2 rv2
                obtain ⟨s3, h1, h2⟩ := Option.bind_eq_some_iff.mp h
                obtain ⟨acc, a1, a2, a3, a4⟩ := lcStep_ok rs2 rv2 (f2.pre _ _ (f1.pre _ _ hD)) h1
                exact ⟨acc, a1, a2, nx p2 s3 _ ((f1.trans f2).trans a3) a4 h2⟩
theorem lc_vals (hsub : ∀ i ∈ gs, i ∈ vs) (hgl : ∀ d e s e', g d e s = some e' → e'.length = e.length) {J : It} {ds : List D} {G : List Addr → Hp → Prop} (w : WalkD K cm J ds G) {p : List Addr} {s : S} {H : Hp} {Q : VK} {Da : Addr} (hG : G p H) (re : RE K p H e σ) (rs : RS K cm p s H)
    (q : Po K cm W (RV K) p σ H (lcNew s fun D0 s2 => lcV D0 vs g t el ds e s2) Q) (hDa : H Da = none) : LcW J (tG K cm g gs) (tT K cm Wf t) (tD K cm Wf el) vs Da σ H (Q (.ref Da)) := by
  unfold lcNew at q
  dsimp only at q
  cases hf : lcV s.length vs g t el ds e (s ++ [.lst []]) with
  | none => rw [hf] at q; exact q.elim
  | some sF =>
    rw [hf] at q
    obtain ⟨f1, rs1, e1⟩ := rs.new (o := .lst []) (u := .lst []) hDa ⟨[], rfl, by simp [RVs]⟩
    refine ⟨fun i m H' => i ≤ ds.length ∧ m = ds.length - i ∧ ∃ p' s', G p' H' ∧ RS K cm p' s' H' ∧ p'[s.length]? = some Da ∧ Fut p H p' H' ∧ lcV s.length vs g t el (ds.drop i) e s' = some sF, ⟨_, Nat.zero_le _, rfl, p ++ [Da], s ++ [.lst []], w.fu _ _ _ _ hG f1, rs1, e1, f1, by simpa using hf⟩, ?_⟩
    rintro i m H' ⟨hi, rfl, p', s', hG', rs', hD', f', hF⟩
    by_cases hlt : i < ds.length
    · refine .inr ⟨w.go p' H' i hG' hlt, fun H' => ∃ p' s', G p' H' ∧ RS K cm p' s' H' ∧ p'[s.length]? = some Da ∧ Fut p H p' H' ∧ lcV s.length vs g t el (ds.drop (i + 1)) e s' = some sF, fun H' n => ⟨ds.length - (i + 1), by omega, hlt, rfl, n⟩, fun x H2 y => ?_⟩
      obtain ⟨d, e2, f2, rs2, rv⟩ := w.yl p' H' s' i x H2 hG' rs' hlt y
      have hd : ds.drop i = d :: ds.drop (i + 1) := by
        have e3 : ds[i] = d := by
          have := List.getElem?_eq_getElem hlt
          rw [this] at e2; exact Option.some.inj e2
        rw [← e3]
        exact List.drop_eq_getElem_cons hlt
      rw [hd] at hF
      unfold lcV at hF
      have f02 := f'.trans f2
      refine lc_turn hsub hgl (re.mono f02) rs2 rv hD' f02 hF fun p3 s3 H3 f3 rs3 h3 => ?_
      exact ⟨p3, s3, w.fu _ _ _ _ (w.fu _ _ _ _ hG' f2) f3, rs3, f3.pre _ _ hD', f02.trans f3, h3⟩
    · have e2 : i = ds.length := by omega
      subst e2
      rw [List.drop_length] at hF
      cases hF
      exact .inl ⟨w.st p' H' hG', q p' H' _ f' rs' (mk_ref hD')⟩
theorem lstAt_some {s : S} {n : Nat} {ds : List D} (h : lstAt s n = some ds) : s[n]? = some (.lst ds) := by
  unfold lstAt at h
  split at h
  · rename_i z; cases h; exact z
  · cases h
theorem lc_list (hsub : ∀ i ∈ gs, i ∈ vs) (hgl : ∀ d e s e', g d e s = some e' → e'.length = e.length) {a : Addr} {n k : Nat} {p : List Addr} {s : S} {H : Hp} {Q : VK} {Da : Addr} (ha : p[n]? = some a) (re : RE K p H e σ) (rs : RS K cm p s H)
    (q : Po K cm W (RV K) p σ H (lcNew s fun D0 s2 => lcL D0 n vs g t el k 0 e s2) Q) (hDa : H Da = none) : LcW (Itl K a) (tG K cm g gs) (tT K cm Wf t) (tD K cm Wf el) vs Da σ H (Q (.ref Da)) := by
  unfold lcNew at q
  dsimp only at q
  cases hf : lcL s.length n vs g t el k 0 e (s ++ [.lst []]) with
  | none => rw [hf] at q; exact q.elim
  | some sF =>
    rw [hf] at q
    obtain ⟨f1, rs1, e1⟩ := rs.new (o := .lst []) (u := .lst []) hDa ⟨[], rfl, by simp [RVs]⟩
    refine ⟨fun i m H' => ∃ p' s', RS K cm p' s' H' ∧ p'[s.length]? = some Da ∧ Fut p H p' H' ∧ lcL s.length n vs g t el m i e s' = some sF, ⟨k, p ++ [Da], s ++ [.lst []], rs1, e1, f1, hf⟩, ?_⟩
    rintro i m H' ⟨p', s', rs', hD', f', hF⟩
    have rn : RV K p' H' (.ref n) (.ref a) := mk_ref (f'.pre _ _ ha)
    cases m with
    | zero =>
      unfold lcL at hF
      split at hF
      · rename_i ds hd
        split at hF
        · rename_i hl
          cases hF
          obtain ⟨t', ws, h0, h1, h2, h3⟩ := lst_at rs' rn (lstAt_some hd)
          cases h0
          exact .inl ⟨⟨ws, SqL.of h2, by rw [← h3.length, hl]; exact Nat.le_refl _⟩, q p' H' _ f' rs' (mk_ref hD')⟩
        · cases hF
      · cases hF
    | succ m =>
      unfold lcL at hF
      split at hF
      · rename_i ds hd
        split at hF
        · rename_i hl
          obtain ⟨t', ws, h0, h1, h2, h3⟩ := lst_at rs' rn (lstAt_some hd)
          cases h0
          split at hF
          · rename_i d hdi
            obtain ⟨v, hv, rv⟩ := h3.get hdi
            refine .inr ⟨⟨ws, v, SqL.of h2, hv⟩, fun H' => ∃ p' s', RS K cm p' s' H' ∧ p'[s.length]? = some Da ∧ Fut p H p' H' ∧ lcL s.length n vs g t el m (i + 1) e s' = some sF, fun H' z => ⟨m, by omega, z⟩, fun x H2 y => ?_⟩
            obtain ⟨rfl, y⟩ := y
            have y := y ws (SqL.of h2)
            rw [hv] at y; cases y
            refine lc_turn hsub hgl (re.mono f') rs' rv hD' f' hF fun p3 s3 H3 f3 rs3 h3 => ?_
            exact ⟨p3, s3, rs3, f3.pre _ _ hD', f'.trans f3, h3⟩
          · cases hF
        · cases hF
      · cases hF
theorem lcDict_lck {n : Nat} {s : S} {o : O} {f : S → Option (Res D)} (h : s[n]? = some (.lck o)) : lcDict n s f = f s := by
  unfold lcDict
  rw [h]
theorem lcDict_open {n : Nat} {s : S} {o : O} {f : S → Option (Res D)} (h : s[n]? = some o) (hn : ∀ o', o ≠ .lck o') : lcDict n s f = match f (s.set n (.lck o)) with
    | some (.ok d s') => some (.ok d (s'.set n o))
    | r => r := by
  unfold lcDict
  rw [h]
  cases o with
  | lck o' => exact absurd rfl (hn o')
  | _ => rfl
theorem Po.unlock {X : Cx} {n : Nat} {a : Addr} {od : Obj} {u : HO} {o : O} {p : List Addr} {H : Hp} {r : Option (Res D)} {Q : VK} (nf : NF X a) (ha : p[n]? = some a) (h0 : H a = some u) (mu : Mut (some u)) (c : RC K cm p H a o u) (nl : ∀ ys, u ≠ .lst ys)
    (q : Po K cm W (RV K) p σ H (match r with
      | some (.ok d s') => some (.ok d (s'.set n o))
      | r => r) Q) : Po K cm W (RV K) p σ (upd H a (.frz od u)) r fun x H1 => Ul X (Q x) H1 := by
  have fl := Fut0.lock (od := od) (p := p) h0 mu
  match r, q with
  | some (.ok d s), q =>
    intro p' H' v f rs rv
    obtain ⟨k1, k2, k3, k4⟩ := unlock_ok (od := od) ha h0 mu c nl f rs
    exact .inr ⟨a, od, u, k1, nf, q _ _ _ k2 k3 (RV.mono0 k4 _ rv)⟩
  | some (.exc c fs s), q => exact fun p' H' cls dd f rs rx => q p' H' cls dd (fl.trans f) rs rx
theorem lc_all {X : Cx} {tg iter : Expr} {src : SrcE} {wi : TI} (hw : ∀ p e s σ H R, RE X.K p H e σ → RS X.K cm p s H → PoI X cm W p σ H (src e s) R → wi σ H R) (hsub : ∀ i ∈ gs, i ∈ vs) (hgl : ∀ d e s e', g d e s = some e' → e'.length = e.length)
    {p : List Addr} {s : S} {H : Hp} {Q : VK} (re : RE X.K p H e σ) (rs : RS X.K cm p s H) (q : Po X.K cm W (RV X.K) p σ H (eLc vs src g t el e s) Q) :
    tLc wi (tG X.K cm g gs) (tT X.K cm Wf t) (tD X.K cm Wf el) vs σ H fun x H1 => Ul X (Q x) H1 := by
  refine hw p e s σ H _ re rs ?_
  unfold eLc bnd at q
  cases h : src e s with
  | none => rw [h] at q; exact q.elim
  | some r =>
    rw [h] at q
    cases r with
    | exc c fs s' => exact q
    | ok sk s1 =>
      intro p1 H1 f rs1
      have q := Po.fut q f
      have re1 := re.mono f
      cases sk with
      | vals ds => exact fun J G w hG Da hDa => lc_vals (Q := fun x H1 => Ul X (Q x) H1) hsub hgl w hG re1 rs1 (q.imp fun v H z => Or.inl z) hDa
      | list n k => exact fun _ a ha Da hDa => lc_list (Q := fun x H1 => Ul X (Q x) H1) hsub hgl ha re1 rs1 (q.imp fun v H z => Or.inl z) hDa
      | dict n ds =>
        simp only at q
        show Drv X cm (.dict n ds) p1 H1 s1 _
        cases hn : s1[n]? with
        | none => unfold lcDict at q; rw [hn] at q; exact q.elim
        | some o =>
          by_cases hl : ∃ o', o = .lck o'
          · obtain ⟨o', rfl⟩ := hl
            rw [lcDict_lck hn] at q
            simp only [Drv, hn]
            exact fun J G w hG Da hDa => lc_vals (Q := fun x H1 => Ul X (Q x) H1) hsub hgl w hG re1 rs1 (q.imp fun v H z => Or.inl z) hDa
          · have hl' : ∀ o', o ≠ .lck o' := fun o' z => hl ⟨o', z⟩
            rw [lcDict_open hn hl'] at q
            have goal : ∀ a u od J G, p1[n]? = some a → H1 a = some u → Mut (some u) → RC X.K cm p1 H1 a o u → NF X a → (∀ ys, u ≠ .lst ys) → WalkD X.K cm J ds G → G p1 (upd H1 a (.frz od u)) → ∀ Da, upd H1 a (.frz od u) Da = none → LcW J (tG X.K cm g gs) (tT X.K cm Wf t) (tD X.K cm Wf el) vs Da σ (upd H1 a (.frz od u)) fun H => Ul X (Q (.ref Da)) H := by
              intro a u od J G ha h0 mu c nf nl w hG Da hDa
              have fl := Fut0.lock (od := od) (p := p1) h0 mu
              have rs2 := rs1.putO (o := .lck o) ha h0 fl.toFut0 ⟨od, u, upd_same, mu, c.mono0 fl.toFut0⟩
              exact lc_vals (Q := fun x H1 => Ul X (Q x) H1) hsub hgl w hG (re1.mono fl) rs2 (Po.unlock nf ha h0 mu c nl q) hDa
            simp only [Drv, hn]
            cases o with
            | lck o' => exact absurd rfl (hl' o')
            | _ => exact fun a u od J G ha h0 mu c nf nl w hG Da hDa => goal a u od J G ha h0 mu c nf nl w hG Da hDa
end
section
variable {X : Cx} {elt tg iter : Expr} {ifs : List Expr} {scope : Scope} {own : List (Str × Nat)} {pos spos : Pos} {src : SrcE} {g : Fc.G} {gs : List Nat} {t : T} {el : E}
theorem r_lc (hc : X.calm = true) (hN : X.N.Nodup) (own : List (Str × Nat)) (hi : JI X cm W tg iter src)
    (hg : ∀ (s : Shared) (H : Hp) (C : Addr) (cl : List (Str × Addr)) (fp : List Addr), JG (X.blk s H scope (compEnvC scope cl C X.env) fp) cm tg g gs)
    (ht : ∀ (s : Shared) (H : Hp) (C : Addr) (cl : List (Str × Addr)) (fp : List Addr), JTs (X.blk s H scope (compEnvC scope cl C X.env) fp) cm Wf ifs t)
    (he : ∀ (s : Shared) (H : Hp) (C : Addr) (cl : List (Str × Addr)) (fp : List Addr), JE (X.blk s H scope (compEnvC scope cl C X.env) fp) cm Wf elt el)
    (hgl : ∀ d e s e', g d e s = some e' → e'.length = e.length) (ok : BlkOk X.N X.env.scope scope own := by exact blkOk_by (by rfl)) (hsub : ∀ i ∈ gs, i ∈ own.map (·.2) := by decide) (hs : ∀ x, foldedSetIterable iter X.env x = pure x := by intro _; rfl) :
    JE X cm W (.ListComp elt [⟨tg, iter, ifs, 0⟩] scope pos) (eLc (own.map (·.2)) src g t el) := by
  obtain ⟨wi, hi, hw⟩ := hi
  refine (pe_gunlock (pe_lc (g := tG X.K cm g gs) (tt := tT X.K cm Wf t) (te := tD X.K cm Wf el) hc hN hi ok hg ht he hs)).imp ?_
  rintro σ H Q ⟨p, e, s, re, rs, q⟩
  exact lc_all (tg := tg) (iter := iter) hw hsub hgl re rs q
theorem r_setLc (hc : X.calm = true) (hN : X.N.Nodup) (i : Nat) {y : Str} {py : Pos} (own : List (Str × Nat)) (hi : JI X cm W tg iter src)
    (hg : ∀ (s : Shared) (H : Hp) (C : Addr) (cl : List (Str × Addr)) (fp : List Addr), JG (X.blk s H scope (compEnvC scope cl C X.env) fp) cm tg g gs)
    (ht : ∀ (s : Shared) (H : Hp) (C : Addr) (cl : List (Str × Addr)) (fp : List Addr), JTs (X.blk s H scope (compEnvC scope cl C X.env) fp) cm Wf ifs t)
    (he : ∀ (s : Shared) (H : Hp) (C : Addr) (cl : List (Str × Addr)) (fp : List Addr), JE (X.blk s H scope (compEnvC scope cl C X.env) fp) cm Wf elt el)
    (hgl : ∀ d e s e', g d e s = some e' → e'.length = e.length) (hy : X.N[i]? = some y := by rfl) (hyl : X.env.scope.names.lookup y = some .local := by rfl)
    (hsw : swapsWith (.ListComp elt [⟨tg, iter, ifs, 0⟩] scope pos) (some (.Name y py)) spos.line X.env = pure true := by exact sw_true rfl rfl rfl (by decide +kernel)) (ok : BlkOk X.N X.env.scope scope own := by exact blkOk_by (by rfl)) (hsub : ∀ i ∈ gs, i ∈ own.map (·.2) := by decide) (hs : ∀ x, foldedSetIterable iter X.env x = pure x := by intro _; rfl) :
    JS X cm W (.Assign [.Name y py] (.ListComp elt [⟨tg, iter, ifs, 0⟩] scope pos) spos) (cSet (eLc (own.map (·.2)) src g t el) (gName i)) := by
  obtain ⟨wi, hi, hw⟩ := hi
  refine (ps_gunlock (ps_setLc (g := tG X.K cm g gs) (tt := tT X.K cm Wf t) (te := tD X.K cm Wf el) hc hN hy hyl hsw hi ok hg ht he hs)).imp ?_
  rintro Dn σ H ⟨p, e, s, re, rs, q⟩
  refine lc_all (tg := tg) (iter := iter) (Q := fun x H1 => Dn.nx (σ.set i (some x)) H1) hw hsub hgl re rs ?_
  exact (PoS.set q re (vs := [i])).imp fun x H1 h => tG_name (p := p) (e := e) (s := s) h
end
theorem gl_name {i : Nat} : ∀ d e s e', gName i d e s = some e' → e'.length = e.length := by
  intro d e s e' h
  cases h
  simp
theorem gls_nil : ∀ ds e s e', gNil ds e s = some e' → e'.length = e.length := by
  intro d e s e' h
  unfold gNil at h
  split at h
  · cases h; rfl
  · cases h
theorem gls_cons {g : Fc.G} {r : GL} (h1 : ∀ d e s e', g d e s = some e' → e'.length = e.length) (h2 : ∀ d e s e', r d e s = some e' → e'.length = e.length) : ∀ ds e s e', gCons g r ds e s = some e' → e'.length = e.length := by
  intro d e s e' h
  unfold gCons at h
  split at h
  · obtain ⟨e1, a, b⟩ := Option.bind_eq_some_iff.mp h
    rw [h2 _ _ _ _ b, h1 _ _ _ _ a]
  · cases h
theorem gl_tup {k : Nat} {r : GL} (h1 : ∀ d e s e', r d e s = some e' → e'.length = e.length) : ∀ d e s e', gTup k r d e s = some e' → e'.length = e.length := by
  intro d e s e' h
  unfold gTup at h
  split at h
  · split at h
    · exact h1 _ _ _ _ h
    · cases h
  · split at h
    · split at h
      · exact h1 _ _ _ _ h
      · cases h
    · cases h
  · cases h
end Fc
namespace Fc
open PySem PySem.Spec PyProof.Rows L2
variable {K : PySem.W.Frag} {cm : CM} {W : WX}
structure Rg (k : Nat) (A : Around) : Prop where
  room : Room k A
  gd : A.guards = some []
theorem Rg.mono {j k : Nat} {A : Around} (r : Rg k A) (h : j ≤ k) : Rg j A := ⟨r.room.mono h, r.gd⟩
theorem Rg.deeper {k : Nat} {A : Around} (r : Rg (k + 1) A) (env : PySem.Env) : Rg k (A.deeper env) := ⟨r.room.deeper env, r.gd⟩
structure FnG (P : Program) (w : World) (K : PySem.W.Frag) (mg : Str → Option Value) (base : Heap) (k : Nat) (f : Addr) (fd : FuncData) (ps : List Str) (sp : Sp) : Prop where
  len : ∀ vs H Q E, sp vs H Q E → vs.length = ps.length
  run : ∀ (A : Around) (outer : List PySem.Env) (s : Shared) (H : Hp) (args : Args) (us : List Value) (vs : List V) (Q : VK) (E : XK), Rg k A → Env0 P w K mg base A outer s H → BindsTo s fd args (ps.zip us) → Vals vs us → sp vs H Q E →
    codeAny (model P w) A (.call (.ref f) args) (CR (L2.CX P w) outer P w H s Q E) s
theorem FnG.mono {P : Program} {w : World} {mg : Str → Option Value} {base : Heap} {j k : Nat} {f : Addr} {fd : FuncData} {ps : List Str} {sp : Sp} (F : FnG P w K mg base j f fd ps sp) (h : j ≤ k) : FnG P w K mg base k f fd ps sp :=
  ⟨F.len, fun A outer s H args us vs Q E hr => F.run A outer s H args us vs Q E (hr.mono h)⟩
/-- an exception's wish without slots -/
abbrev Wx (E : XK) : WX := fun c d _ H => E c d H
/-- the promise of a def read as F -/
def spD (K : PySem.W.Frag) (cm : CM) (n : Nat) (F : Fc.F) : Sp := fun vs H Q E => ∃ p s ds, RS K cm p s H ∧ RVs K p H ds vs ∧ ds.length = n ∧ Po K cm (Wx E) (RV K) p [] H (F ds s) Q
theorem re_start {p : List Addr} {H : Hp} {ds : List D} {vs : List V} {N : List Str} (r : RVs K p H ds vs) : RE K p H (ds.map some ++ List.replicate (N.length - ds.length) none) (L2.start N vs) := by
  have hl := r.length
  refine ⟨by simp [L2.start, hl], fun i d h => ?_⟩
  by_cases hi : i < ds.length
  · rw [List.getElem?_append_left (by simpa using hi)] at h
    rw [List.getElem?_map] at h
    obtain ⟨d', h1, h2⟩ := Option.map_eq_some_iff.mp h
    cases h2
    obtain ⟨v, h3, h4⟩ := r.get h1
    refine ⟨v, ?_, h4⟩
    unfold L2.start
    rw [List.getElem?_append_left (by simpa [← hl] using hi), List.getElem?_map, h3]
    rfl
  · rw [List.getElem?_append_right (by simpa using hi), List.getElem?_replicate] at h
    split at h <;> cases h
/-- the context of a body -/
abbrev bodyX (P : Program) (w : World) (K : PySem.W.Frag) (mg : Str → Option Value) (base : Heap) (N : List Str) (qual : Str) (scope : Scope) (f : Addr) (cdv : Value) (A : Around) (outer : List PySem.Env) (s : Shared) (H : Hp) (E : XK) : Cx := cxOf (L2.CX P w) P w K mg base N qual scope f cdv A outer s H E
section
variable {P : Program} {w : World} {mg : Str → Option Value} {base : Heap} {k : Nat} {f : Addr} {fd : FuncData} {x qual : Str} {params : Arguments} {body : List Stmt} {scope : Scope} {dvs : List V} {kws : List (Str × V)} {N ps : List Str} {b : C}
theorem FnG.of (F : FunD K x qual params body scope dvs kws f fd) (S : FnScope N ps scope)
    (hbody : ∀ (cdv : Value) (A : Around) (outer : List PySem.Env) (s : Shared) (H : Hp) (E : XK), Rg k (bodyX P w K mg base N qual scope f cdv A outer s H E).A → Takes (bodyX P w K mg base N qual scope f cdv A outer s H E) (Wx E) →
      PassesOwn (model P w) (bodyX P w K mg base N qual scope f cdv A outer s H E).A (bodyX P w K mg base N qual scope f cdv A outer s H E).env (bodyX P w K mg base N qual scope f cdv A outer s H E).xe →
      JSs (bodyX P w K mg base N qual scope f cdv A outer s H E) cm (Wx E) body b) :
    FnG P w K mg base (k + 1) f fd ps (spD K cm ps.length (defF ps.length N.length b)) := by
  have len : ∀ vs H Q E, spD K cm ps.length (defF ps.length N.length b) vs H Q E → vs.length = ps.length := fun vs H Q E ⟨p, s, ds, _, r, l, _⟩ => by rw [← r.length, l]
  obtain ⟨oc, od, dV, kV, doc, pm, an, cdv, ct, osl, rfl, lk, hcd, _, _⟩ := F.ex
  refine ⟨len, fun A outer s H args us vs Q E hr e0 hb r hsp => ?_⟩
  have hl := len _ _ _ _ hsp
  have KX : K.In s.heap := e0.mod.kin.keeps fun b o e => (e0.bs b o e).1
  have lim : s.heap.NoLimit := e0.mod.nolimit.keeps fun b o e => (e0.bs b o e).1
  have hkind : ∀ y ∈ ps.zip us, scope.names.lookup y.1 = some .local ∨ (scope.names.lookup y.1 = some .cell ∧ ((cellsFrom (s.heap.objs.size + 1) scope.names []).lookup y.1).isSome = true) := fun ⟨n, v⟩ hy =>
    (S.par n (List.of_mem_zip hy).1).elim .inl fun q => .inr ⟨q, PySem.W.cellsFrom_some _ _ _ (.inl q)⟩
  refine codeAny_call_function hr.room.depth (KX _ _ lk) rfl S.co S.gen rfl (PySem.W.codeRec_of KX hcd) (hb _ _ _ _ ?_)
  refine wpAny_newFunctionEnv_cells S.kind hkind fun env he s1 y => ?_
  subst he
  refine ⟨lim.keeps y.toInCall.keep, codeAny_func ?_⟩
  have ht := hbody cdv A outer s H E (hr.deeper _) (takes_of (X := bodyX P w K mg base N qual scope f cdv A outer s H E) rfl rfl rfl rfl) (passes_of (X := bodyX P w K mg base N qual scope f cdv A outer s H E) rfl)
  have I : Inv (bodyX P w K mg base N qual scope f cdv A outer s H E) [] (L2.start N vs) H s1 := inv_start S hr.room.hd e0 hl r y
  obtain ⟨p, st, ds, rs, rv, hn, q⟩ := hsp
  have hq : tS K cm (Wx E) b { nx := fun _ H' => Q .non H', rt := Q } (L2.start N vs) H := by
    refine ⟨p, _, st, re_start rv, rs, ?_⟩
    unfold defF at q
    rw [if_pos hn, ← hn] at q
    cases e : b (ds.map some ++ List.replicate (N.length - ds.length) none) st with
    | none => rw [e] at q; exact q.elim
    | some rr =>
      rw [e] at q
      cases rr with
      | nx e' s' => exact fun p' H' σ' f rs' _ => q p' H' .non f rs' mk_non
      | rt d s' => exact q
      | bk _ _ => exact q.elim
      | ct _ _ => exact q.elim
      | xc c fs e' s' => exact fun p' H' σ' cls dd f rs' _ rx => q p' H' cls dd f rs' rx
  refine wpAny_mono (ht.run [] s1 (L2.start N vs) H _ I hq) (fun fl s' hs => ?_) fun e s' hs => hs
  have fin : ∀ {σ' : L2.St} {H' : Hp} {v : V} {u : Value}, Inv (bodyX P w K mg base N qual scope f cdv A outer s H E) [] σ' H' s' → RelV v u → Q v H' → CE outer P w H s Q u s' :=
    fun {σ' H' v u} J rv q => ⟨v, H', J.os, J.bare, J.base, J.hok, rv, q⟩
  cases fl with
  | ret u =>
    obtain ⟨v, σ', H', J, rv, q⟩ := hs
    exact fin J rv q
  | next =>
    obtain ⟨σ', H', J, q⟩ := hs
    exact fin (v := V.non) (u := Value.none) J rfl q
  | brk =>
    obtain ⟨_, _, _, q⟩ := hs
    exact False.elim q
  | cont =>
    obtain ⟨_, _, _, q⟩ := hs
    exact False.elim q
end
/-- the defaults that fill up behind the written arguments -/
def BindD (K : PySem.W.Frag) (fd : FuncData) (ps : List Str) (dl : List D) : Prop := ∃ ds dvs, Vals dvs ds ∧ Binds K fd ps ds ∧ ∀ p H, RVs K p H dl dvs
/-- a def that may be called: F its reading, dfls the tails of defaults -/
structure FnV (P : Program) (w : World) (K : PySem.W.Frag) (mg : Str → Option Value) (base : Heap) (cm : CM) (k : Nat) (f : Addr) (F : Fc.F) (dfls : List (List D)) : Prop where
  ex : ∃ n fd ps, FnG P w K mg base k f fd ps (spD K cm n F) ∧ (∀ ds s, ds.length ≠ n → F ds s = none) ∧ ∀ dl ∈ dfls, BindD K fd ps dl
theorem defF_len {np nn : Nat} {b : C} : ∀ ds s, ds.length ≠ np → defF np nn b ds s = none := fun ds s h => by
  unfold defF
  rw [if_neg h]
theorem Po.wish {p : List Addr} {σ : L2.St} {H : Hp} {r : Option (Res D)} {Q : VK} (q : Po K cm W (RV K) p σ H r Q) : Po K cm (Wx fun c d H => W c d σ H) (RV K) p [] H r Q := by
  match r, q with
  | some (.ok d s'), q => exact q
  | some (.exc c fs s'), q => exact q
section
variable {X : Cx} {k j : Nat} {f C : Addr} {F : Fc.F} {dfl : List D} {dfls : List (List D)} {x m : Str} {p pos apos : Pos} {e o : Expr} {es : List Expr} {fl : EL} {fo : E}
/-- the callee runs -/
theorem run_d (V : FnV X.prog X.w X.K X.mg X.base cm k f F dfls) (hr : Rg j X.A) (hk : k ≤ j) (tk : Takes X W) (hd : dfl ∈ dfls) {pins : List (Addr × Obj)} {σ : L2.St} {H : Hp} {s : Shared} {Q : VK} {us : List Value} {vs : List L2.V} {pa : List Addr} {st : S} {ds : List D}
    (I : Inv X pins σ H s) (r : Vals vs us) (rs : RS X.K cm pa st H) (rv : RVs X.K pa H ds vs) (q : Po X.K cm W (RV X.K) pa σ H (F (ds ++ dfl) st) Q) : wpAny (model X.prog X.w) X.A (call (.ref f) us) (EP X pins σ Q) X.xe s := by
  obtain ⟨n, fd, ps, G, ar, bd⟩ := V.ex
  obtain ⟨dd, dvs, r1, hb, r2⟩ := bd dfl hd
  have hn : (ds ++ dfl).length = n := Classical.byContradiction fun z => by
    rw [ar _ _ z] at q; exact q
  have sp : spD X.K cm n F (vs ++ dvs) H Q (fun c d H => W c d σ H) := ⟨pa, st, ds ++ dfl, rs, rv.append (r2 pa H), hn, q.wish⟩
  have r3 : Vals (vs ++ dvs) (us ++ dd) := r.append r1
  have hl : (us ++ dd).length = ps.length := by rw [← r3.length]; exact G.len _ _ _ _ sp
  refine wpAny_call (codeAny_mono (G.run X.A X.stack s H ⟨us, []⟩ (us ++ dd) (vs ++ dvs) Q _ (hr.mono hk) I.env0 (hb s us I.kIn hl) r3 sp) fun r s' hq => ?_)
  cases r with
  | error e => exact tk _ _ (XE.of_call I (fun _ _ _ h => h) hq)
  | ok fl =>
    cases fl with
    | ret u => exact I.after hq
    | next => exact False.elim hq
    | brk => exact False.elim hq
    | cont => exact False.elim hq
/-- a def by its name -/
structure FnAt (P : Program) (w : World) (K : PySem.W.Frag) (mg : Str → Option Value) (base : Heap) (cm : CM) (k : Nat) (x : Str) (F : Fc.F) (dfls : List (List D)) : Prop where
  ex : ∃ f, FnV P w K mg base cm k f F dfls ∧ mg x = some (.ref f) ∧ PySem.W.keepIn K (.ref f) = true
theorem r_call (V : FnAt X.prog X.w X.K X.mg X.base cm k x F dfls) (hr : Rg j X.A) (tk : Takes X W) (hk : k ≤ j) (hd : dfl ∈ dfls) (ha : JA X cm W (e :: es) fl) (hg : Gl X x := by rfl) (hdb : (x == ("__debug__" : Str)) = false := by decide)
    (he : starEach (e :: es) X.env = (false, eval e X.env) :: starEach es X.env := by rfl) (hpl : (backTo pos (starEach es X.env)).any (·.1) = false := by rfl) : JE X cm W (.Call (.Name x p) (e :: es) [] pos) (eCall F dfl fl) := by
  obtain ⟨f, V, hm, kp⟩ := V.ex
  refine ⟨fun pins s σ H Q I h => ?_⟩
  obtain ⟨pa, en, st, re, rs, q⟩ := h
  refine wpAny_Call_Name_kw (ld_glob I hg hm ?_ hdb)
  refine PySem.W.callWith_K (h₀ := X.base) I.ok.mod.kin kp (thn (ha.run pos pins s σ H _ I ⟨pa, en, st, re, rs, Po.bnd (rel1 := RVs X.K) q⟩) fun us s1 ⟨vs, H1, I1, r, q⟩ => ⟨I1.kIn, ?_⟩) he hpl
  obtain ⟨ds, p1, s1', f1, rs1, rv1, q⟩ := q
  exact run_d V hr hk tk hd I1 r rs1 rv1 q
/-- a method -/
structure MtAt (P : Program) (w : World) (K : PySem.W.Frag) (mg : Str → Option Value) (base : Heap) (cm : CM) (k : Nat) (c m : Str) (F : Fc.F) (dfls : List (List D)) : Prop where
  ex : ∃ C f, cm.ins c = some C ∧ L2.Cls K C ∧ Meth K C m f ∧ FnV P w K mg base cm k f F dfls
/-- a class that is called, its __init__ read as F -/
structure MkAt (P : Program) (w : World) (K : PySem.W.Frag) (mg : Str → Option Value) (base : Heap) (cm : CM) (k : Nat) (c : Str) (F : Fc.F) (dfls : List (List D)) : Prop where
  ex : ∃ C f, cm.ins c = some C ∧ L2.Mk K C f ∧ mg c = some (.ref C) ∧ FnV P w K mg base cm k f F dfls
end
/-- no error leaves a block -/
theorem takes_blk {X : Cx} : Takes X Wf := fun u s' ⟨_, _, _, _, _, _, _, _, _, _, _, _, _, _, _, _, w⟩ => w.elim
end Fc
namespace Fc
open PySem
def enc (s : S) (d : D) : PyData := (dat s 60 d).getD .none
def sortKind (xs : List PyData) : Bool := (xs.all fun x => match x with
  | .tuple (_ :: _) => true
  | _ => false) || xs.all fun x => match x with
  | .none => false
  | .tuple _ => false
  | _ => true
def sortOk (s : S) (ds : List D) : Bool := (dats s 60 ds).isSome && sz ds.length && ((ds.map (enc s)).all fun x => (ds.map (enc s)).all fun y => PySem.W.alike x y) && sortKind (ds.map (enc s))
def sortD (s : S) (ds : List D) : List D := ds.mergeSort (PySem.W.dataLe false (enc s))
def fSorted : List D → M D := fun xs s => match xs with
  | [.ref n] => match s[n]? with
    | some (.lst ds) => if sortOk s ds then new (.lst (sortD s ds)) s else none
    | _ => none
  | _ => none
def lexI : List Int → List Int → Bool
  | [], _ :: _ => true
  | a :: r, b :: t => decide (a < b) || (decide (a = b) && lexI r t)
  | _, _ => false
def putI (x : List Int) : List (List Int) → List (List Int)
  | [] => [x]
  | y :: r => if lexI x y then x :: y :: r else if x = y then y :: r else y :: putI x r
def sortI : List (List Int) → List (List Int)
  | [] => []
  | x :: r => putI x (sortI r)
def tupI : List D → Option (List (List Int))
  | [] => some []
  | .tup es :: r => match intsD es, tupI r with
    | some x, some xs => some (x :: xs)
    | _, _ => none
  | _ :: _ => none
def setOk (xs : List (List Int)) : Bool := decide (xs.length < 64) && match xs with
  | [] => true
  | x :: _ => decide (1 ≤ x.length) && xs.all fun y => decide (y.length = x.length) && y.all fun i => decide (0 ≤ i)
def fSortSet : List D → M D := fun xs s => match xs with
  | [.ref n] => match s[n]? with
    | some (.lst ds) => match tupI ds with
      | some ns => if setOk ns then new (.lst ((sortI ns).map fun x => .tup (x.map .int))) s else none
      | none => none
    | _ => none
  | _ => none
def fRepr : List D → M D := fun xs s => match xs with
  | [d] => match dat s 60 d with
    | some x => if x.showable && sz x.shown.length then some (.ok (.str x.shown) s) else none
    | none => none
  | _ => none
/-- a, b, c = e1, e2, e3 with three plain names -/
def cPar3 (i j l : Nat) (es : EL) : C := fun σ s => ex σ (es σ s) fun ds s' => match ds with
  | [x, y, z] => some (.nx (((σ.set i (some x)).set j (some y)).set l (some z)) s')
  | _ => none
/-- what no run reaches -/
def cNever : C := fun _ _ => none
/-- xs[::-1] of a list -/
def oRevL : D → M D := fun x s => match x with
  | .ref n => match s[n]? with
    | some (.lst ds) => new (.lst ds.reverse) s
    | _ => none
  | _ => none
end Fc
namespace Fc
open PySem PySem.Spec PyProof.Rows L2
variable {cm : CM} {W : WX}
section
variable {K : PySem.W.Frag}
mutual
theorem dat_depth (s : S) : ∀ (n : Nat) (d : D) {x : PyData}, dat s n d = some x → x.depth ≤ n
  | n, .non, x, h => by cases n <;> (simp only [dat] at h; cases h; simp [PyData.depth])
  | n, .bl b, x, h => by cases n <;> (simp only [dat] at h; cases h; simp [PyData.depth])
  | n, .int b, x, h => by cases n <;> (simp only [dat] at h; cases h; simp [PyData.depth])
  | n, .str b, x, h => by cases n <;> (simp only [dat] at h; cases h; simp [PyData.depth])
  | n, .rol b, x, h => by cases n <;> (simp only [dat] at h; cases h)
  | 0, .tup b, x, h => by simp only [dat] at h; cases h
  | 0, .ref b, x, h => by simp only [dat] at h; cases h
  | 0, .stu b, x, h => by simp only [dat] at h; cases h
  | n + 1, .tup ds, x, h => by
    simp only [dat, Option.map_eq_some_iff] at h
    obtain ⟨xs, h, rfl⟩ := h
    have := dats_depth s n ds h
    simp only [PyData.depth]
    omega
  | n + 1, .stu ds, x, h => by
    simp only [dat, Option.map_eq_some_iff] at h
    obtain ⟨xs, h, rfl⟩ := h
    have := dats_depth s n ds h
    simp only [PyData.depth]
    omega
  | n + 1, .ref a, x, h => by
    simp only [dat] at h
    split at h
    · rename_i ds hl
      obtain ⟨xs, h', rfl⟩ := Option.map_eq_some_iff.mp h
      have := dats_depth s n ds h'
      simp only [PyData.depth]
      omega
    · cases h
theorem dats_depth (s : S) : ∀ (n : Nat) (ds : List D) {xs : List PyData}, dats s n ds = some xs → PyData.depthAll xs ≤ n
  | n, [], xs, h => by cases n <;> (simp only [dats] at h; cases h; simp [PyData.depthAll])
  | n, d :: ds, xs, h => by
    simp only [dats] at h
    split at h
    · rename_i x xs' e1 e2
      cases h
      have h1 := dat_depth s n d e1
      have h2 := dats_depth s n ds e2
      simp only [PyData.depthAll]
      omega
    · cases h
end
mutual
theorem dat_nod (s : S) : ∀ (n : Nat) (d : D) {x : PyData}, dat s n d = some x → x.hasDict = false
  | n, .non, x, h => by cases n <;> (simp only [dat] at h; cases h; simp [PyData.hasDict])
  | n, .bl b, x, h => by cases n <;> (simp only [dat] at h; cases h; simp [PyData.hasDict])
  | n, .int b, x, h => by cases n <;> (simp only [dat] at h; cases h; simp [PyData.hasDict])
  | n, .str b, x, h => by cases n <;> (simp only [dat] at h; cases h; simp [PyData.hasDict])
  | n, .rol b, x, h => by cases n <;> (simp only [dat] at h; cases h)
  | 0, .tup b, x, h => by simp only [dat] at h; cases h
  | 0, .ref b, x, h => by simp only [dat] at h; cases h
  | 0, .stu b, x, h => by simp only [dat] at h; cases h
  | n + 1, .tup ds, x, h => by
    simp only [dat, Option.map_eq_some_iff] at h
    obtain ⟨xs, h, rfl⟩ := h
    simp only [PyData.hasDict]
    exact dats_nod s n ds h
  | n + 1, .stu ds, x, h => by
    simp only [dat, Option.map_eq_some_iff] at h
    obtain ⟨xs, h, rfl⟩ := h
    simp only [PyData.hasDict]
    exact dats_nod s n ds h
  | n + 1, .ref a, x, h => by
    simp only [dat] at h
    split at h
    · rename_i ds hl
      obtain ⟨xs, h', rfl⟩ := Option.map_eq_some_iff.mp h
      simp only [PyData.hasDict]
      exact dats_nod s n ds h'
    · cases h
theorem dats_nod (s : S) : ∀ (n : Nat) (ds : List D) {xs : List PyData}, dats s n ds = some xs → PyData.hasDictAll xs = false
  | n, [], xs, h => by cases n <;> (simp only [dats] at h; cases h; simp [PyData.hasDictAll])
  | n, d :: ds, xs, h => by
    simp only [dats] at h
    split at h
    · rename_i x xs' e1 e2
      cases h
      simp only [PyData.hasDictAll, dat_nod s n d e1, dats_nod s n ds e2, Bool.or_false]
    · cases h
end
theorem dats_enc {s : S} : ∀ {ds : List D} {xs : List PyData}, dats s 60 ds = some xs → (∀ d ∈ ds, dat s 60 d = some (enc s d))
  | [], _, _, d, h => by cases h
  | e :: ds, xs, h, d, hd => by
    simp only [dats] at h
    split at h
    · rename_i x xs' e1 e2
      rcases List.mem_cons.mp hd with rfl | hd
      · unfold enc; rw [e1]; rfl
      · exact dats_enc e2 d hd
    · cases h
/-- values and what they read as, side by side -/
theorem each_of {p : List Addr} {H : Hp} {R : Value → D → Prop} : ∀ {ds : List D} {vs : List L2.V} {us : List Value}, RVs K p H ds vs → Vals vs us → (∀ d ∈ ds, ∀ v u, RV K p H d v → RelV v u → R u d) → PySem.W.EachIs R us ds
  | [], _, _, r, v, h => by
    simp only [RVs] at r; subst r
    cases v; exact .nil
  | d :: ds, _, _, r, v, h => by
    simp only [RVs] at r
    obtain ⟨x, r', rfl, r1, r2⟩ := r
    cases v with
    | cons a b => exact .cons (h d (List.mem_cons_self ..) x _ r1 a) (each_of r2 b fun d' hd => h d' (List.mem_cons_of_mem _ hd))
theorem of_each {p : List Addr} {H : Hp} : ∀ {ds : List D} {us : List Value}, PySem.W.EachIs (fun u d => ∃ v, RV K p H d v ∧ RelV v u) us ds → ∃ vs, RVs K p H ds vs ∧ Vals vs us
  | [], _, h => by cases h; exact ⟨[], by simp [RVs], .nil⟩
  | d :: ds, _, h => by
    cases h with
    | cons a b =>
      obtain ⟨v, h1, h2⟩ := a
      obtain ⟨vs, h3, h4⟩ := of_each b
      refine ⟨v :: vs, ?_, .cons h2 h4⟩
      simp only [RVs]
      exact ⟨v, vs, rfl, h1, h3⟩
end
section
variable {X : Cx}
theorem s_sorted {k : Nat} (hr : Room k X.A) : SN X cm (.builtin "sorted") fSorted := by
  refine ⟨fun vs H Q => ∃ W p s σ ds, RS X.K cm p s H ∧ RVs X.K p H ds vs ∧ Po X.K cm W (RV X.K) p σ H (fSorted ds s) Q, ?_, fun W p s σ H vs ds Q rs r q => ⟨W, p, s, σ, ds, rs, r, q⟩⟩
  rintro pins s σ H vs us Q I ru ⟨W, p, st, σ', ds, rs, rv, q⟩
  unfold fSorted at q
  split at q
  · rename_i n
    split at q
    · rename_i ds hn
      split at q
      · rename_i hok
        obtain ⟨x, rfl, rx⟩ := one_rv rv
        obtain ⟨a, ws, rfl, hp, ha, rw'⟩ := lst_at rs rx hn
        obtain ⟨its, r2, hl, hz⟩ := I.list (SqL.of (K := X.K) ha)
        rw [Vals.ref1 ru]
        unfold sortOk at hok
        simp only [Bool.and_eq_true, List.all_eq_true] at hok
        obtain ⟨⟨⟨h1, h2⟩, h3⟩, h4⟩ := hok
        obtain ⟨xs, h1⟩ := Option.isSome_iff_exists.mp h1
        have he := dats_enc h1
        have hal : PySem.W.AllAlike (ds.map (enc st)) := fun d hd d' hd' => h3 d hd d' hd'
        have hk : PySem.W.Sortable (ds.map (enc st)) := by
          unfold sortKind at h4
          rw [Bool.or_eq_true, List.all_eq_true, List.all_eq_true] at h4
          rcases h4 with h4 | h4
          · refine .inl fun d hd => ?_
            have := h4 d hd
            split at this
            · exact ⟨_, _, rfl⟩
            · cases this
          · refine .inr fun d hd => ?_
            have := h4 d hd
            split at this
            · cases this
            · cases this
            · rename_i g1 g2
              exact ⟨fun z => g1 z, fun xs z => g2 xs z⟩
        refine PySem.W.sorted_data (R := fun u d => ∃ v, RV X.K p H d v ∧ RelV v u) (bs := ds) (enc := enc st) hl.isList (each_of rw' r2 fun d hd v u h1 h2 => ⟨v, h1, h2⟩)
          (each_of rw' r2 fun d hd v u h1 h2 => Dp.reads I _ v u (dat_ok rs 60 d h1 (he d hd)) h2) hal hk (sz_ok h2) (fun b hb => ?_) fun out ho eo => ?_
        · have := dat_depth st 60 b (he b hb)
          have := hr.units
          omega
        · obtain ⟨ys, y1, y2⟩ := of_each eo
          obtain ⟨c, hc⟩ := sortedAll_at s.heap its out.toArray
          have hd : H (s.heap.objs.size + 1) = none := I.hok.fresh (Nat.le_succ _)
          refine ⟨.ref (s.heap.objs.size + 1), upd H (s.heap.objs.size + 1) (.lst ys), I.laid (t' := s.toks) (fun b o e => sortedAll_old e) (Nat.le_succ _) ⟨?_, out, c, y2, hc⟩, rfl, ?_⟩
          · rw [y2.length, ho]
            exact sz_ok h2
          · exact Po.newl q rs y1 hd
      · exact q.elim
    · exact q.elim
  · exact q.elim
end
theorem lexI_irr : ∀ a, lexI a a = false
  | [] => rfl
  | a :: r => by simp [lexI, lexI_irr r]
theorem lexI_trans : ∀ {a b c : List Int}, lexI a b = true → lexI b c = true → lexI a c = true
  | [], _ :: _, [], _, h => by simp [lexI] at h
  | [], _ :: _, _ :: _, _, _ => rfl
  | [], [], _, h, _ => by simp [lexI] at h
  | _ :: _, [], _, h, _ => by simp [lexI] at h
  | _ :: _, _ :: _, [], _, h => by simp [lexI] at h
  | a :: r, b :: t, c :: u, h1, h2 => by
    simp only [lexI, Bool.or_eq_true, Bool.and_eq_true, decide_eq_true_eq] at h1 h2 ⊢
    rcases h1 with h1 | ⟨e1, h1⟩
    · rcases h2 with h2 | ⟨e2, h2⟩
      · exact .inl (by omega)
      · exact .inl (by omega)
    · rcases h2 with h2 | ⟨e2, h2⟩
      · exact .inl (by omega)
      · exact .inr ⟨by omega, lexI_trans h1 h2⟩
theorem lexI_tot : ∀ {a b : List Int}, a.length = b.length → a ≠ b → lexI a b = false → lexI b a = true
  | [], [], _, h, _ => absurd rfl h
  | [], _ :: _, l, _, _ => by simp at l
  | _ :: _, [], l, _, _ => by simp at l
  | a :: r, b :: t, l, h, k => by
    simp only [lexI, Bool.or_eq_false_iff, decide_eq_false_iff_not] at k
    simp only [lexI, Bool.or_eq_true, Bool.and_eq_true, decide_eq_true_eq]
    by_cases e : a = b
    · subst e
      refine .inr ⟨rfl, lexI_tot (by simpa using l) (fun z => h (by rw [z])) ?_⟩
      have := k.2
      simpa using this
    · exact .inl (by omega)
theorem code_lex {B : Int} : ∀ {a b : List Int}, a.length = b.length → TS.Bd B a → TS.Bd B b → TS.code B a ≤ TS.code B b → a = b ∨ lexI a b = true
  | [], [], _, _, _, _ => .inl rfl
  | [], _ :: _, l, _, _, _ => by simp at l
  | _ :: _, [], l, _, _, _ => by simp at l
  | a :: r, b :: t, l, ha, hb, h => by
    have l' : r.length = t.length := by simpa using l
    have bd : ∀ {x : List Int}, TS.Bd B x → 0 ≤ TS.code B x ∧ TS.code B x < B ^ x.length := by
      intro x
      induction x with
      | nil => intro _; simp [TS.code]
      | cons y x ih =>
        intro hx
        obtain ⟨i1, i2⟩ := ih hx.tail
        obtain ⟨j1, j2⟩ := hx.head
        have := TS.num1 (P := B ^ x.length) (d := y) (B := B) (c := TS.code B x) i1 i2 j1 j2
        simp only [TS.code, List.length_cons, Int.pow_succ]
        exact this
    obtain ⟨r1, r2⟩ := bd ha.tail
    obtain ⟨t1, t2⟩ := bd hb.tail
    simp only [TS.code] at h
    rw [← l'] at h t2
    have hP : 0 < B ^ r.length := by omega
    simp only [lexI, Bool.or_eq_true, Bool.and_eq_true, decide_eq_true_eq]
    rcases Int.lt_trichotomy a b with z | z | z
    · exact .inr (.inl z)
    · subst z
      rcases code_lex l' ha.tail hb.tail (by omega) with z | z
      · exact .inl (by rw [z])
      · exact .inr (.inr ⟨rfl, z⟩)
    · exfalso
      have h1 : (b + 1) * B ^ r.length ≤ a * B ^ r.length := Int.mul_le_mul_of_nonneg_right (by omega) (by omega)
      rw [Int.add_mul, Int.one_mul] at h1
      omega
theorem putI_mem {x z : List Int} : ∀ {l : List (List Int)}, z ∈ putI x l ↔ z = x ∨ z ∈ l
  | [] => by simp [putI]
  | y :: r => by
    unfold putI
    split
    · simp
    · split
      · rename_i h; subst h; simp
      · simp [putI_mem (l := r)]
        constructor
        · rintro (h | h | h) <;> simp [h]
        · rintro (h | h | h) <;> simp [h]
theorem sortI_mem {z : List Int} : ∀ {l : List (List Int)}, z ∈ sortI l ↔ z ∈ l
  | [] => by simp [sortI]
  | x :: r => by simp [sortI, putI_mem, sortI_mem (l := r)]
theorem putI_srt {d : Nat} {x : List Int} (hx : x.length = d) : ∀ {l : List (List Int)}, (∀ y ∈ l, y.length = d) → l.Pairwise (fun a b => lexI a b = true) → (putI x l).Pairwise (fun a b => lexI a b = true)
  | [], _, _ => by simp [putI]
  | y :: r, hl, h => by
    obtain ⟨h1, h2⟩ := List.pairwise_cons.mp h
    unfold putI
    split
    · rename_i e
      refine List.pairwise_cons.mpr ⟨fun z hz => ?_, h⟩
      rcases List.mem_cons.mp hz with rfl | hz
      · exact e
      · exact lexI_trans e (h1 z hz)
    · split
      · exact h
      · rename_i e ne
        refine List.pairwise_cons.mpr ⟨fun z hz => ?_, putI_srt hx (fun y hy => hl y (List.mem_cons_of_mem _ hy)) h2⟩
        rcases putI_mem.mp hz with rfl | hz
        · exact lexI_tot (by rw [hx, hl y (List.mem_cons_self ..)]) ne (by simpa using e)
        · exact h1 z hz
theorem sortI_srt {d : Nat} : ∀ {l : List (List Int)}, (∀ y ∈ l, y.length = d) → (sortI l).Pairwise (fun a b => lexI a b = true)
  | [], _ => by simp [sortI]
  | x :: r, h => putI_srt (h x (List.mem_cons_self ..)) (fun y hy => h y (List.mem_cons_of_mem _ (sortI_mem.mp hy))) (sortI_srt fun y hy => h y (List.mem_cons_of_mem _ hy))
theorem srt_uniq : ∀ {l m : List (List Int)}, l.Pairwise (fun a b => lexI a b = true) → m.Pairwise (fun a b => lexI a b = true) → (∀ z, z ∈ l ↔ z ∈ m) → l = m
  | [], [], _, _, _ => rfl
  | [], y :: m, _, _, h => by have := (h y).mpr (List.mem_cons_self ..); simp at this
  | x :: l, [], _, _, h => by have := (h x).mp (List.mem_cons_self ..); simp at this
  | x :: l, y :: m, h1, h2, h => by
    obtain ⟨a1, a2⟩ := List.pairwise_cons.mp h1
    obtain ⟨b1, b2⟩ := List.pairwise_cons.mp h2
    have exy : x = y := by
      rcases List.mem_cons.mp ((h x).mp (List.mem_cons_self ..)) with e | e
      · exact e
      · rcases List.mem_cons.mp ((h y).mpr (List.mem_cons_self ..)) with e' | e'
        · exact e'.symm
        · have := lexI_trans (b1 x e) (a1 y e')
          rw [lexI_irr] at this; cases this
    subst exy
    congr 1
    refine srt_uniq a2 b2 fun z => ?_
    constructor
    · intro hz
      rcases List.mem_cons.mp ((h z).mp (List.mem_cons_of_mem _ hz)) with e | e
      · subst e; have := a1 z hz; rw [lexI_irr] at this; cases this
      · exact e
    · intro hz
      rcases List.mem_cons.mp ((h z).mpr (List.mem_cons_of_mem _ hz)) with e | e
      · subst e; have := b1 z hz; rw [lexI_irr] at this; cases this
      · exact e
section
variable {X : Cx}
theorem tupI_rv {K : PySem.W.Frag} {p : List Addr} {H : Hp} : ∀ {ds : List D} {ns : List (List Int)} {vs : List L2.V}, tupI ds = some ns → RVs K p H ds vs → ∃ ks : List (Addr × List Int), vs = ks.map (fun q => L2.V.ref q.1) ∧ ks.map (·.2) = ns ∧ ∀ q ∈ ks, H q.1 = some (.tup (q.2.map L2.V.int))
  | [], ns, vs, h, r => by
    simp only [tupI] at h; cases h
    simp only [RVs] at r; subst r
    exact ⟨[], rfl, rfl, fun q hq => by cases hq⟩
  | d :: ds, ns, vs, h, r => by
    simp only [RVs] at r
    obtain ⟨v, r', rfl, r1, r2⟩ := r
    cases d with
    | tup es =>
      simp only [tupI] at h
      split at h
      · rename_i x xs e1 e2
        cases h
        obtain ⟨a, ws, rfl, ha, rw'⟩ := rv_tup r1
        have ew := intsD_rv e1 rw'
        subst ew
        obtain ⟨ks, k1, k2, k3⟩ := tupI_rv e2 r2
        refine ⟨(a, x) :: ks, by rw [k1]; rfl, by rw [← k2]; rfl, fun q hq => ?_⟩
        rcases List.mem_cons.mp hq with rfl | hq
        · exact ha
        · exact k3 q hq
      · cases h
    | _ => simp only [tupI] at h; cases h
theorem rvs_ints {K : PySem.W.Frag} {p : List Addr} {H : Hp} : ∀ xs : List Int, RVs K p H (xs.map D.int) (xs.map L2.V.int)
  | [] => by simp [RVs]
  | x :: xs => by
    simp only [List.map_cons, RVs]
    exact ⟨_, _, rfl, mk_int x, rvs_ints xs⟩
theorem rvs_tups {K : PySem.W.Frag} {p : List Addr} {H : Hp} : ∀ {ks : List (Addr × List Int)}, (∀ q ∈ ks, H q.1 = some (.tup (q.2.map L2.V.int))) → RVs K p H ((ks.map (·.2)).map fun x => D.tup (x.map .int)) (ks.map fun q => L2.V.ref q.1)
  | [], _ => by simp [RVs]
  | q :: ks, h => by
    simp only [List.map_cons, RVs]
    exact ⟨_, _, rfl, mk_tup (h q (List.mem_cons_self ..)) (rvs_ints _), rvs_tups fun z hz => h z (List.mem_cons_of_mem _ hz)⟩
theorem le_max : ∀ (xs : List Int) (x : Int), x ∈ xs → x ≤ xs.foldr max 0
  | a :: r, x, h => by
    simp only [List.foldr_cons]
    rcases List.mem_cons.mp h with rfl | h
    · omega
    · have := le_max r x h
      omega
theorem r_sortset {a : Expr} {fa : E} {k : Nat} {p1 p2 pos pos2 : Pos} (hc : X.calm = true) (hr : Room k X.A) (hm1 : X.mg "sorted" = none) (hm2 : X.mg "set" = none) (ha : JE X cm W a fa) (hg1 : Gl X "sorted" := by rfl) (hg2 : Gl X "set" := by rfl)
    (he : starEach [a] X.env = (false, eval a X.env) :: starEach [] X.env := by rfl) (he2 : starEach [.Call (.Name "set" p2) [a] [] pos2] X.env = (false, eval (.Call (.Name "set" p2) [a] [] pos2) X.env) :: starEach [] X.env := by rfl) (hpl : (backTo pos (starEach [] X.env)).any (·.1) = false := by rfl) (hpl2 : (backTo pos2 (starEach [] X.env)).any (·.1) = false := by rfl) :
    JE X cm W (.Call (.Name "sorted" p1) [.Call (.Name "set" p2) [a] [] pos2] [] pos) (eN fSortSet (lCons fa lNil)) := by
  refine (pe_callB (cr_sortedT hc) hg1 hm1 (by decide +kernel) (pa_cons (pe_callTy (cr_setOfT hc hr.units) hg2 hm2 (by decide +kernel) (r_cons ha r_nil he) (by decide) (by decide) he hpl2) pa_nil he2) (by decide) (by decide) he2 hpl).imp fun σ H Q q => ?_
  obtain ⟨p, e, s, re, rs, q⟩ := tD.args q
  refine ⟨p, e, s, re, rs, q.imp ?_⟩
  rintro xs H1 ⟨p, e, s, ds, re, rs, rv, q⟩
  unfold fSortSet at q
  split at q
  · rename_i n
    split at q
    · rename_i ds hn
      split at q
      · rename_i ns hns
        split at q
        · rename_i hok
          obtain ⟨x, rfl, rx⟩ := one_rv rv
          obtain ⟨l, vs, rfl, hp, hl, rl⟩ := lst_at rs rx hn
          obtain ⟨ks, rfl, kn, kt⟩ := tupI_rv hns rl
          unfold setOk at hok
          rw [Bool.and_eq_true] at hok
          obtain ⟨h64, hok⟩ := hok
          have hlen : ks.length < 64 := by
            have := of_decide_eq_true h64
            rw [← kn, List.length_map] at this
            exact this
          -- one length, entries at least 0
          have hd : ∃ d : Nat, 1 ≤ d ∧ ∀ y ∈ ns, y.length = d ∧ ∀ i ∈ y, 0 ≤ i := by
            cases hns' : ns with
            | nil => exact ⟨1, Nat.le_refl _, fun y hy => by cases hy⟩
            | cons x r =>
              rw [hns'] at hok
              simp only [Bool.and_eq_true, decide_eq_true_eq, List.all_eq_true] at hok
              exact ⟨x.length, hok.1, fun y hy => hok.2 y hy⟩
          obtain ⟨d, hd1, hdy⟩ := hd
          refine ⟨l, ks, rfl, SqL.of hl, fun q hq => SqT.of (kt q hq), hlen, fun a L hna hL hk => ?_⟩
          have sm := same_new (u := SetTO X.prog X.w a L) hna
          have hLt : ∀ q ∈ L, upd H1 a (SetTO X.prog X.w a L) q.1 = some (.tup (q.2.map L2.V.int)) := fun q hq => sm _ _ (kt q (hL q hq))
          have hLn : ∀ q ∈ L, q.2 ∈ ns := fun q hq => by rw [← kn]; exact List.mem_map.mpr ⟨q, hL q hq, rfl⟩
          refine ⟨a, L, d, ns.flatten.foldr max 0 + 1, rfl, upd_same, fun q hq => SqT.of (hLt q hq), hd1, fun q hq => ⟨(hdy _ (hLn q hq)).1, fun m hm => ⟨(hdy _ (hLn q hq)).2 m hm, ?_⟩⟩, fun L' b pm nd _ pw hb => ?_⟩
          · have := le_max ns.flatten m (List.mem_flatten.mpr ⟨_, hLn q hq, hm⟩)
            omega
          · have hL' : ∀ q ∈ L', q ∈ L := fun q hq => pm.mem_iff.mp hq
            have e1 : L'.map (·.2) = sortI ns := by
              refine srt_uniq ?_ (sortI_srt fun y hy => (hdy y hy).1) fun z => ?_
              · have nd' := List.pairwise_map.mp nd
                refine List.pairwise_map.mpr ((pw.and nd').imp_of_mem ?_)
                rintro q r hq hr ⟨h1, h2⟩
                have b1 := hdy _ (hLn q (hL' q hq))
                have b2 := hdy _ (hLn r (hL' r hr))
                have bd : ∀ q ∈ L', TS.Bd (ns.flatten.foldr max 0 + 1) q.2 := fun q hq m hm => ⟨(hdy _ (hLn q (hL' q hq))).2 m hm, by
                  have := le_max ns.flatten m (List.mem_flatten.mpr ⟨_, hLn q (hL' q hq), hm⟩)
                  omega⟩
                exact (code_lex (by rw [b1.1, b2.1]) (bd q hq) (bd r hr) h1).resolve_left h2
              · rw [sortI_mem]
                constructor
                · intro hz
                  obtain ⟨q, hq, rfl⟩ := List.mem_map.mp hz
                  exact hLn q (hL' q hq)
                · intro hz
                  rw [← kn] at hz
                  obtain ⟨q, hq, rfl⟩ := List.mem_map.mp hz
                  obtain ⟨r, hr, e⟩ := List.mem_map.mp (hk q hq)
                  exact List.mem_map.mpr ⟨r, pm.mem_iff.mpr hr, e⟩
            refine Po.newl (Po.fut q (Fut.same sm)) (rs.same sm) ?_ hb
            rw [← e1]
            exact rvs_tups fun q hq => hLt q (hL' q hq)
        · exact q.elim
      · exact q.elim
    · exact q.elim
  · exact q.elim
theorem s_repr {k : Nat} (hr : Rg k X.A) : SN X cm (.builtin "repr") fRepr := by
  refine ⟨fun vs H Q => ∃ W p s σ ds, RS X.K cm p s H ∧ RVs X.K p H ds vs ∧ Po X.K cm W (RV X.K) p σ H (fRepr ds s) Q, ?_, fun W p s σ H vs ds Q rs r q => ⟨W, p, s, σ, ds, rs, r, q⟩⟩
  rintro pins s σ H vs us Q I ru ⟨W, p, st, σ', ds, rs, rv, q⟩
  unfold fRepr at q
  split at q
  · rename_i d
    split at q
    · rename_i x hx
      split at q
      · rename_i hok
        obtain ⟨v, rfl, rx⟩ := one_rv rv
        cases ru with
        | cons r1 rn =>
          rename_i u us'
          cases rn
          rw [Bool.and_eq_true] at hok
          have hz := sz_ok hok.2
          have hs := hok.1
          have dp := dat_depth st 60 d hx
          have hu := hr.room.units
          have hD := dat_ok rs 60 d rx hx
          have fin : ∀ tk, EP X pins σ Q (.str x.shown tk) { s with toks := s.toks + 1 } := fun tk => ⟨.str x.shown, H, I.tok _, ⟨tk, rfl⟩, Po.ok q rs (mk_str _)⟩
          have hq' : ∀ h' u tk, (∀ b o, s.heap.get? b = some o → h'.get? b = some o) → EP X pins σ Q (.str x.shown u) { s with heap := h', toks := tk } := fun h' u tk k => ⟨.str x.shown, H, I.kept k, ⟨u, rfl⟩, Po.ok q rs (mk_str _)⟩
          cases hD with
          | non =>
            cases r1
            simp only [PyData.shown] at fin hz
            exact PySem.P.repr_of_none (fin _)
          | bl b =>
            cases r1
            simp only [PyData.shown] at fin hz
            exact PySem.P.repr_of_bool (fin _)
          | int i =>
            obtain ⟨t, rfl⟩ := r1
            simp only [PyData.shown] at fin hz
            exact PySem.P.repr_of_int (by simpa [PyData.showable] using hs) (fin _)
          | str y =>
            obtain ⟨t, rfl⟩ := r1
            simp only [PyData.shown] at fin hz
            exact PySem.P.repr_of_str (fin _) hz
          | lst h1 h2 =>
            cases r1
            obtain ⟨as, rd⟩ := Dp.reads I _ _ _ (Dp.lst h1 h2) rfl
            exact repr_of_reads' rd hs (fun z => by rw [dat_nod st 60 d hx] at z; cases z) hr.gd (by omega) (fun _ _ e => e) hq' hz
          | tup h1 h2 =>
            cases r1
            obtain ⟨as, rd⟩ := Dp.reads I _ _ _ (Dp.tup h1 h2) rfl
            exact repr_of_reads' rd hs (fun z => by rw [dat_nod st 60 d hx] at z; cases z) hr.gd (by omega) (fun _ _ e => e) hq' hz
      · exact q.elim
    · exact q.elim
  · exact q.elim
end
end Fc
namespace Fc
open PySem PySem.Spec PyProof.Rows L2
variable {K : PySem.W.Frag} {cm : CM}
/-- the law's def, called with the script: any heap that tracks the script alone -/
theorem law_run {P : Program} {w : World} {mg mb : Str → Option Value} {k : Nat} {fa a : Addr} {fd : FuncData} {x : Str} {Fn : Fc.F} {s1 : Shared} {vs : List Value} {ns : List Int} {H : Hp}
    (KX : K.In s1.heap) (hns : s1.heap.Ns mainGlobals mg) (hb : s1.heap.Ns builtinsNs mb) (hbb : ∀ x : Str, x ≠ "__name__" → mb x = bootBuiltins x) (hlim : s1.heap.NoLimit) (hg : s1.gens = #[])
    (ha : s1.heap.get? a = some { cls := .type "list", data := .seq vs.toArray }) (hr : Rg k callerA)
    (F : ∀ base : Heap, K.In base → base.Ns mainGlobals mg → FnG P w K mg base k fa fd [x] (spD K cm 1 Fn)) (hbind : ∀ (s : Shared) (u : Value), BindsTo s fd ⟨[u], []⟩ [(x, u)])
    (hF : ∃ s', Fn [.rol (ns.map D.int)] [] = some (.ok (.bl true) s')) (hO : Only H) (hS : SqL K H a (ns.map V.int)) (hok : HOk P w H s1.heap) (hA : ∀ b, H b ≠ none → b = a) (hK : H a ≠ none → K.lookup a = none) :
    codeAny (model P w) callerA (.call (.ref fa) ⟨[.ref a], []⟩) (fun r s' => r = .ok (.ret (.bool true)) ∧ OldK s1.heap s'.heap ∧ s'.os = s1.os ∧ AllBare s'.gens) s1 := by
  have out : ∀ {b : Addr}, H b = none ∨ b = a := fun {b} => by
    cases q : H b with
    | none => exact .inl rfl
    | some u => exact .inr (hA b (by rw [q]; simp))
  have stays : ∀ {b : Addr} {o : Obj}, s1.heap.get? b = some o → H b = none → (hidT s1.heap H).get? b = some o := fun e n => hidT_get e n
  have nsK : ∀ {b : Addr} {m : Str → Option Value}, s1.heap.Ns b m → (hidT s1.heap H).Ns b m := fun {b m} ⟨o, es, ep, e, d, r⟩ => by
    refine ⟨o, es, ep, stays e ?_, d, r⟩
    rcases out (b := b) with z | rfl
    · exact z
    · rw [ha] at e; cases e
      have d' : Data.seq vs.toArray _ = Data.dict es ep := d
      cases d'
  have hKb : K.In (hidT s1.heap H) := fun b o e => stays (KX b o e) (by
    rcases out (b := b) with z | rfl
    · exact z
    · cases q : H b with
      | none => rfl
      | some u => rw [hK (by rw [q]; simp)] at e; cases e)
  have hM : Mod K mg (hidT s1.heap H) := ⟨hKb, nsK hns, ⟨mb, nsK hb, hbb⟩, let ⟨mc, h1, h2⟩ := hlim; ⟨mc, nsK h1, h2⟩⟩
  have noFr : ∀ b : Addr, b ∉ frs [] := fun b z => absurd (show b ∈ ([] : List Addr) from z) (by simp)
  have e0 : Env0 P w K mg (hidT s1.heap H) callerA [] s1 H := ⟨rfl, hM, fun b o e => of_hidT e, Nat.le_of_eq (hidT_size _ _), trivial, fun b z => absurd z (noFr b), hok, .of_eq hg⟩
  obtain ⟨sF, hF⟩ := hF
  have sp : spD K cm 1 Fn [V.ref a] H (fun v _ => v = .bl true) (fun _ _ _ => False) := by
    refine ⟨[], [], [.rol (ns.map D.int)], ⟨rfl, List.nodup_nil, fun n o b h => by simp at h⟩, ?_, rfl, ?_⟩
    · simp only [RVs, RV]
      exact ⟨_, _, rfl, ⟨a, _, rfl, RolAt.of hO hS, rvs_ints ns⟩, rfl⟩
    · rw [hF]
      exact fun p' H' v _ _ rv => rv_bl rv
  refine codeAny_mono ((F _ hKb (nsK hns)).run callerA [] s1 H ⟨[.ref a], []⟩ [.ref a] [V.ref a] _ _ hr e0 (hbind s1 (.ref a)) (.cons rfl .nil) sp) fun r s' h => ?_
  cases r with
  | error e =>
    obtain ⟨_, _, _, _, _, _, _, _, _, _, _, _, z⟩ := h
    exact z.elim
  | ok fl =>
    cases fl with
    | next => exact h.elim
    | brk => exact h.elim
    | cont => exact h.elim
    | ret u =>
      obtain ⟨v, H', os, bare, un, hok', r', q⟩ := h
      have q' : v = .bl true := q
      subst q'
      obtain rfl : u = Value.bool true := r'
      refine ⟨rfl, OldK.of_keep fun b o e => ?_, os, bare⟩
      cases q : H b with
      | none => exact un.keep b o e q (noFr b) (by simp)
      | some u =>
        rcases hO b with z | ⟨ob, xs, z⟩
        · rw [q] at z; cases z
        · have z2 := un.frzs b ob _ z
          obtain ⟨e1, _⟩ := hok b _ z
          obtain ⟨e2, _⟩ := hok' b _ z2
          rw [e] at e1; cases e1
          exact e2
/-- a law, from its def's reading -/
theorem walk_law {l : PySem.W.OpenLaw} {n k : Nat} {q : Program} {loose : List Str} {XP : (Str → Option Value) → Heap → Prop} {YP : World → Heap → Prop} {d : DefRec} {x : Str} {Fn : Fc.F}
    (hn : l.most = some n) (hn2 : n ≤ sizeLine) (hdf : d.params.defaults = []) (hr : Rg k callerA) (hF : ∀ ns : List Int, ns.length ≤ n → ∃ s', Fn [.rol (ns.map D.int)] [] = some (.ok (.bl true) s'))
    (F : ∀ (w : World) (mg : Str → Option Value) (fa : Addr) (h : Heap), YP w h → h.Ns mainGlobals mg → mg d.name = some (.ref fa) →
      ∃ (K : PySem.W.Frag) (cm : CM) (fd : FuncData), K.In h ∧ (∀ (s : Shared) (u : Value), BindsTo s fd ⟨[u], []⟩ [(x, u)]) ∧ ∀ base : Heap, K.In base → base.Ns mainGlobals mg → FnG l.prog w K mg base k fa fd [x] (spD K cm 1 Fn)) :
    PySem.W.WalkO q loose XP YP l.row.toRowW d [] (fun f vs => PySem.call f vs) := by
  refine Att.attach_call hn hdf fun w s0 s1 mg mb fa o pm cd doc a vs ns G Y ho hd hcd hmg hobj hints hlen hg => ?_
  obtain ⟨K, cm, fd, KX, hb, F⟩ := F w mg fa _ Y G.T.g hmg
  have rv := vals_ints hints
  have lenV := hints.length
  have hl : ns.length ≤ sizeLine := Nat.le_trans hlen hn2
  have run := fun {H : Hp} => law_run (H := H) (cm := cm) KX G.T.g G.T.b G.T.builtins G.T.nolimit hg hobj hr F hb (hF ns hlen)
  cases hk : K.lookup a with
  | some o =>
    have e := KX a o hk
    rw [hobj] at e
    cases e
    exact run (H := fun _ => none) (fun _ => .inl rfl) (.inr ⟨_, vs.toArray, _, hk, rfl, rfl, rfl, by rw [List.size_toArray, lenV]; exact hl, by simpa using rv⟩) (fun b u z => by cases z) (fun b z => absurd rfl z) fun z => absurd rfl z
  | none =>
    refine run (H := fun b => if b = a then some (.frz { cls := .type "list", data := .seq vs.toArray } (.lst (ns.map V.int))) else none) (fun b => ?_) (.inl (.inr ⟨_, if_pos rfl⟩)) (fun b u z => ?_) (fun b z => ?_) fun _ => hk
    · by_cases hb : b = a
      · exact .inr ⟨_, _, if_pos hb⟩
      · exact .inl (if_neg hb)
    · dsimp only at z
      by_cases hb : b = a
      · rw [if_pos hb] at z
        cases z
        subst hb
        exact ⟨hobj, by rw [List.length_map]; exact hl, vs, _, rv, hobj⟩
      · rw [if_neg hb] at z
        cases z
    · by_cases hb : b = a
      · exact hb
      · rw [if_neg hb] at z
        exact absurd rfl z
theorem caller_room {k : Nat} (h : 3 * k + 200 < recursionLimit := by decide) (h2 : 16 * k + 300 < cLine := by decide) (hd : callerA.depth + 3 * k + 5 < recursionLimit := by decide) (hu : callerA.units + 16 * k + 200 < cLine := by decide) : Rg k callerA := ⟨⟨rfl, hd, hu⟩, rfl⟩
/-- a def with every parameter written -/
theorem bind_all {x qual : Str} {params : Arguments} {body : List Stmt} {scope : Scope} {kws : List (Str × V)} {f : Addr} {fd : FuncData} {ps : List Str} (F : FunD K x qual params body scope [] kws f fd)
    (h : ∀ (kV doc pm : Value) (an : Option Addr) (cdv ct : Value) (us : List Value), us.length = ps.length → bindArgs (PySem.W.fnOf x qual params body scope .none kV doc pm an cdv ct) ⟨us, []⟩ = pure (ps.zip us)) : BindD K fd ps [] :=
  ⟨[], [], .nil, F.bindsN h, fun p H => by simp [RVs]⟩
theorem glob_int {mg : Str → Option Value} {x : Str} {i : Int} (h : ∃ t, mg x = some (.int i t)) : GlobC K mg x (.int i) := ⟨let ⟨t, e⟩ := h; ⟨V.int i, _, e, ⟨t, rfl⟩, fun _ _ => mk_int i⟩⟩
theorem glob_str {mg : Str → Option Value} {x z : Str} (h : ∃ t, mg x = some (.str z t)) : GlobC K mg x (.str z) := ⟨let ⟨t, e⟩ := h; ⟨V.str z, _, e, ⟨t, rfl⟩, fun _ _ => mk_str z⟩⟩
theorem fnAt_of {P : Program} {w : World} {mg : Str → Option Value} {base : Heap} {k : Nat} {f : Addr} {fd : FuncData} {x : Str} {ps : List Str} {np nn : Nat} {b : C} {dfls : List (List D)} (G : FnG P w K mg base k f fd ps (spD K cm np (defF np nn b))) (hm : mg x = some (.ref f)) (kp : PySem.W.keepIn K (.ref f) = true)
    (hb : ∀ dl ∈ dfls, BindD K fd ps dl) : FnAt P w K mg base cm k x (defF np nn b) dfls := ⟨⟨f, ⟨np, fd, ps, G, defF_len, hb⟩, hm, kp⟩⟩
theorem all_cons {κ : Type} {p : κ → Prop} {a : κ} {l : List κ} (h : p a) (hl : ∀ x ∈ l, p x) : ∀ x ∈ a :: l, p x := fun x hx => by
  rcases List.mem_cons.mp hx with rfl | hx
  · exact h
  · exact hl x hx
theorem all_nil {κ : Type} {p : κ → Prop} : ∀ x ∈ ([] : List κ), p x := fun x hx => by cases hx
/-- a def with defaults, the last of them left out -/
theorem bind_dfl {x qual : Str} {params : Arguments} {body : List Stmt} {scope : Scope} {dvs : List V} {kws : List (Str × V)} {f : Addr} {fd : FuncData} {ps : List Str} {dl : List D} (F : FunD K x qual params body scope dvs kws f fd) (n j : Nat) (hd : dvs ≠ []) (hn : n + (dvs.length - j) = ps.length)
    (h : ∀ (T : Addr) (kV doc pm : Value) (an : Option Addr) (cdv ct : Value) (us its : List Value), us.length = n → its.length = dvs.length →
      ∃ k, bindArgs (PySem.W.fnOf x qual params body scope (.ref T) kV doc pm an cdv ct) ⟨us, []⟩ = seqItems? (.ref T) >>= k ∧ k (some its.toArray) = pure (ps.zip (us ++ its.drop j))) (hl : ∀ p H, RVs K p H dl (dvs.drop j)) : BindD K fd ps dl :=
  let ⟨ds, r, b⟩ := F.binds1 n j hd hn h
  ⟨ds, _, r, b, hl⟩
/-- a statement that no run reaches -/
theorem r_never {X : Cx} {W : WX} {st : Stmt} : JS X cm W st cNever := ⟨fun pins s σ H Dn I h => by
  obtain ⟨_, _, _, _, _, q⟩ := h
  exact q.elim⟩
/-- xs[::-1], xs a list -/
theorem r_revL {X : Cx} {W : WX} {a : Expr} {fa : E} {k : Nat} {p1 p2 p3 pos : Pos} (ha : JE X cm W a fa) : JE X cm W (.Subscript a (.Slice none none (some (.UnaryOp .USub (.Constant (.int 1) k p1) p2)) p3) pos) (e1 oRevL fa) := by
  refine (pe_revL ha).imp fun σ H Q q => ?_
  obtain ⟨p, e, s, re, rs, q⟩ := tD.bnd q
  refine ⟨p, e, s, re, rs, q.imp ?_⟩
  rintro x H1 ⟨p, e, s, d, re, rs, r1, q⟩
  unfold oRevL at q
  split at q
  · rename_i n
    split at q
    · rename_i ds hn
      obtain ⟨t, vs, rfl, _, h1, rr⟩ := lst_at rs r1 hn
      refine ⟨t, vs, rfl, SqL.of h1, fun b hb => Po.newl q rs ?_ hb⟩
      refine RVs.of_get (by simp [rr.length]) fun i d v e1 e2 => ?_
      have hl := rr.length
      have hi : i < ds.length := by
        have := (List.getElem?_eq_some_iff.mp e1).1
        simpa using this
      rw [List.getElem?_reverse hi] at e1
      rw [List.getElem?_reverse (by rw [← hl]; exact hi), ← hl] at e2
      obtain ⟨w, w1, w2⟩ := rr.get e1
      rw [e2] at w1; cases w1
      exact w2
    · exact q.elim
  · exact q.elim
theorem three_rv {p : List Addr} {H : Hp} {d d' d2 : D} {xs : List V} (r : RVs K p H [d, d', d2] xs) : ∃ x y z, xs = [x, y, z] ∧ RV K p H d x ∧ RV K p H d' y ∧ RV K p H d2 z := by
  simp only [RVs] at r
  obtain ⟨x, _, rfl, h1, y, _, rfl, h2, z, _, rfl, h3, rfl⟩ := r
  exact ⟨x, y, z, rfl, h1, h2, h3⟩
theorem r_par3 {X : Cx} {W : WX} (i j l : Nat) {x y z : Str} {a b c : Expr} {fl : EL} {px py pz pt pos pt2 : Pos} {kt k2 : Nat} (hc : X.calm = true) (hN : X.N.Nodup) (ha : JA X cm W [a, b, c] fl) (hi : X.N[i]? = some x := by rfl) (hj : X.N[j]? = some y := by rfl) (hl : X.N[l]? = some z := by rfl)
    (hij : i ≠ j := by decide) (hil : i ≠ l := by decide) (hjl : j ≠ l := by decide) (hx : X.env.scope.names.lookup x = some .local := by rfl) (hy : X.env.scope.names.lookup y = some .local := by rfl) (hz : X.env.scope.names.lookup z = some .local := by rfl)
    (hw : swappedStores [.Tuple [.Name x px, .Name y py, .Name z pz] kt pt] (.Tuple [a, b, c] k2 pt2) X.env = pure (some [x, y, z]) := by rfl)
    (hs : swapsWithSole [.Tuple [.Name x px, .Name y py, .Name z pz] kt pt] (.Tuple [a, b, c] k2 pt2) pos.line X.env = pure false := by rfl) :
    JS X cm W (.Assign [.Tuple [.Name x px, .Name y py, .Name z pz] kt pt] (.Tuple [a, b, c] k2 pt2) pos) (cPar3 i j l fl) := by
  refine (ps_par3 hc hN hi hj hl hij hil hjl hx hy hz ha hw hs).imp ?_
  rintro Dn σ H ⟨p, e, s, re, rs, q⟩
  refine ⟨p, e, s, re, rs, (PoS.ex (rel := RVs X.K) q re).imp ?_⟩
  rintro xs H1 ⟨ds, p1, s1, f, rs1, r1, q⟩
  split at q
  · obtain ⟨u, v, w, rfl, ru, rv, rw'⟩ := three_rv r1
    exact ⟨u, v, w, rfl, q p1 H1 _ Fut.refl rs1 ((((re.mono f).set i ru).set j rv).set l rw')⟩
  · exact q.elim
end Fc
namespace Law_k22
open PySem PySem.Spec PyProof.Rows L2 Fc
noncomputable section
def b_law_cell : C :=
 (cSeq (cIf (tB (e2 oLt (eVar 1) (eN fLen (lCons (eVar 0) lNil))))
 (cRet (e2 oAt (eVar 0) (eVar 1)))
 cNil)
 (cRet (eC (.int 0))))
def d_law_cell : F := defF 2 2 b_law_cell
def b_law_generator : C :=
 (cSeq (cSet (eCall d_law_cell [] (lCons (eVar 0) (lCons (eVar 1) lNil))) (gName 2))
 (cRet (eN mLst (lCons (e2 oMod (eN fInt (lCons (eN fMax (lCons (e2 oSub (eVar 2) (e2 oPow (eC (.int 10)) (eC (.int 18)))) (lCons (eC (.int 0)) lNil))) lNil)) (e2 oPow (e2 oPow (eC (.int 10)) (eC (.int 60))) (eC (.int 10)))) (lCons (e2 oMod (eN fInt (lCons (eVar 2) lNil)) (eC (.int 2147483647))) (lCons (e2 oMul (eC (.int 1000)) (eVar 1)) lNil))))))
def d_law_generator : F := defF 2 3 b_law_generator
def b_law_hash : C :=
 (cSeq (cSet (e2 oMod (eN fInt (lCons (e2 oAdd (e2 oAdd (e2 oAdd (e2 oMul (eVar 0) (eC (.int 1103515245))) (e2 oMul (e2 oMul (eC (.int 7919)) (eVar 1)) (eVar 1))) (eVar 1)) (eC (.int 1))) lNil)) (eC (.int 2147483647))) (gName 2))
 (cSeq (cSet (e2 oMod (eN fInt (lCons (e2 oAdd (e2 oMul (eVar 2) (eVar 2)) (eC (.int 69621))) lNil)) (eC (.int 2147483629))) (gName 2))
 (cRet (e2 oMod (eN fInt (lCons (e2 oMul (eVar 2) (eC (.int 48271))) lNil)) (eC (.int 2147483587))))))
def d_law_hash : F := defF 2 3 b_law_hash
def b_law_random : C :=
 (cSeq (cIf (tB (e2 oGt (e2 oAt (eVar 0) (eC (.int 0))) (eC (.int 0))))
 (cSeq (cSet (e2 oMod (eN fInt (lCons (e2 oAt (eVar 0) (eC (.int 0))) lNil)) (eVar 1)) (gName 2))
 (cSeq (cSub (eVar 0) (eC (.int 0)) (e2 oDiv (e2 oAt (eVar 0) (eC (.int 0))) (eVar 1)))
 (cRet (eVar 2))))
 cNil)
 (cSeq (cSet (eC (.int 0)) (gName 2))
 (cSeq (cFor (iRange (eC (.int 0)) (e2 oAdd (eC (.int 1)) (e2 oDiv (e1 oBitLen (eVar 1)) (eC (.int 30))))) (gName 3)
 (cSeq (cSub (eVar 0) (eC (.int 2)) (e2 oAdd (e2 oAt (eVar 0) (eC (.int 2))) (eC (.int 1))))
 (cSet (e2 oAdd (e2 oMul (eVar 2) (eC (.int 2147483587))) (eCall d_law_hash [] (lCons (e2 oAt (eVar 0) (eC (.int 1))) (lCons (e2 oAt (eVar 0) (eC (.int 2))) lNil)))) (gName 2))))
 (cRet (e2 oMod (eN fInt (lCons (eVar 2) lNil)) (eVar 1))))))
def d_law_random : F := defF 2 4 b_law_random
def b_law_arcs : C :=
 (cSeq (cSet (eN mLst lNil) (gName 4))
 (cSeq (cFor (iRange (eC (.int 0)) (eVar 1)) (gName 5)
 (cFor (iRange (eC (.int 0)) (eVar 2)) (gName 6)
 (cIf (tB (e2 oEq (eCall d_law_random [] (lCons (eVar 0) (lCons (eVar 3) lNil))) (eC (.int 0))))
 (cExpr (eM mAppend (eVar 4) (lCons (eN mTup (lCons (eVar 5) (lCons (eVar 6) (lCons (e2 oEq (eCall d_law_random [] (lCons (eVar 0) (lCons (eC (.int 2)) lNil))) (eC (.int 0))) lNil)))) lNil)))
 cNil)))
 (cSeq (cIf (tAnd (tB (e2 oNe (eVar 4) (eN mLst lNil))) (tB (e2 oEq (eCall d_law_random [] (lCons (eVar 0) (lCons (eC (.int 4)) lNil))) (eC (.int 0)))))
 (cExpr (eM mAppend (eVar 4) (lCons (e2 oAdd (eCut (e2 oAt (eVar 4) (eC (.int 0))) pNo (pYes (eC (.int 2)))) (eN mTup (lCons (eNotT (tE (e2 oAt (e2 oAt (eVar 4) (eC (.int 0))) (eC (.int 2))))) lNil))) lNil)))
 cNil)
 (cRet (e2 oAt (eN mLst (lCons (eVar 4) (lCons (e1 oRevL (eVar 4)) lNil))) (eCall d_law_random [] (lCons (eVar 0) (lCons (eC (.int 2)) lNil))))))))
def d_law_arcs : F := defF 4 7 b_law_arcs
def b_law_grid : C :=
 (cSeq (cSet (eN mLst (lCons (eN mLst (lCons (eC (.int 0)) (lCons (eC (.int 0)) (lCons (eC (.int 0)) lNil)))) (lCons (eN mLst (lCons (eC (.int 0)) (lCons (eC (.int 0)) (lCons (eC (.int 0)) lNil)))) (lCons (eN mLst (lCons (eC (.int 0)) (lCons (eC (.int 0)) (lCons (eC (.int 0)) lNil)))) lNil)))) (gName 1))
 (cSeq (cFor (iSrc .seq (eVar 0)) (gTup 3 (gCons (gName 2) (gCons (gName 3) (gCons (gName 4) gNil))))
 (cSub (e2 oAt (eVar 1) (eVar 2)) (eVar 3) (eN fMax (lCons (eN fInt (lCons (e2 oAt (e2 oAt (eVar 1) (eVar 2)) (eVar 3)) lNil)) (lCons (e2 oAdd (eC (.int 1)) (eN fInt (lCons (eVar 4) lNil))) lNil)))))
 (cRet (eVar 1))))
def d_law_grid : F := defF 1 5 b_law_grid
def b_law_listed : C :=
 (cSeq (cSet (eN mLst lNil) (gName 1))
 (cSeq (cFor (iRange (eC (.int 0)) (eC (.int 3))) (gName 2)
 (cFor (iRange (eC (.int 0)) (eC (.int 3))) (gName 3)
 (cIf (tB (e2 oGt (e2 oAt (e2 oAt (eVar 0) (eVar 2)) (eVar 3)) (eC (.int 0))))
 (cExpr (eM mAppend (eVar 1) (lCons (eN mTup (lCons (eVar 2) (lCons (eVar 3) (lCons (e2 oEq (e2 oAt (e2 oAt (eVar 0) (eVar 2)) (eVar 3)) (eC (.int 2))) lNil)))) lNil)))
 cNil)))
 (cRet (eN fTuple (lCons (eVar 1) lNil)))))
def d_law_listed : F := defF 1 4 b_law_listed
def b_law_table : C :=
 (cRet (eN mTup (lCons (eVar 1) (lCons (eVar 2) (lCons (eCall d_law_listed [] (lCons (eCall d_law_grid [] (lCons (eCall d_law_arcs [] (lCons (eVar 0) (lCons (eC (.int 3)) (lCons (eC (.int 3)) (lCons (e2 oAdd (eC (.int 1)) (eCall d_law_random [] (lCons (eVar 0) (lCons (eC (.int 4)) lNil)))) lNil))))) lNil)) lNil)) lNil)))))
def d_law_table : F := defF 3 3 b_law_table
def b_law_times : C :=
 (cSeq (cSet (eN mLst (lCons (eN mLst (lCons (eC (.int 0)) (lCons (eC (.int 0)) (lCons (eC (.int 0)) lNil)))) (lCons (eN mLst (lCons (eC (.int 0)) (lCons (eC (.int 0)) (lCons (eC (.int 0)) lNil)))) (lCons (eN mLst (lCons (eC (.int 0)) (lCons (eC (.int 0)) (lCons (eC (.int 0)) lNil)))) lNil)))) (gName 2))
 (cSeq (cFor (iRange (eC (.int 0)) (eC (.int 3))) (gName 3)
 (cFor (iRange (eC (.int 0)) (eC (.int 3))) (gName 4)
 (cFor (iRange (eC (.int 0)) (eC (.int 3))) (gName 5)
 (cSeq (cSet (eN mLst (lCons (eN fInt (lCons (e2 oAt (e2 oAt (eVar 0) (eVar 3)) (eVar 5)) lNil)) (lCons (eN fInt (lCons (e2 oAt (e2 oAt (eVar 1) (eVar 5)) (eVar 4)) lNil)) lNil))) (gName 6))
 (cIf (tB (e2 oGt (eN fMin (lCons (eLc [7] (iSrc .seq (eVar 6)) (gName 7) tYes (eN fInt (lCons (eVar 7) lNil))) lNil)) (eC (.int 0))))
 (cSub (e2 oAt (eVar 2) (eVar 3)) (eVar 4) (eN fMax (lCons (eN fInt (lCons (e2 oAt (e2 oAt (eVar 2) (eVar 3)) (eVar 4)) lNil)) (lCons (eN fMax (lCons (eLc [7] (iSrc .seq (eVar 6)) (gName 7) tYes (eN fInt (lCons (eVar 7) lNil))) lNil)) lNil))))
 cNil)))))
 (cRet (eVar 2))))
def d_law_times : F := defF 2 8 b_law_times
def b_is_name : C :=
 (cSeq (cIf (tOr (tNot (tE (e1 (oIs .str) (eVar 0)))) (tNot (tB (eChain oLe oLe (eC (.int 1)) (eN fLen (lCons (eVar 0) lNil)) (eC (.int 12))))))
 (cRet (eC (.bl false)))
 cNil)
 (cRet (e2 oEq (eLc [1] (iSrc .seq (eVar 0)) (gName 1) (tB (e2 oNotIn (eVar 1) (eC (.str "abcdefghijklmnopqrstuvwxyz")))) (eVar 1)) (eN mLst lNil))))
def d_is_name : F := defF 1 2 b_is_name
def b_is_whole : C :=
 (cRet (eAnd (e1 (oIs .int) (eVar 0)) (eNotT (tE (e1 (oIs .bool) (eVar 0))))))
def d_is_whole : F := defF 1 1 b_is_whole
def b_is_arc : C :=
 (cSeq (cIf (tOr (tNot (tE (e1 (oIs .tuple) (eVar 0)))) (tOr (tB (e2 oNe (eN fLen (lCons (eVar 0) lNil)) (eC (.int 3)))) (tOr (tNot (tE (eCall d_is_whole [] (lCons (e2 oAt (eVar 0) (eC (.int 0))) lNil)))) (tNot (tE (eCall d_is_whole [] (lCons (e2 oAt (eVar 0) (eC (.int 1))) lNil)))))))
 (cRet (eC (.bl false)))
 cNil)
 (cRet (eAnd (eChain oLe oLt (eC (.int 0)) (e2 oAt (eVar 0) (eC (.int 0))) (eVar 1)) (eAnd (eChain oLe oLt (eC (.int 0)) (e2 oAt (eVar 0) (eC (.int 1))) (eVar 2)) (e1 (oIs .bool) (e2 oAt (eVar 0) (eC (.int 2))))))))
def d_is_arc : F := defF 3 3 b_is_arc
def b_is_table : C :=
 (cSeq (cIf (tOr (tNot (tE (e1 (oIs .tuple) (eVar 0)))) (tOr (tB (e2 oNe (eN fLen (lCons (eVar 0) lNil)) (eC (.int 3)))) (tOr (tNot (tE (eCall d_is_name [] (lCons (e2 oAt (eVar 0) (eC (.int 0))) lNil)))) (tNot (tE (eCall d_is_name [] (lCons (e2 oAt (eVar 0) (eC (.int 1))) lNil)))))))
 (cRet (eC (.bl false)))
 cNil)
 (cSeq (cSet (e2 oAt (eVar 0) (eC (.int 2))) (gName 1))
 (cSeq (cIf (tOr (tNot (tE (e1 (oIs .tuple) (eVar 1)))) (tB (e2 oNe (eLc [2] (iSrc .seq (eVar 1)) (gName 2) (tNot (tE (eCall d_is_arc [] (lCons (eVar 2) (lCons (eC (.int 3)) (lCons (eC (.int 3)) lNil)))))) (eVar 2)) (eN mLst lNil))))
 (cRet (eC (.bl false)))
 cNil)
 (cSeq (cSet (eLc [4, 5, 6] (iSrc .seq (eVar 1)) (gTup 3 (gCons (gName 4) (gCons (gName 5) (gCons (gName 6) gNil)))) tYes (eN mTup (lCons (eN fInt (lCons (eVar 4) lNil)) (lCons (eN fInt (lCons (eVar 5) lNil)) lNil)))) (gName 3))
 (cRet (e2 oEq (eVar 3) (eN fSortSet (lCons (eVar 3) lNil))))))))
def d_is_table : F := defF 1 7 b_is_table
def b_check_table : C :=
 (cIf (tNot (tE (eCall d_is_table [] (lCons (eVar 0) lNil))))
 cNever
 cNil)
def d_check_table : F := defF 1 1 b_check_table
def b_arcs_of : C :=
 (cRet (eN fTuple (lCons (eLc [1, 2] (iSrc .seq (eN fSorted (lCons (eLc [1, 2] (iSrc .seq (eVar 0)) (gTup 2 (gCons (gName 1) (gCons (gName 2) gNil))) tYes (eN mTup (lCons (eN fInt (lCons (eVar 1) lNil)) (lCons (eN fInt (lCons (eVar 2) lNil)) lNil)))) lNil))) (gTup 2 (gCons (gName 1) (gCons (gName 2) gNil))) tYes (eN mTup (lCons (eVar 1) (lCons (eVar 2) (lCons (e2 oAt (eVar 0) (eN mTup (lCons (eVar 1) (lCons (eVar 2) lNil)))) lNil))))) lNil)))
def d_arcs_of : F := defF 1 3 b_arcs_of
def b_joined : C :=
 (cSeq (cSet (eN (fun _ => mDT) lNil) (gName 2))
 (cSeq (cFor (iSrc .seq (e2 oAt (eVar 0) (eC (.int 2)))) (gTup 3 (gCons (gName 3) (gCons (gName 4) (gCons (gName 5) gNil))))
 (cFor (iSrc .seq (e2 oAt (eVar 1) (eC (.int 2)))) (gTup 3 (gCons (gName 6) (gCons (gName 7) (gCons (gName 8) gNil))))
 (cIf (tB (e2 oEq (eVar 6) (eVar 4)))
 (cSub (eVar 2) (eN mTup (lCons (eVar 3) (lCons (eVar 7) lNil))) (eOr (eGet2 (eVar 2) (eN mTup (lCons (eVar 3) (lCons (eVar 7) lNil))) (eC (.bl false))) (eOr (eVar 5) (eVar 8))))
 cNil)))
 (cRet (eN mTup (lCons (e2 oAt (eVar 0) (eC (.int 0))) (lCons (e2 oAt (eVar 1) (eC (.int 1))) (lCons (eCall d_arcs_of [] (lCons (eVar 2) lNil)) lNil)))))))
def d_joined : F := defF 2 9 b_joined
def b_product : C :=
 (cSeq (cExpr (eCall d_check_table [] (lCons (eVar 0) lNil)))
 (cSeq (cExpr (eCall d_check_table [] (lCons (eVar 1) lNil)))
 (cSeq (cIf (tB (e2 oNe (e2 oAt (eVar 0) (eC (.int 1))) (e2 oAt (eVar 1) (eC (.int 0)))))
 cNever
 cNil)
 (cRet (eCall d_joined [] (lCons (eVar 0) (lCons (eVar 1) lNil)))))))
def d_product : F := defF 2 2 b_product
def b_falls_around : C :=
 (cSeq (cSet (eVar 0) (gName 1))
 (cSeq (cFor (iRange (eC (.int 0)) (eC (.int 3))) (gName 2)
 (cSeq (cIf (tB (e2 oNe (eLc [3] (iSrc .seq (e2 oAt (eVar 1) (eC (.int 2)))) (gName 3) (tAnd (tB (e2 oEq (e2 oAt (eVar 3) (eC (.int 0))) (e2 oAt (eVar 3) (eC (.int 1))))) (tE (e2 oAt (eVar 3) (eC (.int 2))))) (eVar 3)) (eN mLst lNil)))
 (cRet (eC (.bl true)))
 cNil)
 (cSet (eCall d_joined [] (lCons (eVar 1) (lCons (eVar 0) lNil))) (gName 1))))
 (cRet (eC (.bl false)))))
def d_falls_around : F := defF 1 4 b_falls_around
def b_has_fall : C :=
 (cSeq (cExpr (eCall d_check_table [] (lCons (eVar 0) lNil)))
 (cRet (eAnd (e2 oEq (e2 oAt (eVar 0) (eC (.int 0))) (e2 oAt (eVar 0) (eC (.int 1)))) (eCall d_falls_around [] (lCons (eVar 0) lNil)))))
def d_has_fall : F := defF 1 1 b_has_fall
def b_law_around : C :=
 (cSeq (cFor (iSrc .seq (eVar 0)) (gTup 3 (gCons (gName 1) (gCons (gName 2) (gCons (gName 3) gNil))))
 (cSeq (cIf (tAnd (tB (e2 oEq (eVar 1) (eVar 2))) (tE (eVar 3)))
 (cRet (eC (.bl true)))
 cNil)
 (cFor (iSrc .seq (eVar 0)) (gTup 3 (gCons (gName 4) (gCons (gName 5) (gCons (gName 6) gNil))))
 (cSeq (cIf (tAnd (tB (e2 oEq (eVar 4) (eVar 2))) (tAnd (tB (e2 oEq (eVar 5) (eVar 1))) (tOr (tE (eVar 3)) (tE (eVar 6)))))
 (cRet (eC (.bl true)))
 cNil)
 (cFor (iSrc .seq (eVar 0)) (gTup 3 (gCons (gName 7) (gCons (gName 8) (gCons (gName 9) gNil))))
 (cIf (tAnd (tB (e2 oEq (eVar 4) (eVar 2))) (tAnd (tB (e2 oEq (eVar 7) (eVar 5))) (tAnd (tB (e2 oEq (eVar 8) (eVar 1))) (tOr (tE (eVar 3)) (tOr (tE (eVar 6)) (tE (eVar 9)))))))
 (cRet (eC (.bl true)))
 cNil))))))
 (cRet (eC (.bl false))))
def d_law_around : F := defF 1 10 b_law_around
def b_check_whole : C :=
 (cIf (tOr (tNot (tE (eCall d_is_whole [] (lCons (eVar 0) lNil)))) (tOr (tB (e2 oLt (eVar 0) (eVar 1))) (tAnd (tB (e1 oNotN (eVar 2))) (tB (e2 oGt (eVar 0) (eVar 2))))))
 cNever
 cNil)
def d_check_whole : F := defF 3 3 b_check_whole
def b_power : C :=
 (cSeq (cExpr (eCall d_check_table [] (lCons (eVar 0) lNil)))
 (cSeq (cIf (tB (e2 oNe (e2 oAt (eVar 0) (eC (.int 0))) (e2 oAt (eVar 0) (eC (.int 1)))))
 cNever
 cNil)
 (cSeq (cExpr (eCall d_check_whole [.non] (lCons (eVar 1) (lCons (eC (.int 1)) lNil))))
 (cSeq (cPar3 2 3 4 (lCons (eC .non) (lCons (eVar 0) (lCons (eVar 1) lNil))))
 (cSeq (cWhile (tB (e2 oGt (eVar 4) (eC (.int 0))))
 (cSeq (cIf (tB (e2 oEq (e2 oMod (eVar 4) (eC (.int 2))) (eC (.int 1))))
 (cSet (eIf (tB (e1 oIsN (eVar 2))) (eVar 3) (eCall d_joined [] (lCons (eVar 2) (lCons (eVar 3) lNil)))) (gName 2))
 cNil)
 (cPar 3 4 (lCons (eCall d_joined [] (lCons (eVar 3) (lCons (eVar 3) lNil))) (lCons (e2 oDiv (eVar 4) (eC (.int 2))) lNil)))))
 (cRet (eVar 2)))))))
def d_power : F := defF 2 5 b_power
def b_law_power : C :=
 (cSeq (cPar 2 3 (lCons (eC .non) (lCons (eVar 0) lNil)))
 (cSeq (cWhile (tB (e2 oGt (eVar 1) (eC (.int 0))))
 (cSeq (cIf (tB (e2 oEq (e2 oMod (eN fInt (lCons (eVar 1) lNil)) (eC (.int 2))) (eC (.int 1))))
 (cSet (eIf (tB (e1 oIsN (eVar 2))) (eVar 3) (eCall d_law_times [] (lCons (eVar 2) (lCons (eVar 3) lNil)))) (gName 2))
 cNil)
 (cPar 3 1 (lCons (eCall d_law_times [] (lCons (eVar 3) (lCons (eVar 3) lNil))) (lCons (e2 oDiv (eVar 1) (eC (.int 2))) lNil)))))
 (cRet (eVar 2))))
def d_law_power : F := defF 2 4 b_law_power
def b_law : C :=
 (cSeq (cFor (iRange (eC (.int 0)) (eC (.int 4))) (gName 1)
 (cSeq (cSet (eCall d_law_generator [] (lCons (eVar 0) (lCons (eVar 1) lNil))) (gName 2))
 (cSeq (cPar 3 4 (lCons (eCall d_law_table [] (lCons (eVar 2) (lCons (eC (.str "f")) (lCons (eC (.str "g")) lNil)))) (lCons (eCall d_law_table [] (lCons (eVar 2) (lCons (eC (.str "g")) (lCons (eC (.str "hh")) lNil)))) lNil)))
 (cSeq (cSet (eN mTup (lCons (eC (.str "f")) (lCons (eC (.str "hh")) (lCons (eCall d_law_listed [] (lCons (eCall d_law_times [] (lCons (eCall d_law_grid [] (lCons (e2 oAt (eVar 3) (eC (.int 2))) lNil)) (lCons (eCall d_law_grid [] (lCons (e2 oAt (eVar 4) (eC (.int 2))) lNil)) lNil))) lNil)) lNil)))) (gName 5))
 (cSeq (cIf (tOr (tB (e2 oNe (eN fRepr (lCons (eCall d_product [] (lCons (eVar 3) (lCons (eVar 4) lNil))) lNil)) (eN fRepr (lCons (eVar 5) lNil)))) (tNot (tE (eCall d_is_table [] (lCons (eCall d_product [] (lCons (eVar 3) (lCons (eVar 4) lNil))) lNil)))))
 (cRet (eC (.bl false)))
 cNil)
 (cSeq (cIf (tB (e2 oNe (eN fRepr (lCons (eN mLst (lCons (eCall d_has_fall [] (lCons (eVar 3) lNil)) (lCons (eCall d_has_fall [] (lCons (eVar 5) lNil)) lNil))) lNil)) (eN fRepr (lCons (eN mLst (lCons (eC (.bl false)) (lCons (eC (.bl false)) lNil))) lNil))))
 (cRet (eC (.bl false)))
 cNil)
 (cFor (iRange (eC (.int 0)) (eC (.int 3))) (gName 6)
 (cSeq (cSet (eCall d_law_table [] (lCons (eVar 2) (lCons (eC (.str "f")) (lCons (eC (.str "f")) lNil)))) (gName 7))
 (cSeq (cPar 8 9 (lCons (eCall d_law_grid [] (lCons (e2 oAt (eVar 7) (eC (.int 2))) lNil)) (lCons (eVar 7) lNil)))
 (cSeq (cIf (tB (e2 oNe (eN fRepr (lCons (eCall d_has_fall [] (lCons (eVar 7) lNil)) lNil)) (eN fRepr (lCons (eCall d_law_around [] (lCons (e2 oAt (eVar 7) (eC (.int 2))) lNil)) lNil))))
 (cRet (eC (.bl false)))
 cNil)
 (cSeq (cSet (e2 oAdd (eC (.int 1)) (eCall d_law_random [] (lCons (eVar 2) (lCons (eC (.int 40)) lNil)))) (gName 10))
 (cSeq (cFor (iRange (eC (.int 0)) (e2 oSub (eVar 10) (eC (.int 1)))) (gName 11)
 (cSet (eCall d_product [] (lCons (eVar 9) (lCons (eVar 7) lNil))) (gName 9)))
 (cSeq (cSet (e2 oAdd (eC (.int 1)) (eCall d_law_random [] (lCons (eVar 2) (lCons (e2 oSub (e2 oPow (eC (.int 10)) (eC (.int 30))) (eC (.int 1))) lNil)))) (gName 12))
 (cSeq (cIf (tOr (tB (e2 oNe (eCall d_power [] (lCons (eVar 7) (lCons (eVar 10) lNil))) (eVar 9))) (tB (e2 oNe (eCall d_power [] (lCons (eVar 7) (lCons (eC (.int 1)) lNil))) (eVar 7))))
 (cRet (eC (.bl false)))
 cNil)
 (cIf (tB (e2 oNe (eN fRepr (lCons (eCall d_power [] (lCons (eVar 7) (lCons (eVar 12) lNil))) lNil)) (eN fRepr (lCons (eN mTup (lCons (eC (.str "f")) (lCons (eC (.str "f")) (lCons (eCall d_law_listed [] (lCons (eCall d_law_power [] (lCons (eVar 8) (lCons (eVar 12) lNil))) lNil)) lNil)))) lNil))))
 (cRet (eC (.bl false)))
 cNil)))))))))))))))
 (cRet (eC (.bl true))))
def d_law : F := defF 1 13 b_law
def top (i : Nat) : Stmt := PySem.Challenge.pw_fallingcalls_k22_products_and_powers.main.body.getD i (.Pass ⟨0, 0, 0, 0⟩)
abbrev s_law_cell : Stmt := top 22
abbrev s_law_generator : Stmt := top 24
abbrev s_law_hash : Stmt := top 23
abbrev s_law_random : Stmt := top 25
abbrev s_law_arcs : Stmt := top 29
abbrev s_law_grid : Stmt := top 26
abbrev s_law_listed : Stmt := top 28
abbrev s_law_table : Stmt := top 32
abbrev s_law_times : Stmt := top 27
abbrev s_is_name : Stmt := top 9
abbrev s_is_whole : Stmt := top 8
abbrev s_is_arc : Stmt := top 11
abbrev s_is_table : Stmt := top 13
abbrev s_check_table : Stmt := top 14
abbrev s_arcs_of : Stmt := top 15
abbrev s_joined : Stmt := top 16
abbrev s_product : Stmt := top 17
abbrev s_falls_around : Stmt := top 19
abbrev s_has_fall : Stmt := top 20
abbrev s_law_around : Stmt := top 31
abbrev s_check_whole : Stmt := top 10
abbrev s_power : Stmt := top 18
abbrev s_law_power : Stmt := top 30
abbrev s_law : Stmt := top 33
section
variable {P : Program} {w : World} {K : PySem.W.Frag} {mg : Str → Option Value} {base : Heap} {cm : CM} {f : Addr} {fd : FuncData}
theorem sc_law_cell : FnScope ["_law_script", "_law_index"] ["_law_script", "_law_index"] (defScope s_law_cell) := ⟨rfl, rfl, rfl, by decide +kernel, rfl, by decide +kernel, by decide +kernel⟩
theorem ok_law_cell (F : FunD K "_law_cell" "_law_cell" (defArgs s_law_cell) (defBody s_law_cell) (defScope s_law_cell) [] [] f fd) (n_len : mg "len" = none) : FnG P w K mg base 1 f fd ["_law_script", "_law_index"] (spD K cm 2 d_law_cell) := by
  refine FnG.of (N := ["_law_script", "_law_index"]) (ps := ["_law_script", "_law_index"]) (b := b_law_cell) F sc_law_cell fun cdv A outer s H E hr tk hp => ?_
  have hc : (bodyX P w K mg base ["_law_script", "_law_index"] "_law_cell" (defScope s_law_cell) f cdv A outer s H E).calm = true := rfl
  have hN : (bodyX P w K mg base ["_law_script", "_law_index"] "_law_cell" (defScope s_law_cell) f cdv A outer s H E).N.Nodup := sc_law_cell.nd
  exact (r_scons (r_ifs (r_tcmp s_oLt (r_var 1) (r_biB s_len n_len (r_cons (r_var 0) r_nil)))
 (r_sone (r_ret (r_at hr.room (r_var 0) (r_var 1))))
 r_snil)
 (r_sone (r_ret r_int)))
theorem sc_law_generator : FnScope ["_law_script", "_law_index", "_law_seed"] ["_law_script", "_law_index"] (defScope s_law_generator) := ⟨rfl, rfl, rfl, by decide +kernel, rfl, by decide +kernel, by decide +kernel⟩
theorem ok_law_generator (F : FunD K "_law_generator" "_law_generator" (defArgs s_law_generator) (defBody s_law_generator) (defScope s_law_generator) [] [] f fd) (c_d_law_cell : FnAt P w K mg base cm 1 "_law_cell" d_law_cell [[]]) (n_int : mg "int" = none) (n_max : mg "max" = none) : FnG P w K mg base 2 f fd ["_law_script", "_law_index"] (spD K cm 2 d_law_generator) := by
  refine FnG.of (N := ["_law_script", "_law_index", "_law_seed"]) (ps := ["_law_script", "_law_index"]) (b := b_law_generator) F sc_law_generator fun cdv A outer s H E hr tk hp => ?_
  have hc : (bodyX P w K mg base ["_law_script", "_law_index", "_law_seed"] "_law_generator" (defScope s_law_generator) f cdv A outer s H E).calm = true := rfl
  have hN : (bodyX P w K mg base ["_law_script", "_law_index", "_law_seed"] "_law_generator" (defScope s_law_generator) f cdv A outer s H E).N.Nodup := sc_law_generator.nd
  exact (r_scons (r_set 2 hN (r_call c_d_law_cell hr tk (by decide) (.head _) (r_cons (r_var 0) (r_cons (r_var 1) r_nil))))
 (r_sone (r_ret (r_lst (r_cons (r_op s_oMod (r_biT s_int n_int (r_cons (r_biB (s_max hc) n_max (r_cons (r_op s_oSub (r_var 2) (r_op s_oPow r_int r_int)) (r_cons r_int r_nil))) r_nil)) (r_op s_oPow (r_op s_oPow r_int r_int) r_int)) (r_cons (r_op s_oMod (r_biT s_int n_int (r_cons (r_var 2) r_nil)) r_int) (r_cons (r_op s_oMul r_int (r_var 1)) r_nil)))))))
theorem sc_law_hash : FnScope ["_law_seed", "_law_index", "_law_mixed"] ["_law_seed", "_law_index"] (defScope s_law_hash) := ⟨rfl, rfl, rfl, by decide +kernel, rfl, by decide +kernel, by decide +kernel⟩
theorem ok_law_hash (F : FunD K "_law_hash" "_law_hash" (defArgs s_law_hash) (defBody s_law_hash) (defScope s_law_hash) [] [] f fd) (n_int : mg "int" = none) : FnG P w K mg base 1 f fd ["_law_seed", "_law_index"] (spD K cm 2 d_law_hash) := by
  refine FnG.of (N := ["_law_seed", "_law_index", "_law_mixed"]) (ps := ["_law_seed", "_law_index"]) (b := b_law_hash) F sc_law_hash fun cdv A outer s H E hr tk hp => ?_
  have hc : (bodyX P w K mg base ["_law_seed", "_law_index", "_law_mixed"] "_law_hash" (defScope s_law_hash) f cdv A outer s H E).calm = true := rfl
  have hN : (bodyX P w K mg base ["_law_seed", "_law_index", "_law_mixed"] "_law_hash" (defScope s_law_hash) f cdv A outer s H E).N.Nodup := sc_law_hash.nd
  exact (r_scons (r_set 2 hN (r_op s_oMod (r_biT s_int n_int (r_cons (r_op s_oAdd (r_op s_oAdd (r_op s_oAdd (r_op s_oMul (r_var 0) r_int) (r_op s_oMul (r_op s_oMul r_int (r_var 1)) (r_var 1))) (r_var 1)) r_int) r_nil)) r_int))
 (r_scons (r_set 2 hN (r_op s_oMod (r_biT s_int n_int (r_cons (r_op s_oAdd (r_op s_oMul (r_var 2) (r_var 2)) r_int) r_nil)) r_int))
 (r_sone (r_ret (r_op s_oMod (r_biT s_int n_int (r_cons (r_op s_oMul (r_var 2) r_int) r_nil)) r_int)))))
theorem sc_law_random : FnScope ["_law_generator_here", "_law_bound", "_law_drawn", "_law_turn"] ["_law_generator_here", "_law_bound"] (defScope s_law_random) := ⟨rfl, rfl, rfl, by decide +kernel, rfl, by decide +kernel, by decide +kernel⟩
theorem ok_law_random (F : FunD K "_law_random" "_law_random" (defArgs s_law_random) (defBody s_law_random) (defScope s_law_random) [] [] f fd) (n_int : mg "int" = none) (n_range : mg "range" = none) (c_d_law_hash : FnAt P w K mg base cm 1 "_law_hash" d_law_hash [[]]) : FnG P w K mg base 2 f fd ["_law_generator_here", "_law_bound"] (spD K cm 2 d_law_random) := by
  refine FnG.of (N := ["_law_generator_here", "_law_bound", "_law_drawn", "_law_turn"]) (ps := ["_law_generator_here", "_law_bound"]) (b := b_law_random) F sc_law_random fun cdv A outer s H E hr tk hp => ?_
  have hc : (bodyX P w K mg base ["_law_generator_here", "_law_bound", "_law_drawn", "_law_turn"] "_law_random" (defScope s_law_random) f cdv A outer s H E).calm = true := rfl
  have hN : (bodyX P w K mg base ["_law_generator_here", "_law_bound", "_law_drawn", "_law_turn"] "_law_random" (defScope s_law_random) f cdv A outer s H E).N.Nodup := sc_law_random.nd
  exact (r_scons (r_ifs (r_tcmp s_oGt (r_at hr.room (r_var 0) r_int) r_int)
 (r_scons (r_set 2 hN (r_op s_oMod (r_biT s_int n_int (r_cons (r_at hr.room (r_var 0) r_int) r_nil)) (r_var 1)))
 (r_scons (r_sub hr.room (r_var 0) r_int (r_op s_oDiv (r_at hr.room (r_var 0) r_int) (r_var 1)))
 (r_sone (r_ret (r_var 2)))))
 r_snil)
 (r_scons (r_set 2 hN r_int)
 (r_scons (r_for hp hc (i_range1 n_range (r_op s_oAdd r_int (r_op s_oDiv (r_bitlen (r_var 1)) r_int))) (g_name 3 hN)
 (r_scons (r_sub hr.room (r_var 0) r_int (r_op s_oAdd (r_at hr.room (r_var 0) r_int) r_int))
 (r_sone (r_set 2 hN (r_op s_oAdd (r_op s_oMul (r_var 2) r_int) (r_call c_d_law_hash hr tk (by decide) (.head _) (r_cons (r_at hr.room (r_var 0) r_int) (r_cons (r_at hr.room (r_var 0) r_int) r_nil))))))))
 (r_sone (r_ret (r_op s_oMod (r_biT s_int n_int (r_cons (r_var 2) r_nil)) (r_var 1)))))))
theorem sc_law_arcs : FnScope ["_law_generator_here", "_law_begin", "_law_end", "_law_dense", "_law_found", "_law_i", "_law_j"] ["_law_generator_here", "_law_begin", "_law_end", "_law_dense"] (defScope s_law_arcs) := ⟨rfl, rfl, rfl, by decide +kernel, rfl, by decide +kernel, by decide +kernel⟩
theorem ok_law_arcs (F : FunD K "_law_arcs" "_law_arcs" (defArgs s_law_arcs) (defBody s_law_arcs) (defScope s_law_arcs) [] [] f fd) (n_range : mg "range" = none) (c_d_law_random : FnAt P w K mg base cm 2 "_law_random" d_law_random [[]]) : FnG P w K mg base 3 f fd ["_law_generator_here", "_law_begin", "_law_end", "_law_dense"] (spD K cm 4 d_law_arcs) := by
  refine FnG.of (N := ["_law_generator_here", "_law_begin", "_law_end", "_law_dense", "_law_found", "_law_i", "_law_j"]) (ps := ["_law_generator_here", "_law_begin", "_law_end", "_law_dense"]) (b := b_law_arcs) F sc_law_arcs fun cdv A outer s H E hr tk hp => ?_
  have hc : (bodyX P w K mg base ["_law_generator_here", "_law_begin", "_law_end", "_law_dense", "_law_found", "_law_i", "_law_j"] "_law_arcs" (defScope s_law_arcs) f cdv A outer s H E).calm = true := rfl
  have hN : (bodyX P w K mg base ["_law_generator_here", "_law_begin", "_law_end", "_law_dense", "_law_found", "_law_i", "_law_j"] "_law_arcs" (defScope s_law_arcs) f cdv A outer s H E).N.Nodup := sc_law_arcs.nd
  exact (r_scons (r_set 4 hN (r_lst r_nil))
 (r_scons (r_for hp hc (i_range1 n_range (r_var 1)) (g_name 5 hN)
 (r_sone (r_for hp hc (i_range1 n_range (r_var 2)) (g_name 6 hN)
 (r_sone (r_ifs (r_tcmp (s_oEq hr.room) (r_call c_d_law_random hr tk (by decide) (.head _) (r_cons (r_var 0) (r_cons (r_var 3) r_nil))) r_int)
 (r_sone (r_expr (r_m_append1 (r_var 4) (r_cons (r_tup (r_cons (r_var 5) (r_cons (r_var 6) (r_cons (r_cmp (s_oEq hr.room) (r_call c_d_law_random hr tk (by decide) (.head _) (r_cons (r_var 0) (r_cons r_int r_nil))) r_int) r_nil)))) r_nil))))
 r_snil)))))
 (r_scons (r_ifs (r_tw (r_wand (r_tcmp (s_oNe hr.room) (r_var 4) (r_lst r_nil)) (r_wand1 (r_tcmp (s_oEq hr.room) (r_call c_d_law_random hr tk (by decide) (.head _) (r_cons (r_var 0) (r_cons r_int r_nil))) r_int))))
 (r_sone (r_expr (r_m_append1 (r_var 4) (r_cons (r_op s_oAdd (r_cut (r_at hr.room (r_var 4) r_int) r_pno (r_pyes r_int)) (r_tup (r_cons (r_notv (r_at hr.room (r_at hr.room (r_var 4) r_int) r_int)) r_nil))) r_nil))))
 r_snil)
 (r_sone (r_ret (r_at hr.room (r_lst (r_cons (r_var 4) (r_cons (r_revL (r_var 4)) r_nil))) (r_call c_d_law_random hr tk (by decide) (.head _) (r_cons (r_var 0) (r_cons r_int r_nil)))))))))
theorem sc_law_grid : FnScope ["_law_arcs_here", "_law_found", "_law_i", "_law_j", "_law_falls"] ["_law_arcs_here"] (defScope s_law_grid) := ⟨rfl, rfl, rfl, by decide +kernel, rfl, by decide +kernel, by decide +kernel⟩
theorem ok_law_grid (F : FunD K "_law_grid" "_law_grid" (defArgs s_law_grid) (defBody s_law_grid) (defScope s_law_grid) [] [] f fd) (n_int : mg "int" = none) (n_max : mg "max" = none) : FnG P w K mg base 1 f fd ["_law_arcs_here"] (spD K cm 1 d_law_grid) := by
  refine FnG.of (N := ["_law_arcs_here", "_law_found", "_law_i", "_law_j", "_law_falls"]) (ps := ["_law_arcs_here"]) (b := b_law_grid) F sc_law_grid fun cdv A outer s H E hr tk hp => ?_
  have hc : (bodyX P w K mg base ["_law_arcs_here", "_law_found", "_law_i", "_law_j", "_law_falls"] "_law_grid" (defScope s_law_grid) f cdv A outer s H E).calm = true := rfl
  have hN : (bodyX P w K mg base ["_law_arcs_here", "_law_found", "_law_i", "_law_j", "_law_falls"] "_law_grid" (defScope s_law_grid) f cdv A outer s H E).N.Nodup := sc_law_grid.nd
  exact (r_scons (r_set 1 hN (r_lst (r_cons (r_lst (r_cons r_int (r_cons r_int (r_cons r_int r_nil)))) (r_cons (r_lst (r_cons r_int (r_cons r_int (r_cons r_int r_nil)))) (r_cons (r_lst (r_cons r_int (r_cons r_int (r_cons r_int r_nil)))) r_nil)))))
 (r_scons (r_for hp hc (i_seq (r_var 0)) (g_tup hc (g_cons (g_name 2 hN) (g_cons (g_name 3 hN) (g_cons (g_name 4 hN) g_nil))))
 (r_sone (r_sub hr.room (r_at hr.room (r_var 1) (r_var 2)) (r_var 3) (r_biB (s_max hc) n_max (r_cons (r_biT s_int n_int (r_cons (r_at hr.room (r_at hr.room (r_var 1) (r_var 2)) (r_var 3)) r_nil)) (r_cons (r_op s_oAdd r_int (r_biT s_int n_int (r_cons (r_var 4) r_nil))) r_nil))))))
 (r_sone (r_ret (r_var 1)))))
theorem sc_law_listed : FnScope ["_law_grid_here", "_law_found", "_law_i", "_law_j"] ["_law_grid_here"] (defScope s_law_listed) := ⟨rfl, rfl, rfl, by decide +kernel, rfl, by decide +kernel, by decide +kernel⟩
theorem ok_law_listed (F : FunD K "_law_listed" "_law_listed" (defArgs s_law_listed) (defBody s_law_listed) (defScope s_law_listed) [] [] f fd) (n_range : mg "range" = none) (n_tuple : mg "tuple" = none) : FnG P w K mg base 1 f fd ["_law_grid_here"] (spD K cm 1 d_law_listed) := by
  refine FnG.of (N := ["_law_grid_here", "_law_found", "_law_i", "_law_j"]) (ps := ["_law_grid_here"]) (b := b_law_listed) F sc_law_listed fun cdv A outer s H E hr tk hp => ?_
  have hc : (bodyX P w K mg base ["_law_grid_here", "_law_found", "_law_i", "_law_j"] "_law_listed" (defScope s_law_listed) f cdv A outer s H E).calm = true := rfl
  have hN : (bodyX P w K mg base ["_law_grid_here", "_law_found", "_law_i", "_law_j"] "_law_listed" (defScope s_law_listed) f cdv A outer s H E).N.Nodup := sc_law_listed.nd
  exact (r_scons (r_set 1 hN (r_lst r_nil))
 (r_scons (r_for hp hc (i_range1 n_range r_int) (g_name 2 hN)
 (r_sone (r_for hp hc (i_range1 n_range r_int) (g_name 3 hN)
 (r_sone (r_ifs (r_tcmp s_oGt (r_at hr.room (r_at hr.room (r_var 0) (r_var 2)) (r_var 3)) r_int)
 (r_sone (r_expr (r_m_append1 (r_var 1) (r_cons (r_tup (r_cons (r_var 2) (r_cons (r_var 3) (r_cons (r_cmp (s_oEq hr.room) (r_at hr.room (r_at hr.room (r_var 0) (r_var 2)) (r_var 3)) r_int) r_nil)))) r_nil))))
 r_snil)))))
 (r_sone (r_ret (r_biT s_tuple n_tuple (r_cons (r_var 1) r_nil))))))
theorem sc_law_table : FnScope ["_law_generator_here", "_law_begin", "_law_end"] ["_law_generator_here", "_law_begin", "_law_end"] (defScope s_law_table) := ⟨rfl, rfl, rfl, by decide +kernel, rfl, by decide +kernel, by decide +kernel⟩
theorem ok_law_table (F : FunD K "_law_table" "_law_table" (defArgs s_law_table) (defBody s_law_table) (defScope s_law_table) [] [] f fd) (c_d_law_random : FnAt P w K mg base cm 2 "_law_random" d_law_random [[]]) (c_d_law_arcs : FnAt P w K mg base cm 3 "_law_arcs" d_law_arcs [[]]) (c_d_law_grid : FnAt P w K mg base cm 1 "_law_grid" d_law_grid [[]]) (c_d_law_listed : FnAt P w K mg base cm 1 "_law_listed" d_law_listed [[]]) : FnG P w K mg base 4 f fd ["_law_generator_here", "_law_begin", "_law_end"] (spD K cm 3 d_law_table) := by
  refine FnG.of (N := ["_law_generator_here", "_law_begin", "_law_end"]) (ps := ["_law_generator_here", "_law_begin", "_law_end"]) (b := b_law_table) F sc_law_table fun cdv A outer s H E hr tk hp => ?_
  have hc : (bodyX P w K mg base ["_law_generator_here", "_law_begin", "_law_end"] "_law_table" (defScope s_law_table) f cdv A outer s H E).calm = true := rfl
  have hN : (bodyX P w K mg base ["_law_generator_here", "_law_begin", "_law_end"] "_law_table" (defScope s_law_table) f cdv A outer s H E).N.Nodup := sc_law_table.nd
  exact (r_sone (r_ret (r_tup (r_cons (r_var 1) (r_cons (r_var 2) (r_cons (r_call c_d_law_listed hr tk (by decide) (.head _) (r_cons (r_call c_d_law_grid hr tk (by decide) (.head _) (r_cons (r_call c_d_law_arcs hr tk (by decide) (.head _) (r_cons (r_var 0) (r_cons r_int (r_cons r_int (r_cons (r_op s_oAdd r_int (r_call c_d_law_random hr tk (by decide) (.head _) (r_cons (r_var 0) (r_cons r_int r_nil)))) r_nil))))) r_nil)) r_nil)) r_nil))))))
theorem sc_law_times : FnScope ["_law_one", "_law_other", "_law_found", "_law_i", "_law_j", "_law_middle", "_law_pair", "_law_number"] ["_law_one", "_law_other"] (defScope s_law_times) := ⟨rfl, rfl, rfl, by decide +kernel, rfl, by decide +kernel, by decide +kernel⟩
theorem ok_law_times (F : FunD K "_law_times" "_law_times" (defArgs s_law_times) (defBody s_law_times) (defScope s_law_times) [] [] f fd) (n_range : mg "range" = none) (n_int : mg "int" = none) (n_min : mg "min" = none) (n_max : mg "max" = none) : FnG P w K mg base 1 f fd ["_law_one", "_law_other"] (spD K cm 2 d_law_times) := by
  refine FnG.of (N := ["_law_one", "_law_other", "_law_found", "_law_i", "_law_j", "_law_middle", "_law_pair", "_law_number"]) (ps := ["_law_one", "_law_other"]) (b := b_law_times) F sc_law_times fun cdv A outer s H E hr tk hp => ?_
  have hc : (bodyX P w K mg base ["_law_one", "_law_other", "_law_found", "_law_i", "_law_j", "_law_middle", "_law_pair", "_law_number"] "_law_times" (defScope s_law_times) f cdv A outer s H E).calm = true := rfl
  have hN : (bodyX P w K mg base ["_law_one", "_law_other", "_law_found", "_law_i", "_law_j", "_law_middle", "_law_pair", "_law_number"] "_law_times" (defScope s_law_times) f cdv A outer s H E).N.Nodup := sc_law_times.nd
  exact (r_scons (r_set 2 hN (r_lst (r_cons (r_lst (r_cons r_int (r_cons r_int (r_cons r_int r_nil)))) (r_cons (r_lst (r_cons r_int (r_cons r_int (r_cons r_int r_nil)))) (r_cons (r_lst (r_cons r_int (r_cons r_int (r_cons r_int r_nil)))) r_nil)))))
 (r_scons (r_for hp hc (i_range1 n_range r_int) (g_name 3 hN)
 (r_sone (r_for hp hc (i_range1 n_range r_int) (g_name 4 hN)
 (r_sone (r_for hp hc (i_range1 n_range r_int) (g_name 5 hN)
 (r_scons (r_set 6 hN (r_lst (r_cons (r_biT s_int n_int (r_cons (r_at hr.room (r_at hr.room (r_var 0) (r_var 3)) (r_var 5)) r_nil)) (r_cons (r_biT s_int n_int (r_cons (r_at hr.room (r_at hr.room (r_var 1) (r_var 5)) (r_var 4)) r_nil)) r_nil))))
 (r_sone (r_ifs (r_tcmp s_oGt (r_biB (s_min hc) n_min (r_cons (r_lc hc hN [("_law_number", 7)] (i_seq (r_var 6)) (fun _ _ _ _ _ => (g_name 7 hN)) (fun _ _ _ _ _ => r_tsnil) (fun _ _ _ _ _ => (r_biT s_int n_int (r_cons (r_var 7) r_nil))) gl_name) r_nil)) r_int)
 (r_sone (r_sub hr.room (r_at hr.room (r_var 2) (r_var 3)) (r_var 4) (r_biB (s_max hc) n_max (r_cons (r_biT s_int n_int (r_cons (r_at hr.room (r_at hr.room (r_var 2) (r_var 3)) (r_var 4)) r_nil)) (r_cons (r_biB (s_max hc) n_max (r_cons (r_lc hc hN [("_law_number", 7)] (i_seq (r_var 6)) (fun _ _ _ _ _ => (g_name 7 hN)) (fun _ _ _ _ _ => r_tsnil) (fun _ _ _ _ _ => (r_biT s_int n_int (r_cons (r_var 7) r_nil))) gl_name) r_nil)) r_nil)))))
 r_snil))))))))
 (r_sone (r_ret (r_var 2)))))
theorem sc_is_name : FnScope ["value", "letter"] ["value"] (defScope s_is_name) := ⟨rfl, rfl, rfl, by decide +kernel, rfl, by decide +kernel, by decide +kernel⟩
theorem ok_is_name (F : FunD K "is_name" "is_name" (defArgs s_is_name) (defBody s_is_name) (defScope s_is_name) [] [] f fd) (n_isinstance : mg "isinstance" = none) (n_str : mg "str" = none) (n_len : mg "len" = none) (g_MOST_LETTERS : GlobC K mg "MOST_LETTERS" (.int 12)) (g_LETTERS : GlobC K mg "LETTERS" (.str "abcdefghijklmnopqrstuvwxyz")) : FnG P w K mg base 1 f fd ["value"] (spD K cm 1 d_is_name) := by
  refine FnG.of (N := ["value", "letter"]) (ps := ["value"]) (b := b_is_name) F sc_is_name fun cdv A outer s H E hr tk hp => ?_
  have hc : (bodyX P w K mg base ["value", "letter"] "is_name" (defScope s_is_name) f cdv A outer s H E).calm = true := rfl
  have hN : (bodyX P w K mg base ["value", "letter"] "is_name" (defScope s_is_name) f cdv A outer s H E).N.Nodup := sc_is_name.nd
  exact (r_scons (r_ifs (r_tw (r_wor (r_tnot (r_truth (r_is (r_var 0) n_isinstance n_str))) (r_wor1 (r_tnot (r_tchain s_oLe s_oLe r_int (r_biB s_len n_len (r_cons (r_var 0) r_nil)) (r_glob g_MOST_LETTERS))))))
 (r_sone (r_ret r_bl))
 r_snil)
 (r_sone (r_ret (r_cmp (s_oEq hr.room) (r_lc hc hN [("letter", 1)] (i_seq (r_var 0)) (fun _ _ _ _ _ => (g_name 1 hN)) (fun _ _ _ _ _ => (r_tsone (r_tcmp (s_oNotIn hr.room) (r_var 1) (r_glob g_LETTERS)))) (fun _ _ _ _ _ => (r_var 1)) gl_name) (r_lst r_nil)))))
theorem sc_is_whole : FnScope ["value"] ["value"] (defScope s_is_whole) := ⟨rfl, rfl, rfl, by decide +kernel, rfl, by decide +kernel, by decide +kernel⟩
theorem ok_is_whole (F : FunD K "is_whole" "is_whole" (defArgs s_is_whole) (defBody s_is_whole) (defScope s_is_whole) [] [] f fd) (n_isinstance : mg "isinstance" = none) (n_int : mg "int" = none) (n_bool : mg "bool" = none) : FnG P w K mg base 1 f fd ["value"] (spD K cm 1 d_is_whole) := by
  refine FnG.of (N := ["value"]) (ps := ["value"]) (b := b_is_whole) F sc_is_whole fun cdv A outer s H E hr tk hp => ?_
  have hc : (bodyX P w K mg base ["value"] "is_whole" (defScope s_is_whole) f cdv A outer s H E).calm = true := rfl
  have hN : (bodyX P w K mg base ["value"] "is_whole" (defScope s_is_whole) f cdv A outer s H E).N.Nodup := sc_is_whole.nd
  exact (r_sone (r_ret (r_and (r_is (r_var 0) n_isinstance n_int) (r_one (r_notv (r_is (r_var 0) n_isinstance n_bool))))))
theorem sc_is_arc : FnScope ["value", "sources", "targets"] ["value", "sources", "targets"] (defScope s_is_arc) := ⟨rfl, rfl, rfl, by decide +kernel, rfl, by decide +kernel, by decide +kernel⟩
theorem ok_is_arc (F : FunD K "is_arc" "is_arc" (defArgs s_is_arc) (defBody s_is_arc) (defScope s_is_arc) [] [] f fd) (n_isinstance : mg "isinstance" = none) (n_tuple : mg "tuple" = none) (n_len : mg "len" = none) (c_d_is_whole : FnAt P w K mg base cm 1 "is_whole" d_is_whole [[]]) (n_bool : mg "bool" = none) : FnG P w K mg base 2 f fd ["value", "sources", "targets"] (spD K cm 3 d_is_arc) := by
  refine FnG.of (N := ["value", "sources", "targets"]) (ps := ["value", "sources", "targets"]) (b := b_is_arc) F sc_is_arc fun cdv A outer s H E hr tk hp => ?_
  have hc : (bodyX P w K mg base ["value", "sources", "targets"] "is_arc" (defScope s_is_arc) f cdv A outer s H E).calm = true := rfl
  have hN : (bodyX P w K mg base ["value", "sources", "targets"] "is_arc" (defScope s_is_arc) f cdv A outer s H E).N.Nodup := sc_is_arc.nd
  exact (r_scons (r_ifs (r_tw (r_wor (r_tnot (r_truth (r_is (r_var 0) n_isinstance n_tuple))) (r_wor (r_tcmp (s_oNe hr.room) (r_biB s_len n_len (r_cons (r_var 0) r_nil)) r_int) (r_wor (r_tnot (r_truth (r_call c_d_is_whole hr tk (by decide) (.head _) (r_cons (r_at hr.room (r_var 0) r_int) r_nil)))) (r_wor1 (r_tnot (r_truth (r_call c_d_is_whole hr tk (by decide) (.head _) (r_cons (r_at hr.room (r_var 0) r_int) r_nil)))))))))
 (r_sone (r_ret r_bl))
 r_snil)
 (r_sone (r_ret (r_and (r_chain s_oLe s_oLt r_int (r_at hr.room (r_var 0) r_int) (r_var 1)) (r_and (r_chain s_oLe s_oLt r_int (r_at hr.room (r_var 0) r_int) (r_var 2)) (r_one (r_is (r_at hr.room (r_var 0) r_int) n_isinstance n_bool)))))))
theorem sc_is_table : FnScope ["value", "arcs", "arc", "places", "i", "j", "falls"] ["value"] (defScope s_is_table) := ⟨rfl, rfl, rfl, by decide +kernel, rfl, by decide +kernel, by decide +kernel⟩
theorem ok_is_table (F : FunD K "is_table" "is_table" (defArgs s_is_table) (defBody s_is_table) (defScope s_is_table) [] [] f fd) (n_isinstance : mg "isinstance" = none) (n_tuple : mg "tuple" = none) (n_len : mg "len" = none) (c_d_is_name : FnAt P w K mg base cm 1 "is_name" d_is_name [[]]) (g_MOST_MEASURES : GlobC K mg "MOST_MEASURES" (.int 3)) (c_d_is_arc : FnAt P w K mg base cm 2 "is_arc" d_is_arc [[]]) (n_int : mg "int" = none) (n_sorted : mg "sorted" = none) (n_set : mg "set" = none) : FnG P w K mg base 3 f fd ["value"] (spD K cm 1 d_is_table) := by
  refine FnG.of (N := ["value", "arcs", "arc", "places", "i", "j", "falls"]) (ps := ["value"]) (b := b_is_table) F sc_is_table fun cdv A outer s H E hr tk hp => ?_
  have hc : (bodyX P w K mg base ["value", "arcs", "arc", "places", "i", "j", "falls"] "is_table" (defScope s_is_table) f cdv A outer s H E).calm = true := rfl
  have hN : (bodyX P w K mg base ["value", "arcs", "arc", "places", "i", "j", "falls"] "is_table" (defScope s_is_table) f cdv A outer s H E).N.Nodup := sc_is_table.nd
  exact (r_scons (r_ifs (r_tw (r_wor (r_tnot (r_truth (r_is (r_var 0) n_isinstance n_tuple))) (r_wor (r_tcmp (s_oNe hr.room) (r_biB s_len n_len (r_cons (r_var 0) r_nil)) r_int) (r_wor (r_tnot (r_truth (r_call c_d_is_name hr tk (by decide) (.head _) (r_cons (r_at hr.room (r_var 0) r_int) r_nil)))) (r_wor1 (r_tnot (r_truth (r_call c_d_is_name hr tk (by decide) (.head _) (r_cons (r_at hr.room (r_var 0) r_int) r_nil)))))))))
 (r_sone (r_ret r_bl))
 r_snil)
 (r_scons (r_set 1 hN (r_at hr.room (r_var 0) r_int))
 (r_scons (r_ifs (r_tw (r_wor (r_tnot (r_truth (r_is (r_var 1) n_isinstance n_tuple))) (r_wor1 (r_tcmp (s_oNe hr.room) (r_lc hc hN [("arc", 2)] (i_seq (r_var 1)) (fun _ _ _ _ _ => (g_name 2 hN)) (fun _ _ _ _ _ => (r_tsone (r_tnot (r_truth (r_call c_d_is_arc hr takes_blk (by decide) (.head _) (r_cons (r_var 2) (r_cons (r_glob g_MOST_MEASURES) (r_cons (r_glob g_MOST_MEASURES) r_nil)))))))) (fun _ _ _ _ _ => (r_var 2)) gl_name) (r_lst r_nil)))))
 (r_sone (r_ret r_bl))
 r_snil)
 (r_scons (r_setLc hc hN 3 [("i", 4), ("j", 5), ("falls", 6)] (i_seq (r_var 1)) (fun _ _ _ _ _ => (g_tup hc (g_cons (g_name 4 hN) (g_cons (g_name 5 hN) (g_cons (g_name 6 hN) g_nil))))) (fun _ _ _ _ _ => r_tsnil) (fun _ _ _ _ _ => (r_tup (r_cons (r_biT s_int n_int (r_cons (r_var 4) r_nil)) (r_cons (r_biT s_int n_int (r_cons (r_var 5) r_nil)) r_nil)))) (gl_tup (gls_cons gl_name (gls_cons gl_name (gls_cons gl_name gls_nil)))))
 (r_sone (r_ret (r_cmp (s_oEq hr.room) (r_var 3) (r_sortset hc hr.room n_sorted n_set (r_var 3)))))))))
theorem sc_check_table : FnScope ["value"] ["value"] (defScope s_check_table) := ⟨rfl, rfl, rfl, by decide +kernel, rfl, by decide +kernel, by decide +kernel⟩
theorem ok_check_table (F : FunD K "check_table" "check_table" (defArgs s_check_table) (defBody s_check_table) (defScope s_check_table) [] [] f fd) (c_d_is_table : FnAt P w K mg base cm 3 "is_table" d_is_table [[]]) : FnG P w K mg base 4 f fd ["value"] (spD K cm 1 d_check_table) := by
  refine FnG.of (N := ["value"]) (ps := ["value"]) (b := b_check_table) F sc_check_table fun cdv A outer s H E hr tk hp => ?_
  have hc : (bodyX P w K mg base ["value"] "check_table" (defScope s_check_table) f cdv A outer s H E).calm = true := rfl
  have hN : (bodyX P w K mg base ["value"] "check_table" (defScope s_check_table) f cdv A outer s H E).N.Nodup := sc_check_table.nd
  exact (r_sone (r_ifs (r_tnot (r_truth (r_call c_d_is_table hr tk (by decide) (.head _) (r_cons (r_var 0) r_nil))))
 (r_sone r_never)
 r_snil))
theorem sc_arcs_of : FnScope ["found", "i", "j"] ["found"] (defScope s_arcs_of) := ⟨rfl, rfl, rfl, by decide +kernel, rfl, by decide +kernel, by decide +kernel⟩
theorem ok_arcs_of (F : FunD K "arcs_of" "arcs_of" (defArgs s_arcs_of) (defBody s_arcs_of) (defScope s_arcs_of) [] [] f fd) (n_int : mg "int" = none) (n_sorted : mg "sorted" = none) (n_tuple : mg "tuple" = none) : FnG P w K mg base 1 f fd ["found"] (spD K cm 1 d_arcs_of) := by
  refine FnG.of (N := ["found", "i", "j"]) (ps := ["found"]) (b := b_arcs_of) F sc_arcs_of fun cdv A outer s H E hr tk hp => ?_
  have hc : (bodyX P w K mg base ["found", "i", "j"] "arcs_of" (defScope s_arcs_of) f cdv A outer s H E).calm = true := rfl
  have hN : (bodyX P w K mg base ["found", "i", "j"] "arcs_of" (defScope s_arcs_of) f cdv A outer s H E).N.Nodup := sc_arcs_of.nd
  exact (r_sone (r_ret (r_biT s_tuple n_tuple (r_cons (r_lc hc hN [("i", 1), ("j", 2)] (i_seq (r_biB (s_sorted hr.room) n_sorted (r_cons (r_lc hc hN [("i", 1), ("j", 2)] (i_seq (r_var 0)) (fun _ _ _ _ _ => (g_tup hc (g_cons (g_name 1 hN) (g_cons (g_name 2 hN) g_nil)))) (fun _ _ _ _ _ => r_tsnil) (fun _ _ _ _ _ => (r_tup (r_cons (r_biT s_int n_int (r_cons (r_var 1) r_nil)) (r_cons (r_biT s_int n_int (r_cons (r_var 2) r_nil)) r_nil)))) (gl_tup (gls_cons gl_name (gls_cons gl_name gls_nil)))) r_nil))) (fun _ _ _ _ _ => (g_tup hc (g_cons (g_name 1 hN) (g_cons (g_name 2 hN) g_nil)))) (fun _ _ _ _ _ => r_tsnil) (fun _ _ _ _ _ => (r_tup (r_cons (r_var 1) (r_cons (r_var 2) (r_cons (r_at hr.room (r_var 0) (r_tup (r_cons (r_var 1) (r_cons (r_var 2) r_nil)))) r_nil))))) (gl_tup (gls_cons gl_name (gls_cons gl_name gls_nil)))) r_nil))))
theorem sc_joined : FnScope ["one", "other", "found", "i", "middle", "falls", "begin", "j", "more"] ["one", "other"] (defScope s_joined) := ⟨rfl, rfl, rfl, by decide +kernel, rfl, by decide +kernel, by decide +kernel⟩
theorem ok_joined (F : FunD K "joined" "joined" (defArgs s_joined) (defBody s_joined) (defScope s_joined) [] [] f fd) (c_d_arcs_of : FnAt P w K mg base cm 1 "arcs_of" d_arcs_of [[]]) : FnG P w K mg base 2 f fd ["one", "other"] (spD K cm 2 d_joined) := by
  refine FnG.of (N := ["one", "other", "found", "i", "middle", "falls", "begin", "j", "more"]) (ps := ["one", "other"]) (b := b_joined) F sc_joined fun cdv A outer s H E hr tk hp => ?_
  have hc : (bodyX P w K mg base ["one", "other", "found", "i", "middle", "falls", "begin", "j", "more"] "joined" (defScope s_joined) f cdv A outer s H E).calm = true := rfl
  have hN : (bodyX P w K mg base ["one", "other", "found", "i", "middle", "falls", "begin", "j", "more"] "joined" (defScope s_joined) f cdv A outer s H E).N.Nodup := sc_joined.nd
  exact (r_scons (r_set 2 hN r_dT)
 (r_scons (r_for hp hc (i_seq (r_at hr.room (r_var 0) r_int)) (g_tup hc (g_cons (g_name 3 hN) (g_cons (g_name 4 hN) (g_cons (g_name 5 hN) g_nil))))
 (r_sone (r_for hp hc (i_seq (r_at hr.room (r_var 1) r_int)) (g_tup hc (g_cons (g_name 6 hN) (g_cons (g_name 7 hN) (g_cons (g_name 8 hN) g_nil))))
 (r_sone (r_ifs (r_tcmp (s_oEq hr.room) (r_var 6) (r_var 4))
 (r_sone (r_sub hr.room (r_var 2) (r_tup (r_cons (r_var 3) (r_cons (r_var 7) r_nil))) (r_or (r_get2 hr.room (r_var 2) (r_tup (r_cons (r_var 3) (r_cons (r_var 7) r_nil))) r_bl) (r_or (r_var 5) (r_one (r_var 8))))))
 r_snil)))))
 (r_sone (r_ret (r_tup (r_cons (r_at hr.room (r_var 0) r_int) (r_cons (r_at hr.room (r_var 1) r_int) (r_cons (r_call c_d_arcs_of hr tk (by decide) (.head _) (r_cons (r_var 2) r_nil)) r_nil))))))))
theorem sc_product : FnScope ["one", "other"] ["one", "other"] (defScope s_product) := ⟨rfl, rfl, rfl, by decide +kernel, rfl, by decide +kernel, by decide +kernel⟩
theorem ok_product (F : FunD K "product" "product" (defArgs s_product) (defBody s_product) (defScope s_product) [] [] f fd) (c_d_check_table : FnAt P w K mg base cm 4 "check_table" d_check_table [[]]) (c_d_joined : FnAt P w K mg base cm 2 "joined" d_joined [[]]) : FnG P w K mg base 5 f fd ["one", "other"] (spD K cm 2 d_product) := by
  refine FnG.of (N := ["one", "other"]) (ps := ["one", "other"]) (b := b_product) F sc_product fun cdv A outer s H E hr tk hp => ?_
  have hc : (bodyX P w K mg base ["one", "other"] "product" (defScope s_product) f cdv A outer s H E).calm = true := rfl
  have hN : (bodyX P w K mg base ["one", "other"] "product" (defScope s_product) f cdv A outer s H E).N.Nodup := sc_product.nd
  exact (r_scons (r_expr (r_call c_d_check_table hr tk (by decide) (.head _) (r_cons (r_var 0) r_nil)))
 (r_scons (r_expr (r_call c_d_check_table hr tk (by decide) (.head _) (r_cons (r_var 1) r_nil)))
 (r_scons (r_ifs (r_tcmp (s_oNe hr.room) (r_at hr.room (r_var 0) r_int) (r_at hr.room (r_var 1) r_int))
 (r_sone r_never)
 r_snil)
 (r_sone (r_ret (r_call c_d_joined hr tk (by decide) (.head _) (r_cons (r_var 0) (r_cons (r_var 1) r_nil))))))))
theorem sc_falls_around : FnScope ["table", "found", "turn", "arc"] ["table"] (defScope s_falls_around) := ⟨rfl, rfl, rfl, by decide +kernel, rfl, by decide +kernel, by decide +kernel⟩
theorem ok_falls_around (F : FunD K "falls_around" "falls_around" (defArgs s_falls_around) (defBody s_falls_around) (defScope s_falls_around) [] [] f fd) (g_MOST_MEASURES : GlobC K mg "MOST_MEASURES" (.int 3)) (n_range : mg "range" = none) (c_d_joined : FnAt P w K mg base cm 2 "joined" d_joined [[]]) : FnG P w K mg base 3 f fd ["table"] (spD K cm 1 d_falls_around) := by
  refine FnG.of (N := ["table", "found", "turn", "arc"]) (ps := ["table"]) (b := b_falls_around) F sc_falls_around fun cdv A outer s H E hr tk hp => ?_
  have hc : (bodyX P w K mg base ["table", "found", "turn", "arc"] "falls_around" (defScope s_falls_around) f cdv A outer s H E).calm = true := rfl
  have hN : (bodyX P w K mg base ["table", "found", "turn", "arc"] "falls_around" (defScope s_falls_around) f cdv A outer s H E).N.Nodup := sc_falls_around.nd
  exact (r_scons (r_set 1 hN (r_var 0))
 (r_scons (r_for hp hc (i_range1 n_range (r_glob g_MOST_MEASURES)) (g_name 2 hN)
 (r_scons (r_ifs (r_tcmp (s_oNe hr.room) (r_lc hc hN [("arc", 3)] (i_seq (r_at hr.room (r_var 1) r_int)) (fun _ _ _ _ _ => (g_name 3 hN)) (fun _ _ _ _ _ => (r_tsone (r_tw (r_wand (r_tcmp (s_oEq hr.room) (r_at hr.room (r_var 3) r_int) (r_at hr.room (r_var 3) r_int)) (r_wand1 (r_truth (r_at hr.room (r_var 3) r_int))))))) (fun _ _ _ _ _ => (r_var 3)) gl_name) (r_lst r_nil))
 (r_sone (r_ret r_bl))
 r_snil)
 (r_sone (r_set 1 hN (r_call c_d_joined hr tk (by decide) (.head _) (r_cons (r_var 1) (r_cons (r_var 0) r_nil)))))))
 (r_sone (r_ret r_bl))))
theorem sc_has_fall : FnScope ["table"] ["table"] (defScope s_has_fall) := ⟨rfl, rfl, rfl, by decide +kernel, rfl, by decide +kernel, by decide +kernel⟩
theorem ok_has_fall (F : FunD K "has_fall" "has_fall" (defArgs s_has_fall) (defBody s_has_fall) (defScope s_has_fall) [] [] f fd) (c_d_check_table : FnAt P w K mg base cm 4 "check_table" d_check_table [[]]) (c_d_falls_around : FnAt P w K mg base cm 3 "falls_around" d_falls_around [[]]) : FnG P w K mg base 5 f fd ["table"] (spD K cm 1 d_has_fall) := by
  refine FnG.of (N := ["table"]) (ps := ["table"]) (b := b_has_fall) F sc_has_fall fun cdv A outer s H E hr tk hp => ?_
  have hc : (bodyX P w K mg base ["table"] "has_fall" (defScope s_has_fall) f cdv A outer s H E).calm = true := rfl
  have hN : (bodyX P w K mg base ["table"] "has_fall" (defScope s_has_fall) f cdv A outer s H E).N.Nodup := sc_has_fall.nd
  exact (r_scons (r_expr (r_call c_d_check_table hr tk (by decide) (.head _) (r_cons (r_var 0) r_nil)))
 (r_sone (r_ret (r_and (r_cmp (s_oEq hr.room) (r_at hr.room (r_var 0) r_int) (r_at hr.room (r_var 0) r_int)) (r_one (r_call c_d_falls_around hr tk (by decide) (.head _) (r_cons (r_var 0) r_nil)))))))
theorem sc_law_around : FnScope ["_law_arcs_here", "_law_i", "_law_j", "_law_falls", "_law_second", "_law_k", "_law_also", "_law_third", "_law_last", "_law_more"] ["_law_arcs_here"] (defScope s_law_around) := ⟨rfl, rfl, rfl, by decide +kernel, rfl, by decide +kernel, by decide +kernel⟩
theorem ok_law_around (F : FunD K "_law_around" "_law_around" (defArgs s_law_around) (defBody s_law_around) (defScope s_law_around) [] [] f fd)  : FnG P w K mg base 1 f fd ["_law_arcs_here"] (spD K cm 1 d_law_around) := by
  refine FnG.of (N := ["_law_arcs_here", "_law_i", "_law_j", "_law_falls", "_law_second", "_law_k", "_law_also", "_law_third", "_law_last", "_law_more"]) (ps := ["_law_arcs_here"]) (b := b_law_around) F sc_law_around fun cdv A outer s H E hr tk hp => ?_
  have hc : (bodyX P w K mg base ["_law_arcs_here", "_law_i", "_law_j", "_law_falls", "_law_second", "_law_k", "_law_also", "_law_third", "_law_last", "_law_more"] "_law_around" (defScope s_law_around) f cdv A outer s H E).calm = true := rfl
  have hN : (bodyX P w K mg base ["_law_arcs_here", "_law_i", "_law_j", "_law_falls", "_law_second", "_law_k", "_law_also", "_law_third", "_law_last", "_law_more"] "_law_around" (defScope s_law_around) f cdv A outer s H E).N.Nodup := sc_law_around.nd
  exact (r_scons (r_for hp hc (i_seq (r_var 0)) (g_tup hc (g_cons (g_name 1 hN) (g_cons (g_name 2 hN) (g_cons (g_name 3 hN) g_nil))))
 (r_scons (r_ifs (r_tw (r_wand (r_tcmp (s_oEq hr.room) (r_var 1) (r_var 2)) (r_wand1 (r_truth (r_var 3)))))
 (r_sone (r_ret r_bl))
 r_snil)
 (r_sone (r_for hp hc (i_seq (r_var 0)) (g_tup hc (g_cons (g_name 4 hN) (g_cons (g_name 5 hN) (g_cons (g_name 6 hN) g_nil))))
 (r_scons (r_ifs (r_tw (r_wand (r_tcmp (s_oEq hr.room) (r_var 4) (r_var 2)) (r_wand (r_tcmp (s_oEq hr.room) (r_var 5) (r_var 1)) (r_wand1 (r_tw (r_wor (r_truth (r_var 3)) (r_wor1 (r_truth (r_var 6)))))))))
 (r_sone (r_ret r_bl))
 r_snil)
 (r_sone (r_for hp hc (i_seq (r_var 0)) (g_tup hc (g_cons (g_name 7 hN) (g_cons (g_name 8 hN) (g_cons (g_name 9 hN) g_nil))))
 (r_sone (r_ifs (r_tw (r_wand (r_tcmp (s_oEq hr.room) (r_var 4) (r_var 2)) (r_wand (r_tcmp (s_oEq hr.room) (r_var 7) (r_var 5)) (r_wand (r_tcmp (s_oEq hr.room) (r_var 8) (r_var 1)) (r_wand1 (r_tw (r_wor (r_truth (r_var 3)) (r_wor (r_truth (r_var 6)) (r_wor1 (r_truth (r_var 9)))))))))))
 (r_sone (r_ret r_bl))
 r_snil)))))))))
 (r_sone (r_ret r_bl)))
theorem sc_check_whole : FnScope ["value", "least", "most"] ["value", "least", "most"] (defScope s_check_whole) := ⟨rfl, rfl, rfl, by decide +kernel, rfl, by decide +kernel, by decide +kernel⟩
theorem ok_check_whole (F : FunD K "check_whole" "check_whole" (defArgs s_check_whole) (defBody s_check_whole) (defScope s_check_whole) [(.non)] [] f fd) (c_d_is_whole : FnAt P w K mg base cm 1 "is_whole" d_is_whole [[]]) : FnG P w K mg base 2 f fd ["value", "least", "most"] (spD K cm 3 d_check_whole) := by
  refine FnG.of (N := ["value", "least", "most"]) (ps := ["value", "least", "most"]) (b := b_check_whole) F sc_check_whole fun cdv A outer s H E hr tk hp => ?_
  have hc : (bodyX P w K mg base ["value", "least", "most"] "check_whole" (defScope s_check_whole) f cdv A outer s H E).calm = true := rfl
  have hN : (bodyX P w K mg base ["value", "least", "most"] "check_whole" (defScope s_check_whole) f cdv A outer s H E).N.Nodup := sc_check_whole.nd
  exact (r_sone (r_ifs (r_tw (r_wor (r_tnot (r_truth (r_call c_d_is_whole hr tk (by decide) (.head _) (r_cons (r_var 0) r_nil)))) (r_wor (r_tcmp s_oLt (r_var 0) (r_var 1)) (r_wor1 (r_tw (r_wand (r_tnotN (r_var 2)) (r_wand1 (r_tcmp s_oGt (r_var 0) (r_var 2)))))))))
 (r_sone r_never)
 r_snil))
theorem sc_power : FnScope ["table", "count", "found", "base", "left"] ["table", "count"] (defScope s_power) := ⟨rfl, rfl, rfl, by decide +kernel, rfl, by decide +kernel, by decide +kernel⟩
theorem ok_power (F : FunD K "power" "power" (defArgs s_power) (defBody s_power) (defScope s_power) [] [] f fd) (c_d_check_table : FnAt P w K mg base cm 4 "check_table" d_check_table [[]]) (c_d_check_whole : FnAt P w K mg base cm 2 "check_whole" d_check_whole [[], [.non]]) (c_d_joined : FnAt P w K mg base cm 2 "joined" d_joined [[]]) : FnG P w K mg base 5 f fd ["table", "count"] (spD K cm 2 d_power) := by
  refine FnG.of (N := ["table", "count", "found", "base", "left"]) (ps := ["table", "count"]) (b := b_power) F sc_power fun cdv A outer s H E hr tk hp => ?_
  have hc : (bodyX P w K mg base ["table", "count", "found", "base", "left"] "power" (defScope s_power) f cdv A outer s H E).calm = true := rfl
  have hN : (bodyX P w K mg base ["table", "count", "found", "base", "left"] "power" (defScope s_power) f cdv A outer s H E).N.Nodup := sc_power.nd
  exact (r_scons (r_expr (r_call c_d_check_table hr tk (by decide) (.head _) (r_cons (r_var 0) r_nil)))
 (r_scons (r_ifs (r_tcmp (s_oNe hr.room) (r_at hr.room (r_var 0) r_int) (r_at hr.room (r_var 0) r_int))
 (r_sone r_never)
 r_snil)
 (r_scons (r_expr (r_call c_d_check_whole hr tk (by decide) (.tail _ (.head _)) (r_cons (r_var 1) (r_cons r_int r_nil))))
 (r_scons (r_par3 2 3 4 hc hN (r_cons r_non (r_cons (r_var 0) (r_cons (r_var 1) r_nil))))
 (r_scons (r_while hp (r_tcmp s_oGt (r_var 4) r_int)
 (r_scons (r_ifs (r_tcmp (s_oEq hr.room) (r_op s_oMod (r_var 4) r_int) r_int)
 (r_sone (r_set 2 hN (r_if (r_tisN (r_var 2)) (r_var 3) (r_call c_d_joined hr tk (by decide) (.head _) (r_cons (r_var 2) (r_cons (r_var 3) r_nil))))))
 r_snil)
 (r_sone (r_par 3 4 hc hN (r_cons (r_call c_d_joined hr tk (by decide) (.head _) (r_cons (r_var 3) (r_cons (r_var 3) r_nil))) (r_cons (r_op s_oDiv (r_var 4) r_int) r_nil))))))
 (r_sone (r_ret (r_var 2))))))))
theorem sc_law_power : FnScope ["_law_grid_here", "_law_times_here", "_law_found", "_law_base"] ["_law_grid_here", "_law_times_here"] (defScope s_law_power) := ⟨rfl, rfl, rfl, by decide +kernel, rfl, by decide +kernel, by decide +kernel⟩
theorem ok_law_power (F : FunD K "_law_power" "_law_power" (defArgs s_law_power) (defBody s_law_power) (defScope s_law_power) [] [] f fd) (n_int : mg "int" = none) (c_d_law_times : FnAt P w K mg base cm 1 "_law_times" d_law_times [[]]) : FnG P w K mg base 2 f fd ["_law_grid_here", "_law_times_here"] (spD K cm 2 d_law_power) := by
  refine FnG.of (N := ["_law_grid_here", "_law_times_here", "_law_found", "_law_base"]) (ps := ["_law_grid_here", "_law_times_here"]) (b := b_law_power) F sc_law_power fun cdv A outer s H E hr tk hp => ?_
  have hc : (bodyX P w K mg base ["_law_grid_here", "_law_times_here", "_law_found", "_law_base"] "_law_power" (defScope s_law_power) f cdv A outer s H E).calm = true := rfl
  have hN : (bodyX P w K mg base ["_law_grid_here", "_law_times_here", "_law_found", "_law_base"] "_law_power" (defScope s_law_power) f cdv A outer s H E).N.Nodup := sc_law_power.nd
  exact (r_scons (r_par 2 3 hc hN (r_cons r_non (r_cons (r_var 0) r_nil)))
 (r_scons (r_while hp (r_tcmp s_oGt (r_var 1) r_int)
 (r_scons (r_ifs (r_tcmp (s_oEq hr.room) (r_op s_oMod (r_biT s_int n_int (r_cons (r_var 1) r_nil)) r_int) r_int)
 (r_sone (r_set 2 hN (r_if (r_tisN (r_var 2)) (r_var 3) (r_call c_d_law_times hr tk (by decide) (.head _) (r_cons (r_var 2) (r_cons (r_var 3) r_nil))))))
 r_snil)
 (r_sone (r_par 3 1 hc hN (r_cons (r_call c_d_law_times hr tk (by decide) (.head _) (r_cons (r_var 3) (r_cons (r_var 3) r_nil))) (r_cons (r_op s_oDiv (r_var 1) r_int) r_nil))))))
 (r_sone (r_ret (r_var 2)))))
theorem sc_law : FnScope ["_law_script", "_law_index", "_law_generator_here", "_law_one", "_law_other", "_law_due", "_law_turn", "_law_table_here", "_law_grid_here", "_law_found", "_law_few", "_law_more", "_law_many"] ["_law_script"] (defScope s_law) := ⟨rfl, rfl, rfl, by decide +kernel, rfl, by decide +kernel, by decide +kernel⟩
theorem ok_law (F : FunD K "law" "law" (defArgs s_law) (defBody s_law) (defScope s_law) [] [] f fd) (n_range : mg "range" = none) (c_d_law_generator : FnAt P w K mg base cm 2 "_law_generator" d_law_generator [[]]) (c_d_law_table : FnAt P w K mg base cm 4 "_law_table" d_law_table [[]]) (c_d_law_grid : FnAt P w K mg base cm 1 "_law_grid" d_law_grid [[]]) (c_d_law_times : FnAt P w K mg base cm 1 "_law_times" d_law_times [[]]) (c_d_law_listed : FnAt P w K mg base cm 1 "_law_listed" d_law_listed [[]]) (c_d_product : FnAt P w K mg base cm 5 "product" d_product [[]]) (n_repr : mg "repr" = none) (c_d_is_table : FnAt P w K mg base cm 3 "is_table" d_is_table [[]]) (c_d_has_fall : FnAt P w K mg base cm 5 "has_fall" d_has_fall [[]]) (c_d_law_around : FnAt P w K mg base cm 1 "_law_around" d_law_around [[]]) (c_d_law_random : FnAt P w K mg base cm 2 "_law_random" d_law_random [[]]) (c_d_power : FnAt P w K mg base cm 5 "power" d_power [[]]) (c_d_law_power : FnAt P w K mg base cm 2 "_law_power" d_law_power [[]]) : FnG P w K mg base 6 f fd ["_law_script"] (spD K cm 1 d_law) := by
  refine FnG.of (N := ["_law_script", "_law_index", "_law_generator_here", "_law_one", "_law_other", "_law_due", "_law_turn", "_law_table_here", "_law_grid_here", "_law_found", "_law_few", "_law_more", "_law_many"]) (ps := ["_law_script"]) (b := b_law) F sc_law fun cdv A outer s H E hr tk hp => ?_
  have hc : (bodyX P w K mg base ["_law_script", "_law_index", "_law_generator_here", "_law_one", "_law_other", "_law_due", "_law_turn", "_law_table_here", "_law_grid_here", "_law_found", "_law_few", "_law_more", "_law_many"] "law" (defScope s_law) f cdv A outer s H E).calm = true := rfl
  have hN : (bodyX P w K mg base ["_law_script", "_law_index", "_law_generator_here", "_law_one", "_law_other", "_law_due", "_law_turn", "_law_table_here", "_law_grid_here", "_law_found", "_law_few", "_law_more", "_law_many"] "law" (defScope s_law) f cdv A outer s H E).N.Nodup := sc_law.nd
  exact (r_scons (r_for hp hc (i_range1 n_range r_int) (g_name 1 hN)
 (r_scons (r_set 2 hN (r_call c_d_law_generator hr tk (by decide) (.head _) (r_cons (r_var 0) (r_cons (r_var 1) r_nil))))
 (r_scons (r_par 3 4 hc hN (r_cons (r_call c_d_law_table hr tk (by decide) (.head _) (r_cons (r_var 2) (r_cons r_str (r_cons r_str r_nil)))) (r_cons (r_call c_d_law_table hr tk (by decide) (.head _) (r_cons (r_var 2) (r_cons r_str (r_cons r_str r_nil)))) r_nil)))
 (r_scons (r_set 5 hN (r_tup (r_cons r_str (r_cons r_str (r_cons (r_call c_d_law_listed hr tk (by decide) (.head _) (r_cons (r_call c_d_law_times hr tk (by decide) (.head _) (r_cons (r_call c_d_law_grid hr tk (by decide) (.head _) (r_cons (r_at hr.room (r_var 3) r_int) r_nil)) (r_cons (r_call c_d_law_grid hr tk (by decide) (.head _) (r_cons (r_at hr.room (r_var 4) r_int) r_nil)) r_nil))) r_nil)) r_nil)))))
 (r_scons (r_ifs (r_tw (r_wor (r_tcmp (s_oNe hr.room) (r_biB (s_repr hr) n_repr (r_cons (r_call c_d_product hr tk (by decide) (.head _) (r_cons (r_var 3) (r_cons (r_var 4) r_nil))) r_nil)) (r_biB (s_repr hr) n_repr (r_cons (r_var 5) r_nil))) (r_wor1 (r_tnot (r_truth (r_call c_d_is_table hr tk (by decide) (.head _) (r_cons (r_call c_d_product hr tk (by decide) (.head _) (r_cons (r_var 3) (r_cons (r_var 4) r_nil))) r_nil)))))))
 (r_sone (r_ret r_bl))
 r_snil)
 (r_scons (r_ifs (r_tcmp (s_oNe hr.room) (r_biB (s_repr hr) n_repr (r_cons (r_lst (r_cons (r_call c_d_has_fall hr tk (by decide) (.head _) (r_cons (r_var 3) r_nil)) (r_cons (r_call c_d_has_fall hr tk (by decide) (.head _) (r_cons (r_var 5) r_nil)) r_nil))) r_nil)) (r_biB (s_repr hr) n_repr (r_cons (r_lst (r_cons r_bl (r_cons r_bl r_nil))) r_nil)))
 (r_sone (r_ret r_bl))
 r_snil)
 (r_sone (r_for hp hc (i_range1 n_range r_int) (g_name 6 hN)
 (r_scons (r_set 7 hN (r_call c_d_law_table hr tk (by decide) (.head _) (r_cons (r_var 2) (r_cons r_str (r_cons r_str r_nil)))))
 (r_scons (r_par 8 9 hc hN (r_cons (r_call c_d_law_grid hr tk (by decide) (.head _) (r_cons (r_at hr.room (r_var 7) r_int) r_nil)) (r_cons (r_var 7) r_nil)))
 (r_scons (r_ifs (r_tcmp (s_oNe hr.room) (r_biB (s_repr hr) n_repr (r_cons (r_call c_d_has_fall hr tk (by decide) (.head _) (r_cons (r_var 7) r_nil)) r_nil)) (r_biB (s_repr hr) n_repr (r_cons (r_call c_d_law_around hr tk (by decide) (.head _) (r_cons (r_at hr.room (r_var 7) r_int) r_nil)) r_nil)))
 (r_sone (r_ret r_bl))
 r_snil)
 (r_scons (r_set 10 hN (r_op s_oAdd r_int (r_call c_d_law_random hr tk (by decide) (.head _) (r_cons (r_var 2) (r_cons r_int r_nil)))))
 (r_scons (r_for hp hc (i_range1 n_range (r_op s_oSub (r_var 10) r_int)) (g_name 11 hN)
 (r_sone (r_set 9 hN (r_call c_d_product hr tk (by decide) (.head _) (r_cons (r_var 9) (r_cons (r_var 7) r_nil))))))
 (r_scons (r_set 12 hN (r_op s_oAdd r_int (r_call c_d_law_random hr tk (by decide) (.head _) (r_cons (r_var 2) (r_cons (r_op s_oSub (r_op s_oPow r_int r_int) r_int) r_nil)))))
 (r_scons (r_ifs (r_tw (r_wor (r_tcmp (s_oNe hr.room) (r_call c_d_power hr tk (by decide) (.head _) (r_cons (r_var 7) (r_cons (r_var 10) r_nil))) (r_var 9)) (r_wor1 (r_tcmp (s_oNe hr.room) (r_call c_d_power hr tk (by decide) (.head _) (r_cons (r_var 7) (r_cons r_int r_nil))) (r_var 7)))))
 (r_sone (r_ret r_bl))
 r_snil)
 (r_sone (r_ifs (r_tcmp (s_oNe hr.room) (r_biB (s_repr hr) n_repr (r_cons (r_call c_d_power hr tk (by decide) (.head _) (r_cons (r_var 7) (r_cons (r_var 12) r_nil))) r_nil)) (r_biB (s_repr hr) n_repr (r_cons (r_tup (r_cons r_str (r_cons r_str (r_cons (r_call c_d_law_listed hr tk (by decide) (.head _) (r_cons (r_call c_d_law_power hr tk (by decide) (.head _) (r_cons (r_var 8) (r_cons (r_var 12) r_nil))) r_nil)) r_nil)))) r_nil)))
 (r_sone (r_ret r_bl))
 r_snil)))))))))))))))))
 (r_sone (r_ret r_bl)))
end
def e_law_cell : He.DefD := ⟨("_law_cell", none), "_law_cell", "_law_cell", defArgs s_law_cell, defBody s_law_cell, defScope s_law_cell, [], []⟩
def e_law_generator : He.DefD := ⟨("_law_generator", none), "_law_generator", "_law_generator", defArgs s_law_generator, defBody s_law_generator, defScope s_law_generator, [], []⟩
def e_law_hash : He.DefD := ⟨("_law_hash", none), "_law_hash", "_law_hash", defArgs s_law_hash, defBody s_law_hash, defScope s_law_hash, [], []⟩
def e_law_random : He.DefD := ⟨("_law_random", none), "_law_random", "_law_random", defArgs s_law_random, defBody s_law_random, defScope s_law_random, [], []⟩
def e_law_arcs : He.DefD := ⟨("_law_arcs", none), "_law_arcs", "_law_arcs", defArgs s_law_arcs, defBody s_law_arcs, defScope s_law_arcs, [], []⟩
def e_law_grid : He.DefD := ⟨("_law_grid", none), "_law_grid", "_law_grid", defArgs s_law_grid, defBody s_law_grid, defScope s_law_grid, [], []⟩
def e_law_listed : He.DefD := ⟨("_law_listed", none), "_law_listed", "_law_listed", defArgs s_law_listed, defBody s_law_listed, defScope s_law_listed, [], []⟩
def e_law_table : He.DefD := ⟨("_law_table", none), "_law_table", "_law_table", defArgs s_law_table, defBody s_law_table, defScope s_law_table, [], []⟩
def e_law_times : He.DefD := ⟨("_law_times", none), "_law_times", "_law_times", defArgs s_law_times, defBody s_law_times, defScope s_law_times, [], []⟩
def e_is_name : He.DefD := ⟨("is_name", none), "is_name", "is_name", defArgs s_is_name, defBody s_is_name, defScope s_is_name, [], []⟩
def e_is_whole : He.DefD := ⟨("is_whole", none), "is_whole", "is_whole", defArgs s_is_whole, defBody s_is_whole, defScope s_is_whole, [], []⟩
def e_is_arc : He.DefD := ⟨("is_arc", none), "is_arc", "is_arc", defArgs s_is_arc, defBody s_is_arc, defScope s_is_arc, [], []⟩
def e_is_table : He.DefD := ⟨("is_table", none), "is_table", "is_table", defArgs s_is_table, defBody s_is_table, defScope s_is_table, [], []⟩
def e_check_table : He.DefD := ⟨("check_table", none), "check_table", "check_table", defArgs s_check_table, defBody s_check_table, defScope s_check_table, [], []⟩
def e_arcs_of : He.DefD := ⟨("arcs_of", none), "arcs_of", "arcs_of", defArgs s_arcs_of, defBody s_arcs_of, defScope s_arcs_of, [], []⟩
def e_joined : He.DefD := ⟨("joined", none), "joined", "joined", defArgs s_joined, defBody s_joined, defScope s_joined, [], []⟩
def e_product : He.DefD := ⟨("product", none), "product", "product", defArgs s_product, defBody s_product, defScope s_product, [], []⟩
def e_falls_around : He.DefD := ⟨("falls_around", none), "falls_around", "falls_around", defArgs s_falls_around, defBody s_falls_around, defScope s_falls_around, [], []⟩
def e_has_fall : He.DefD := ⟨("has_fall", none), "has_fall", "has_fall", defArgs s_has_fall, defBody s_has_fall, defScope s_has_fall, [], []⟩
def e_law_around : He.DefD := ⟨("_law_around", none), "_law_around", "_law_around", defArgs s_law_around, defBody s_law_around, defScope s_law_around, [], []⟩
def e_check_whole : He.DefD := ⟨("check_whole", none), "check_whole", "check_whole", defArgs s_check_whole, defBody s_check_whole, defScope s_check_whole, [(.non)], []⟩
def e_power : He.DefD := ⟨("power", none), "power", "power", defArgs s_power, defBody s_power, defScope s_power, [], []⟩
def e_law_power : He.DefD := ⟨("_law_power", none), "_law_power", "_law_power", defArgs s_law_power, defBody s_law_power, defScope s_law_power, [], []⟩
def e_law : He.DefD := ⟨("law", none), "law", "law", defArgs s_law, defBody s_law, defScope s_law, [], []⟩
def fn : List He.DefD := [e_law_cell, e_law_generator, e_law_hash, e_law_random, e_law_arcs, e_law_grid, e_law_listed, e_law_table, e_law_times, e_is_name, e_is_whole, e_is_arc, e_is_table, e_check_table, e_arcs_of, e_joined, e_product, e_falls_around, e_has_fall, e_law_around, e_check_whole, e_power, e_law_power, e_law]
def fa : List He.Fa := [.free "len", .free "int", .free "max", .free "range", .free "tuple", .free "min", .free "isinstance", .free "str", .free "bool", .free "sorted", .free "set", .free "repr", .int "MOST_LETTERS" (12), .str "LETTERS" "abcdefghijklmnopqrstuvwxyz", .int "MOST_MEASURES" (3), .glo "_law_cell", .glo "_law_generator", .glo "_law_hash", .glo "_law_random", .glo "_law_arcs", .glo "_law_grid", .glo "_law_listed", .glo "_law_table", .glo "_law_times", .glo "is_name", .glo "is_whole", .glo "is_arc", .glo "is_table", .glo "check_table", .glo "arcs_of", .glo "joined", .glo "product", .glo "falls_around", .glo "has_fall", .glo "_law_around", .glo "check_whole", .glo "power", .glo "_law_power", .glo "law"]
abbrev R : PySem.W.OpenRow := PySem.W.OpenLaw.row PySem.Challenge.rw_fallingcalls_k22_products_and_powers
abbrev hk : PySem.W.Hook := He.hookD 4 fa fn
def ob (s : PySem.W.SharedT) : He.AlD := He.obsDG 4 fa fn (HandSHeadRun.getT s)
theorem ob_eq (s : PySem.W.SharedT) : ob s = hk.obs s.abs := He.obsDG_eq (HandSHeadRun.getT_eq s)
abbrev loose : List Str := (["CallsError", "InvalidTable", "InvalidNumber", "LETTERS", "MOST_LETTERS", "MOST_MEASURES", "is_whole", "is_name", "check_whole", "is_arc", "is_table", "check_table", "arcs_of", "joined", "product", "power", "falls_around", "has_fall", "_law_cell", "_law_hash"] : List Str) ++ (["_law_generator", "_law_random", "_law_grid", "_law_times", "_law_listed", "_law_arcs", "_law_power", "_law_around", "_law_table"] : List Str)
theorem run (w : World) : HandSHeadRun.RunEq R (PySem.W.view R.prog [33]) hk ob 6000 loose w := by
  intro os
  kernel_rfl
def cmK (K : PySem.W.Frag) (w : World) : CM := ⟨fun _ => none, fun _ => none, none⟩
theorem facts {P : Program} {w : World} {K : PySem.W.Frag} {h : Heap} {mg : Str → Option Value} {f : Addr} (X : K.In h) (G : h.Ns mainGlobals mg) (hfa : mg ("law" : Str) = some (.ref f)) (c : He.SaysD fa fn K) :
    ∃ fd : FuncData, (∀ (s : Shared) (v : Value), BindsTo s fd ⟨[v], []⟩ [("_law_script", v)]) ∧ ∀ base : Heap, K.In base → base.Ns mainGlobals mg → FnG P w K mg base 6 f fd ["_law_script"] (spD K (cmK K w) 1 d_law) := by
  obtain ⟨fd_law_cell, F_law_cell⟩ := c.def_ 0 (d := e_law_cell) rfl
  obtain ⟨fd_law_generator, F_law_generator⟩ := c.def_ 1 (d := e_law_generator) rfl
  obtain ⟨fd_law_hash, F_law_hash⟩ := c.def_ 2 (d := e_law_hash) rfl
  obtain ⟨fd_law_random, F_law_random⟩ := c.def_ 3 (d := e_law_random) rfl
  obtain ⟨fd_law_arcs, F_law_arcs⟩ := c.def_ 4 (d := e_law_arcs) rfl
  obtain ⟨fd_law_grid, F_law_grid⟩ := c.def_ 5 (d := e_law_grid) rfl
  obtain ⟨fd_law_listed, F_law_listed⟩ := c.def_ 6 (d := e_law_listed) rfl
  obtain ⟨fd_law_table, F_law_table⟩ := c.def_ 7 (d := e_law_table) rfl
  obtain ⟨fd_law_times, F_law_times⟩ := c.def_ 8 (d := e_law_times) rfl
  obtain ⟨fd_is_name, F_is_name⟩ := c.def_ 9 (d := e_is_name) rfl
  obtain ⟨fd_is_whole, F_is_whole⟩ := c.def_ 10 (d := e_is_whole) rfl
  obtain ⟨fd_is_arc, F_is_arc⟩ := c.def_ 11 (d := e_is_arc) rfl
  obtain ⟨fd_is_table, F_is_table⟩ := c.def_ 12 (d := e_is_table) rfl
  obtain ⟨fd_check_table, F_check_table⟩ := c.def_ 13 (d := e_check_table) rfl
  obtain ⟨fd_arcs_of, F_arcs_of⟩ := c.def_ 14 (d := e_arcs_of) rfl
  obtain ⟨fd_joined, F_joined⟩ := c.def_ 15 (d := e_joined) rfl
  obtain ⟨fd_product, F_product⟩ := c.def_ 16 (d := e_product) rfl
  obtain ⟨fd_falls_around, F_falls_around⟩ := c.def_ 17 (d := e_falls_around) rfl
  obtain ⟨fd_has_fall, F_has_fall⟩ := c.def_ 18 (d := e_has_fall) rfl
  obtain ⟨fd_law_around, F_law_around⟩ := c.def_ 19 (d := e_law_around) rfl
  obtain ⟨fd_check_whole, F_check_whole⟩ := c.def_ 20 (d := e_check_whole) rfl
  obtain ⟨fd_power, F_power⟩ := c.def_ 21 (d := e_power) rfl
  obtain ⟨fd_law_power, F_law_power⟩ := c.def_ 22 (d := e_law_power) rfl
  obtain ⟨fd_law, F_law⟩ := c.def_ 23 (d := e_law) rfl
  have n_len := He.free_ok X G (c.fact 0 (f := .free "len") rfl)
  have n_int := He.free_ok X G (c.fact 1 (f := .free "int") rfl)
  have n_max := He.free_ok X G (c.fact 2 (f := .free "max") rfl)
  have n_range := He.free_ok X G (c.fact 3 (f := .free "range") rfl)
  have n_tuple := He.free_ok X G (c.fact 4 (f := .free "tuple") rfl)
  have n_min := He.free_ok X G (c.fact 5 (f := .free "min") rfl)
  have n_isinstance := He.free_ok X G (c.fact 6 (f := .free "isinstance") rfl)
  have n_str := He.free_ok X G (c.fact 7 (f := .free "str") rfl)
  have n_bool := He.free_ok X G (c.fact 8 (f := .free "bool") rfl)
  have n_sorted := He.free_ok X G (c.fact 9 (f := .free "sorted") rfl)
  have n_set := He.free_ok X G (c.fact 10 (f := .free "set") rfl)
  have n_repr := He.free_ok X G (c.fact 11 (f := .free "repr") rfl)
  have g_MOST_LETTERS : GlobC K mg "MOST_LETTERS" (.int 12) := glob_int (He.int_ok X G (c.fact 12 (f := .int "MOST_LETTERS" (12)) rfl))
  have g_LETTERS : GlobC K mg "LETTERS" (.str "abcdefghijklmnopqrstuvwxyz") := glob_str (He.str_ok X G (c.fact 13 (f := .str "LETTERS" "abcdefghijklmnopqrstuvwxyz") rfl))
  have g_MOST_MEASURES : GlobC K mg "MOST_MEASURES" (.int 3) := glob_int (He.int_ok X G (c.fact 14 (f := .int "MOST_MEASURES" (3)) rfl))
  have el := hfa.symm.trans (He.glo_ok X G (c.fact 38 (f := .glo "law") rfl))
  cases el
  have bl := FunD.bindsA (ps := ["_law_script"]) F_law fun _ _ _ _ _ _ us hl => match us, hl with | [_], _ => rfl
  refine ⟨fd_law, fun s v => bl s [v] rfl, fun base _ _ => ?_⟩
  have c_d_law_cell : FnAt P w K mg base (cmK K w) 1 "_law_cell" d_law_cell [[]] := fnAt_of (ps := ["_law_script", "_law_index"]) (ok_law_cell F_law_cell n_len) (He.glo_ok X G (c.fact 15 (f := .glo "_law_cell") rfl)) F_law_cell.kp (all_cons (bind_all F_law_cell fun _ _ _ _ _ _ us hl => match us, hl with | [_, _], _ => rfl) all_nil)
  have c_d_law_generator : FnAt P w K mg base (cmK K w) 2 "_law_generator" d_law_generator [[]] := fnAt_of (ps := ["_law_script", "_law_index"]) (ok_law_generator F_law_generator c_d_law_cell n_int n_max) (He.glo_ok X G (c.fact 16 (f := .glo "_law_generator") rfl)) F_law_generator.kp (all_cons (bind_all F_law_generator fun _ _ _ _ _ _ us hl => match us, hl with | [_, _], _ => rfl) all_nil)
  have c_d_law_hash : FnAt P w K mg base (cmK K w) 1 "_law_hash" d_law_hash [[]] := fnAt_of (ps := ["_law_seed", "_law_index"]) (ok_law_hash F_law_hash n_int) (He.glo_ok X G (c.fact 17 (f := .glo "_law_hash") rfl)) F_law_hash.kp (all_cons (bind_all F_law_hash fun _ _ _ _ _ _ us hl => match us, hl with | [_, _], _ => rfl) all_nil)
  have c_d_law_random : FnAt P w K mg base (cmK K w) 2 "_law_random" d_law_random [[]] := fnAt_of (ps := ["_law_generator_here", "_law_bound"]) (ok_law_random F_law_random n_int n_range c_d_law_hash) (He.glo_ok X G (c.fact 18 (f := .glo "_law_random") rfl)) F_law_random.kp (all_cons (bind_all F_law_random fun _ _ _ _ _ _ us hl => match us, hl with | [_, _], _ => rfl) all_nil)
  have c_d_law_arcs : FnAt P w K mg base (cmK K w) 3 "_law_arcs" d_law_arcs [[]] := fnAt_of (ps := ["_law_generator_here", "_law_begin", "_law_end", "_law_dense"]) (ok_law_arcs F_law_arcs n_range c_d_law_random) (He.glo_ok X G (c.fact 19 (f := .glo "_law_arcs") rfl)) F_law_arcs.kp (all_cons (bind_all F_law_arcs fun _ _ _ _ _ _ us hl => match us, hl with | [_, _, _, _], _ => rfl) all_nil)
  have c_d_law_grid : FnAt P w K mg base (cmK K w) 1 "_law_grid" d_law_grid [[]] := fnAt_of (ps := ["_law_arcs_here"]) (ok_law_grid F_law_grid n_int n_max) (He.glo_ok X G (c.fact 20 (f := .glo "_law_grid") rfl)) F_law_grid.kp (all_cons (bind_all F_law_grid fun _ _ _ _ _ _ us hl => match us, hl with | [_], _ => rfl) all_nil)
  have c_d_law_listed : FnAt P w K mg base (cmK K w) 1 "_law_listed" d_law_listed [[]] := fnAt_of (ps := ["_law_grid_here"]) (ok_law_listed F_law_listed n_range n_tuple) (He.glo_ok X G (c.fact 21 (f := .glo "_law_listed") rfl)) F_law_listed.kp (all_cons (bind_all F_law_listed fun _ _ _ _ _ _ us hl => match us, hl with | [_], _ => rfl) all_nil)
  have c_d_law_table : FnAt P w K mg base (cmK K w) 4 "_law_table" d_law_table [[]] := fnAt_of (ps := ["_law_generator_here", "_law_begin", "_law_end"]) (ok_law_table F_law_table c_d_law_random c_d_law_arcs c_d_law_grid c_d_law_listed) (He.glo_ok X G (c.fact 22 (f := .glo "_law_table") rfl)) F_law_table.kp (all_cons (bind_all F_law_table fun _ _ _ _ _ _ us hl => match us, hl with | [_, _, _], _ => rfl) all_nil)
  have c_d_law_times : FnAt P w K mg base (cmK K w) 1 "_law_times" d_law_times [[]] := fnAt_of (ps := ["_law_one", "_law_other"]) (ok_law_times F_law_times n_range n_int n_min n_max) (He.glo_ok X G (c.fact 23 (f := .glo "_law_times") rfl)) F_law_times.kp (all_cons (bind_all F_law_times fun _ _ _ _ _ _ us hl => match us, hl with | [_, _], _ => rfl) all_nil)
  have c_d_is_name : FnAt P w K mg base (cmK K w) 1 "is_name" d_is_name [[]] := fnAt_of (ps := ["value"]) (ok_is_name F_is_name n_isinstance n_str n_len g_MOST_LETTERS g_LETTERS) (He.glo_ok X G (c.fact 24 (f := .glo "is_name") rfl)) F_is_name.kp (all_cons (bind_all F_is_name fun _ _ _ _ _ _ us hl => match us, hl with | [_], _ => rfl) all_nil)
  have c_d_is_whole : FnAt P w K mg base (cmK K w) 1 "is_whole" d_is_whole [[]] := fnAt_of (ps := ["value"]) (ok_is_whole F_is_whole n_isinstance n_int n_bool) (He.glo_ok X G (c.fact 25 (f := .glo "is_whole") rfl)) F_is_whole.kp (all_cons (bind_all F_is_whole fun _ _ _ _ _ _ us hl => match us, hl with | [_], _ => rfl) all_nil)
  have c_d_is_arc : FnAt P w K mg base (cmK K w) 2 "is_arc" d_is_arc [[]] := fnAt_of (ps := ["value", "sources", "targets"]) (ok_is_arc F_is_arc n_isinstance n_tuple n_len c_d_is_whole n_bool) (He.glo_ok X G (c.fact 26 (f := .glo "is_arc") rfl)) F_is_arc.kp (all_cons (bind_all F_is_arc fun _ _ _ _ _ _ us hl => match us, hl with | [_, _, _], _ => rfl) all_nil)
  have c_d_is_table : FnAt P w K mg base (cmK K w) 3 "is_table" d_is_table [[]] := fnAt_of (ps := ["value"]) (ok_is_table F_is_table n_isinstance n_tuple n_len c_d_is_name g_MOST_MEASURES c_d_is_arc n_int n_sorted n_set) (He.glo_ok X G (c.fact 27 (f := .glo "is_table") rfl)) F_is_table.kp (all_cons (bind_all F_is_table fun _ _ _ _ _ _ us hl => match us, hl with | [_], _ => rfl) all_nil)
  have c_d_check_table : FnAt P w K mg base (cmK K w) 4 "check_table" d_check_table [[]] := fnAt_of (ps := ["value"]) (ok_check_table F_check_table c_d_is_table) (He.glo_ok X G (c.fact 28 (f := .glo "check_table") rfl)) F_check_table.kp (all_cons (bind_all F_check_table fun _ _ _ _ _ _ us hl => match us, hl with | [_], _ => rfl) all_nil)
  have c_d_arcs_of : FnAt P w K mg base (cmK K w) 1 "arcs_of" d_arcs_of [[]] := fnAt_of (ps := ["found"]) (ok_arcs_of F_arcs_of n_int n_sorted n_tuple) (He.glo_ok X G (c.fact 29 (f := .glo "arcs_of") rfl)) F_arcs_of.kp (all_cons (bind_all F_arcs_of fun _ _ _ _ _ _ us hl => match us, hl with | [_], _ => rfl) all_nil)
  have c_d_joined : FnAt P w K mg base (cmK K w) 2 "joined" d_joined [[]] := fnAt_of (ps := ["one", "other"]) (ok_joined F_joined c_d_arcs_of) (He.glo_ok X G (c.fact 30 (f := .glo "joined") rfl)) F_joined.kp (all_cons (bind_all F_joined fun _ _ _ _ _ _ us hl => match us, hl with | [_, _], _ => rfl) all_nil)
  have c_d_product : FnAt P w K mg base (cmK K w) 5 "product" d_product [[]] := fnAt_of (ps := ["one", "other"]) (ok_product F_product c_d_check_table c_d_joined) (He.glo_ok X G (c.fact 31 (f := .glo "product") rfl)) F_product.kp (all_cons (bind_all F_product fun _ _ _ _ _ _ us hl => match us, hl with | [_, _], _ => rfl) all_nil)
  have c_d_falls_around : FnAt P w K mg base (cmK K w) 3 "falls_around" d_falls_around [[]] := fnAt_of (ps := ["table"]) (ok_falls_around F_falls_around g_MOST_MEASURES n_range c_d_joined) (He.glo_ok X G (c.fact 32 (f := .glo "falls_around") rfl)) F_falls_around.kp (all_cons (bind_all F_falls_around fun _ _ _ _ _ _ us hl => match us, hl with | [_], _ => rfl) all_nil)
  have c_d_has_fall : FnAt P w K mg base (cmK K w) 5 "has_fall" d_has_fall [[]] := fnAt_of (ps := ["table"]) (ok_has_fall F_has_fall c_d_check_table c_d_falls_around) (He.glo_ok X G (c.fact 33 (f := .glo "has_fall") rfl)) F_has_fall.kp (all_cons (bind_all F_has_fall fun _ _ _ _ _ _ us hl => match us, hl with | [_], _ => rfl) all_nil)
  have c_d_law_around : FnAt P w K mg base (cmK K w) 1 "_law_around" d_law_around [[]] := fnAt_of (ps := ["_law_arcs_here"]) (ok_law_around F_law_around ) (He.glo_ok X G (c.fact 34 (f := .glo "_law_around") rfl)) F_law_around.kp (all_cons (bind_all F_law_around fun _ _ _ _ _ _ us hl => match us, hl with | [_], _ => rfl) all_nil)
  have c_d_check_whole : FnAt P w K mg base (cmK K w) 2 "check_whole" d_check_whole [[], [.non]] := fnAt_of (ps := ["value", "least", "most"]) (ok_check_whole F_check_whole c_d_is_whole) (He.glo_ok X G (c.fact 35 (f := .glo "check_whole") rfl)) F_check_whole.kp (all_cons (bind_dfl (dvs := [.non]) (kws := []) F_check_whole 3 1 (by intro z; cases z) rfl (fun _ _ _ _ _ _ _ us its hl hi => match us, its, hl, hi with | [_, _, _], [_], _, _ => ⟨_, rfl, rfl⟩) (fun _ _ => by simp [RVs, RV])) (all_cons (bind_dfl (dvs := [.non]) (kws := []) F_check_whole 2 0 (by intro z; cases z) rfl (fun _ _ _ _ _ _ _ us its hl hi => match us, its, hl, hi with | [_, _], [_], _, _ => ⟨_, rfl, rfl⟩) (fun _ _ => by simp [RVs, RV])) all_nil))
  have c_d_power : FnAt P w K mg base (cmK K w) 5 "power" d_power [[]] := fnAt_of (ps := ["table", "count"]) (ok_power F_power c_d_check_table c_d_check_whole c_d_joined) (He.glo_ok X G (c.fact 36 (f := .glo "power") rfl)) F_power.kp (all_cons (bind_all F_power fun _ _ _ _ _ _ us hl => match us, hl with | [_, _], _ => rfl) all_nil)
  have c_d_law_power : FnAt P w K mg base (cmK K w) 2 "_law_power" d_law_power [[]] := fnAt_of (ps := ["_law_grid_here", "_law_times_here"]) (ok_law_power F_law_power n_int c_d_law_times) (He.glo_ok X G (c.fact 37 (f := .glo "_law_power") rfl)) F_law_power.kp (all_cons (bind_all F_law_power fun _ _ _ _ _ _ us hl => match us, hl with | [_, _], _ => rfl) all_nil)
  exact ok_law F_law n_range c_d_law_generator c_d_law_table c_d_law_grid c_d_law_times c_d_law_listed c_d_product n_repr c_d_is_table c_d_has_fall c_d_law_around c_d_law_random c_d_power c_d_law_power
end
end Law_k22
namespace Fc
open PySem
abbrev Xc := Str → List (Str × D) → S → Prop
@[irreducible] def wE {α : Type} (m : Option (Res α)) (Q : α → S → Prop) (X : Xc) : Prop := match m with
  | none => False
  | some (.ok x s) => Q x s
  | some (.exc c fs s) => X c fs s
structure Pst where
  nx : Env → S → Prop
  rt : D → S → Prop
  bk : Env → S → Prop := fun _ _ => False
  ct : Env → S → Prop := fun _ _ => False
  xc : Xc
@[irreducible] def wC (r : Option R) (P : Pst) : Prop := match r with
  | none => False
  | some (.nx e s) => P.nx e s
  | some (.rt d s) => P.rt d s
  | some (.bk e s) => P.bk e s
  | some (.ct e s) => P.ct e s
  | some (.xc c fs _ s) => P.xc c fs s
section
variable {α β : Type} {s : S} {σ : Env} {X : Xc}
theorem wE_imp {m : Option (Res α)} {Q Q' : α → S → Prop} {X' : Xc} (h : wE m Q X) (k : ∀ x s, Q x s → Q' x s) (kx : ∀ c fs s, X c fs s → X' c fs s) : wE m Q' X' := by
  with_unfolding_all
    match m, h with
    | none, h => exact False.elim h
    | some (.ok x s), h => exact k x s h
    | some (.exc c fs s), h => exact kx c fs s h
theorem wE_mono {m : Option (Res α)} {Q Q' : α → S → Prop} (h : wE m Q X) (k : ∀ x s, Q x s → Q' x s) : wE m Q' X := by
  with_unfolding_all
    exact wE_imp h k fun _ _ _ z => z
theorem wE_out {m : Option (Res α)} {Q : α → S → Prop} (h : wE m Q (fun _ _ _ => False)) : ∃ x s, m = some (.ok x s) ∧ Q x s := by
  with_unfolding_all
    match m, h with
    | none, h => exact False.elim h
    | some (.ok x s), h => exact ⟨x, s, rfl, h⟩
    | some (.exc _ _ _), h => exact False.elim h
theorem wC_imp {r : Option R} {P P' : Pst} (h : wC r P) (h1 : ∀ e s, P.nx e s → P'.nx e s) (h2 : ∀ d s, P.rt d s → P'.rt d s) (h3 : ∀ e s, P.bk e s → P'.bk e s) (h4 : ∀ e s, P.ct e s → P'.ct e s) (h5 : ∀ c fs s, P.xc c fs s → P'.xc c fs s) : wC r P' := by
  with_unfolding_all
    match r, h with
    | none, h => exact False.elim h
    | some (.nx e s), h => exact h1 e s h
    | some (.rt e s), h => exact h2 e s h
    | some (.bk e s), h => exact h3 e s h
    | some (.ct e s), h => exact h4 e s h
    | some (.xc c fs e s), h => exact h5 c fs s h
@[simp] theorem w_some {x : α} {Q : α → S → Prop} : wE (some (.ok x s)) Q X ↔ Q x s := by
  with_unfolding_all
    exact Iff.rfl
@[simp] theorem w_exc {c : Str} {fs : List (Str × D)} {Q : α → S → Prop} : wE (some (.exc c fs s)) Q X ↔ X c fs s := by
  with_unfolding_all
    exact Iff.rfl
@[simp] theorem w_none {Q : α → S → Prop} : wE (none : Option (Res α)) Q X ↔ False := by
  with_unfolding_all
    exact Iff.rfl
theorem w_bnd {m : M α} {k : α → M β} {Q : β → S → Prop} : wE (bnd m k s) Q X ↔ wE (m s) (fun x s' => wE (k x s') Q X) X := by
  with_unfolding_all
    unfold bnd
    cases h : m s with
    | none => rfl
    | some r => cases r <;> rfl
theorem w_var {i : Nat} {Q : D → S → Prop} : wE (eVar i σ s) Q X ↔ ∃ d, σ[i]? = some (some d) ∧ Q d s := by
  with_unfolding_all
    unfold eVar
    split
    · rename_i d h
      simp [h]
    · rename_i h
      simp only [w_none, false_iff]
      rintro ⟨d, e, _⟩
      exact h d e
theorem w_e1 {f : D → M D} {a : E} {Q : D → S → Prop} : wE (e1 f a σ s) Q X ↔ wE (a σ s) (fun x s' => wE (f x s') Q X) X := by
  with_unfolding_all
    exact w_bnd
theorem w_e2 {f : D → D → M D} {a b : E} {Q : D → S → Prop} : wE (e2 f a b σ s) Q X ↔ wE (a σ s) (fun x s1 => wE (b σ s1) (fun y s2 => wE (f x y s2) Q X) X) X := by
  with_unfolding_all
    show wE (bnd (a σ) _ s) Q X ↔ _
    rw [w_bnd]
    constructor
    · intro h; exact wE_mono h fun x s1 h => w_bnd.mp h
    · intro h; exact wE_mono h fun x s1 h => w_bnd.mpr h
theorem w_lcons {a : E} {r : EL} {Q : List D → S → Prop} : wE (lCons a r σ s) Q X ↔ wE (a σ s) (fun x s1 => wE (r σ s1) (fun xs s2 => Q (x :: xs) s2) X) X := by
  with_unfolding_all
    show wE (bnd (a σ) _ s) Q X ↔ _
    rw [w_bnd]
    constructor
    · intro h; exact wE_mono h fun x s1 h => w_bnd.mp h
    · intro h; exact wE_mono h fun x s1 h => w_bnd.mpr h
theorem w_eN {f : List D → M D} {es : EL} {Q : D → S → Prop} : wE (eN f es σ s) Q X ↔ wE (es σ s) (fun xs s' => wE (f xs s') Q X) X := by
  with_unfolding_all
    exact w_bnd
theorem w_eM {f : D → List D → M D} {o : E} {es : EL} {Q : D → S → Prop} : wE (eM f o es σ s) Q X ↔ wE (o σ s) (fun x s1 => isLst s1 x = true ∧ wE (es σ s1) (fun xs s2 => wE (f x xs s2) Q X) X) X := by
  with_unfolding_all
    show wE (bnd (o σ) _ s) Q X ↔ _
    rw [w_bnd]
    have key : ∀ x s1, wE (if isLst s1 x then bnd (es σ) (fun xs => f x xs) s1 else none) Q X ↔ (isLst s1 x = true ∧ wE (es σ s1) (fun xs s2 => wE (f x xs s2) Q X) X) := fun x s1 => by
      by_cases h : isLst s1 x = true
      · simp [h, w_bnd]
      · simp [h]
    constructor
    · intro h; exact wE_mono h fun x s1 h => (key x s1).mp h
    · intro h; exact wE_mono h fun x s1 h => (key x s1).mpr h
theorem w_if {t : T} {a b : E} {Q : D → S → Prop} : wE (eIf t a b σ s) Q X ↔ wE (t σ s) (fun c s1 => if c = true then wE (a σ s1) Q X else wE (b σ s1) Q X) X := by
  with_unfolding_all
    show wE (bnd (t σ) _ s) Q X ↔ _
    rw [w_bnd]
    constructor <;> (intro h; refine wE_mono h fun x s1 h => ?_; cases x <;> simpa using h)
theorem w_or {a b : E} {Q : D → S → Prop} : wE (eOr a b σ s) Q X ↔ wE (a σ s) (fun x s1 => ∃ c, truth s1 x = some c ∧ if c = true then Q x s1 else wE (b σ s1) Q X) X := by
  with_unfolding_all
    show wE (bnd (a σ) _ s) Q X ↔ _
    rw [w_bnd]
    constructor <;> (intro h; refine wE_mono h fun x s1 h => ?_; revert h; cases e : truth s1 x with | none => simp | some c => cases c <;> simp)
theorem w_and {a b : E} {Q : D → S → Prop} : wE (eAnd a b σ s) Q X ↔ wE (a σ s) (fun x s1 => ∃ c, truth s1 x = some c ∧ if c = true then wE (b σ s1) Q X else Q x s1) X := by
  with_unfolding_all
    show wE (bnd (a σ) _ s) Q X ↔ _
    rw [w_bnd]
    constructor <;> (intro h; refine wE_mono h fun x s1 h => ?_; revert h; cases e : truth s1 x with | none => simp | some c => cases c <;> simp)
theorem w_tE {a : E} {Q : Bool → S → Prop} : wE (tE a σ s) Q X ↔ wE (a σ s) (fun x s1 => ∃ c, truth s1 x = some c ∧ Q c s1) X := by
  with_unfolding_all
    show wE (bnd (a σ) _ s) Q X ↔ _
    rw [w_bnd]
    constructor <;> (intro h; refine wE_mono h fun x s1 h => ?_; revert h; cases e : truth s1 x with | none => simp | some c => simp)
theorem w_tB {a : E} {Q : Bool → S → Prop} : wE (tB a σ s) Q X ↔ wE (a σ s) (fun x s1 => ∃ c, x = .bl c ∧ Q c s1) X := by
  with_unfolding_all
    show wE (bnd (a σ) _ s) Q X ↔ _
    rw [w_bnd]
    constructor
    · intro h
      refine wE_mono h fun x s1 h => ?_
      cases x with
      | bl c => exact ⟨c, rfl, h⟩
      | _ => exact h.elim
    · intro h
      refine wE_mono h fun x s1 h => ?_
      obtain ⟨c, rfl, h⟩ := h
      exact h
theorem w_tNot {t : T} {Q : Bool → S → Prop} : wE (tNot t σ s) Q X ↔ wE (t σ s) (fun c s1 => Q (!c) s1) X := by
  with_unfolding_all
    exact w_bnd
theorem w_eNotT {t : T} {Q : D → S → Prop} : wE (eNotT t σ s) Q X ↔ wE (t σ s) (fun c s1 => Q (.bl (!c)) s1) X := by
  with_unfolding_all
    exact w_bnd
theorem w_tAnd {t u : T} {Q : Bool → S → Prop} : wE (tAnd t u σ s) Q X ↔ wE (t σ s) (fun c s1 => if c = true then wE (u σ s1) Q X else Q false s1) X := by
  with_unfolding_all
    show wE (bnd (t σ) _ s) Q X ↔ _
    rw [w_bnd]
    constructor <;> (intro h; refine wE_mono h fun x s1 h => ?_; cases x <;> simpa [ret] using h)
theorem w_tOr {t u : T} {Q : Bool → S → Prop} : wE (tOr t u σ s) Q X ↔ wE (t σ s) (fun c s1 => if c = true then Q true s1 else wE (u σ s1) Q X) X := by
  with_unfolding_all
    show wE (bnd (t σ) _ s) Q X ↔ _
    rw [w_bnd]
    constructor <;> (intro h; refine wE_mono h fun x s1 h => ?_; cases x <;> simpa [ret] using h)
theorem w_chain {f g : D → D → M D} {a b c : E} {Q : D → S → Prop} : wE (eChain f g a b c σ s) Q X ↔ wE (a σ s) (fun x s1 => wE (b σ s1) (fun y s2 => wE (f x y s2) (fun r s3 => ∃ k, r = .bl k ∧ if k = true then wE (c σ s3) (fun z s4 => wE (g y z s4) Q X) X else Q (.bl false) s3) X) X) X := by
  with_unfolding_all
    show wE (bnd (a σ) _ s) Q X ↔ _
    rw [w_bnd]
    have key : ∀ (y r : D) (s3 : S), wE ((match r with
        | .bl true => bnd (c σ) fun z => g y z
        | .bl false => ret (.bl false)
        | _ => stuck : M D) s3) Q X ↔ ∃ k, r = .bl k ∧ if k = true then wE (c σ s3) (fun z s4 => wE (g y z s4) Q X) X else Q (.bl false) s3 := by
      intro y r s3
      cases r with
      | bl k =>
        cases k
        · simp [ret]
        · simp [w_bnd]
      | _ => simp [stuck]
    constructor
    · intro h
      refine wE_mono h fun x s1 h => wE_mono (w_bnd.mp h) fun y s2 h => wE_mono (w_bnd.mp h) fun r s3 h => (key y r s3).mp h
    · intro h
      refine wE_mono h fun x s1 h => w_bnd.mpr (wE_mono h fun y s2 h => w_bnd.mpr (wE_mono h fun r s3 h => (key y r s3).mpr h))
theorem w_call {f : F} {dfl : List D} {es : EL} {Q : D → S → Prop} : wE (eCall f dfl es σ s) Q X ↔ wE (es σ s) (fun ds s1 => wE (f (ds ++ dfl) s1) Q X) X := by
  with_unfolding_all
    exact w_bnd
theorem w_cut {a : E} {lo hi : EO} {Q : D → S → Prop} : wE (eCut a lo hi σ s) Q X ↔ wE (a σ s) (fun x s1 => wE (lo σ s1) (fun l s2 => wE (hi σ s2) (fun h s3 => wE (oCut x l h s3) Q X) X) X) X := by
  with_unfolding_all
    show wE (bnd (a σ) _ s) Q X ↔ _
    rw [w_bnd]
    constructor
    · intro h
      exact wE_mono h fun x s1 h => wE_mono (w_bnd.mp h) fun y s2 h => w_bnd.mp h
    · intro h
      exact wE_mono h fun x s1 h => w_bnd.mpr (wE_mono h fun y s2 h => w_bnd.mpr h)
theorem w_pYes {a : E} {Q : Option Int → S → Prop} : wE (pYes a σ s) Q X ↔ wE (a σ s) (fun x s1 => ∃ i, x = .int i ∧ Q (some i) s1) X := by
  with_unfolding_all
    show wE (bnd (a σ) _ s) Q X ↔ _
    rw [w_bnd]
    constructor
    · intro h
      refine wE_mono h fun x s1 h => ?_
      cases x with
      | int c => exact ⟨c, rfl, h⟩
      | _ => exact h.elim
    · intro h
      refine wE_mono h fun x s1 h => ?_
      obtain ⟨c, rfl, h⟩ := h
      exact h
theorem w_get2 {d k z : E} {Q : D → S → Prop} : wE (eGet2 d k z σ s) Q X ↔ wE (d σ s) (fun x s1 => isDict s1 x = true ∧ wE (k σ s1) (fun y s2 => wE (z σ s2) (fun w s3 => ∃ o, dgetAt s3 x y = some o ∧ Q (o.getD w) s3) X) X) X := by
  with_unfolding_all
    show wE (bnd (d σ) _ s) Q X ↔ _
    rw [w_bnd]
    have key : ∀ x s1, wE (if isDict s1 x then bnd (k σ) (fun y => bnd (z σ) fun w => fun s => (dgetAt s x y).map fun o => Res.ok (o.getD w) s) s1 else none) Q X ↔ (isDict s1 x = true ∧ wE (k σ s1) (fun y s2 => wE (z σ s2) (fun w s3 => ∃ o, dgetAt s3 x y = some o ∧ Q (o.getD w) s3) X) X) := by
      intro x s1
      by_cases h : isDict s1 x = true
      · simp only [h, if_true, true_and, w_bnd]
        constructor
        · intro h
          refine wE_mono h fun y s2 h => wE_mono h fun w s3 h => ?_
          cases e : dgetAt s3 x y with
          | none => simp [e] at h
          | some o => simp only [e, Option.map_some, w_some] at h; exact ⟨o, rfl, h⟩
        · intro h
          refine wE_mono h fun y s2 h => wE_mono h fun w s3 h => ?_
          obtain ⟨o, e, h⟩ := h
          simp only [e, Option.map_some, w_some]; exact h
      · simp [h]
    constructor
    · intro h; exact wE_mono h fun x s1 h => (key x s1).mp h
    · intro h; exact wE_mono h fun x s1 h => (key x s1).mpr h
theorem w_map {α : Type} {o : Option α} {f : α → Res β} {Q : β → S → Prop} : wE (o.map f) Q X ↔ ∃ x, o = some x ∧ wE (some (f x)) Q X := by
  with_unfolding_all
    cases o <;> simp
theorem w_pur2 {f : S → D → D → Option D} {x y : D} {Q : D → S → Prop} : wE (pur2 f x y s) Q X ↔ ∃ d, f s x y = some d ∧ Q d s := by
  with_unfolding_all
    unfold pur2
    rw [w_map]
    rfl
theorem wC_none {P : Pst} : wC none P ↔ False := by
  with_unfolding_all
    exact Iff.rfl
theorem wC_ex {r : Option (Res α)} {k : α → S → Option R} {P : Pst} : wC (ex σ r k) P ↔ wE r (fun x s' => wC (k x s') P) P.xc := by
  with_unfolding_all
    cases r with
    | none => rfl
    | some r => cases r <;> rfl
theorem wC_seq {a b : C} {P : Pst} : wC (cSeq a b σ s) P ↔ wC (a σ s) { P with nx := fun e s => wC (b e s) P } := by
  with_unfolding_all
    unfold cSeq
    cases h : a σ s with
    | none => rfl
    | some r => cases r <;> rfl
theorem wC_if {t : T} {a b : C} {P : Pst} : wC (cIf t a b σ s) P ↔ wE (t σ s) (fun c s1 => if c = true then wC (a σ s1) P else wC (b σ s1) P) P.xc := by
  with_unfolding_all
    show wC (ex σ (t σ s) _) P ↔ _
    rw [wC_ex]
    constructor <;> (intro h; refine wE_mono h fun x s1 h => ?_; cases x <;> simpa using h)
theorem wC_map {o : Option Env} {P : Pst} : wC (o.map fun σ' => R.nx σ' s) P ↔ ∃ σ', o = some σ' ∧ P.nx σ' s := by
  with_unfolding_all
    cases o with
    | none => simp [wC]
    | some e => simp [wC]
theorem wC_set {e : E} {g : G} {P : Pst} : wC (cSet e g σ s) P ↔ wE (e σ s) (fun d s1 => ∃ σ', g d σ s1 = some σ' ∧ P.nx σ' s1) P.xc := by
  with_unfolding_all
    show wC (ex σ (e σ s) _) P ↔ _
    rw [wC_ex]
    constructor
    · intro h; exact wE_mono h fun x s1 h => wC_map.mp h
    · intro h; exact wE_mono h fun x s1 h => wC_map.mpr h
theorem wC_par {i j : Nat} {es : EL} {P : Pst} : wC (cPar i j es σ s) P ↔ wE (es σ s) (fun ds s1 => ∃ x y, ds = [x, y] ∧ P.nx ((σ.set i (some x)).set j (some y)) s1) P.xc := by
  with_unfolding_all
    show wC (ex σ (es σ s) _) P ↔ _
    rw [wC_ex]
    constructor
    · intro h
      refine wE_mono h fun ds s1 h => ?_
      split at h
      · exact ⟨_, _, rfl, h⟩
      · exact h.elim
    · intro h
      refine wE_mono h fun ds s1 h => ?_
      obtain ⟨x, y, rfl, h⟩ := h
      exact h
theorem wC_par3 {i j l : Nat} {es : EL} {P : Pst} : wC (cPar3 i j l es σ s) P ↔ wE (es σ s) (fun ds s1 => ∃ x y z, ds = [x, y, z] ∧ P.nx (((σ.set i (some x)).set j (some y)).set l (some z)) s1) P.xc := by
  with_unfolding_all
    show wC (ex σ (es σ s) _) P ↔ _
    rw [wC_ex]
    constructor
    · intro h
      refine wE_mono h fun ds s1 h => ?_
      split at h
      · exact ⟨_, _, _, rfl, h⟩
      · exact h.elim
    · intro h
      refine wE_mono h fun ds s1 h => ?_
      obtain ⟨x, y, z, rfl, h⟩ := h
      exact h
theorem wC_aug {i : Nat} {f : D → D → M D} {e : E} {P : Pst} : wC (cAug i f e σ s) P ↔ ∃ x, σ[i]? = some (some x) ∧ wE (e σ s) (fun y s1 => wE (f x y s1) (fun z s2 => P.nx (σ.set i (some z)) s2) P.xc) P.xc := by
  with_unfolding_all
    unfold cAug
    split
    · rename_i x h
      simp only [h, Option.some.injEq, exists_eq_left']
      rw [wC_ex]
      constructor
      · intro h; exact wE_mono h fun y s1 h => wC_ex.mp h
      · intro h; exact wE_mono h fun y s1 h => wC_ex.mpr h
    · rename_i h
      simp only [wC_none, false_iff]
      rintro ⟨x, e, _⟩
      exact h x e
theorem wC_sub {o i e : E} {P : Pst} : wC (cSub o i e σ s) P ↔ wE (e σ s) (fun v s1 => wE (o σ s1) (fun x s2 => wE (i σ s2) (fun y s3 => ∃ n ob, x = .ref n ∧ s3[n]? = some ob ∧
    ((∃ ds k j, ob = .lst ds ∧ y = .int k ∧ L2.ixN ds.length k = some j ∧ P.nx σ (s3.set n (.lst (ds.set j v)))) ∨ ((∀ ds, ob ≠ .lst ds) ∧ ∃ o', dput ob y v = some o' ∧ P.nx σ (s3.set n o')))) P.xc) P.xc) P.xc := by
  with_unfolding_all
    show wC (ex σ (e σ s) _) P ↔ _
    rw [wC_ex]
    have key : ∀ (v x y : D) (s3 : S), wC (match x with
        | .ref n => match s3[n]? with
          | some (.lst ds) => match y with
            | .int k => (L2.ixN ds.length k).map fun j => R.nx σ (s3.set n (.lst (ds.set j v)))
            | _ => none
          | some ob => (dput ob y v).map fun o' => R.nx σ (s3.set n o')
          | none => none
        | _ => none) P ↔ ∃ n ob, x = .ref n ∧ s3[n]? = some ob ∧
      ((∃ ds k j, ob = .lst ds ∧ y = .int k ∧ L2.ixN ds.length k = some j ∧ P.nx σ (s3.set n (.lst (ds.set j v)))) ∨ ((∀ ds, ob ≠ .lst ds) ∧ ∃ o', dput ob y v = some o' ∧ P.nx σ (s3.set n o'))) := by
      intro v x y s3
      cases x with
      | ref n =>
        dsimp only
        cases hn : s3[n]? with
        | none => simp [wC, hn]
        | some ob =>
          cases ob with
          | lst ds =>
            cases y with
            | int k =>
              dsimp only
              cases hj : L2.ixN ds.length k with
              | none => simp [wC, hn, hj]
              | some j => simp [wC, hn, hj]
            | _ => simp [wC, hn]
          | _ =>
            dsimp only
            cases hj : dput _ y v with
            | none => simp [wC, hn, hj]
            | some j => simp [wC, hn, hj]
      | _ => simp [wC]
    constructor
    · intro h
      exact wE_mono h fun v s1 h => wE_mono (wC_ex.mp h) fun x s2 h => wE_mono (wC_ex.mp h) fun y s3 h => (key v x y s3).mp h
    · intro h
      exact wE_mono h fun v s1 h => wC_ex.mpr (wE_mono h fun x s2 h => wC_ex.mpr (wE_mono h fun y s3 h => (key v x y s3).mpr h))
theorem w_def {np nn : Nat} {b : C} {ds : List D} {Q : D → S → Prop} : wE (defF np nn b ds s) Q X ↔ ds.length = np ∧ wC (b (ds.map some ++ List.replicate (nn - np) none) s) { nx := fun _ s' => Q .non s', rt := Q, xc := X } := by
  with_unfolding_all
    unfold defF
    by_cases h : ds.length = np
    · rw [if_pos h]
      cases e : b (ds.map some ++ List.replicate (nn - np) none) s with
      | none => simp [wC, e]
      | some r => cases r <;> simp [wC, wE, h]
    · rw [if_neg h]
      simp [h]
theorem wC_forV_nil {g : G} {b : C} {P : Pst} : wC (forV g b [] σ s) P ↔ P.nx σ s := by
  with_unfolding_all
    exact Iff.rfl
theorem wC_forV_cons {g : G} {b : C} {d : D} {r : List D} {P : Pst} : wC (forV g b (d :: r) σ s) P ↔ ∃ σ1, g d σ s = some σ1 ∧ wC (b σ1 s) { P with nx := fun e s => wC (forV g b r e s) P, ct := fun e s => wC (forV g b r e s) P, bk := P.nx } := by
  with_unfolding_all
    conv => lhs; unfold forV
    cases h : g d σ s with
    | none => simp [wC]
    | some σ1 =>
      simp only [Option.some.injEq, exists_eq_left']
      cases h2 : b σ1 s with
      | none => rfl
      | some x => cases x <;> rfl
/-- a loop over values with an invariant -/
theorem wC_forV {g : G} {b : C} {P : Pst} (I : List D → Env → S → Prop) : ∀ (ds : List D) {σ : Env} {s : S}, I ds σ s →
    (∀ d r σ s, I (d :: r) σ s → ∃ σ1, g d σ s = some σ1 ∧ wC (b σ1 s) { P with nx := fun e s => I r e s, ct := fun e s => I r e s, bk := P.nx }) → (∀ σ s, I [] σ s → P.nx σ s) → wC (forV g b ds σ s) P
  | [], σ, s, h, _, hd => by
    with_unfolding_all
      exact hd σ s h
  | d :: r, σ, s, h, hs, hd => by
    rw [wC_forV_cons]
    obtain ⟨σ1, h1, h2⟩ := hs d r σ s h
    refine ⟨σ1, h1, wC_imp h2 (fun e s h => ?_) (fun _ _ z => z) (fun _ _ z => z) (fun e s h => ?_) fun _ _ _ z => z⟩
    · exact wC_forV I r h hs hd
    · exact wC_forV I r h hs hd
theorem wC_for {src : SrcE} {g : G} {b : C} {P : Pst} : wC (cFor src g b σ s) P ↔ wE (src σ s) (fun sk s1 => wC (match sk with
    | .vals ds => forV g b ds σ s1
    | .list n k => forL n g b k 0 σ s1
    | .dict n ds => lockV n s1 fun s2 => forV g b ds σ s2) P) P.xc := by
  with_unfolding_all
    exact wC_ex
theorem w_iSrc {k : Src} {e : E} {Q : SK → S → Prop} : wE (iSrc k e σ s) Q X ↔ wE (e σ s) (fun x s1 => ∃ sk, srcOf k x s1 = some sk ∧ Q sk s1) X := by
  with_unfolding_all
    show wE (bnd (e σ) _ s) Q X ↔ _
    rw [w_bnd]
    constructor
    · intro h; exact wE_mono h fun x s1 h => w_map.mp h
    · intro h; exact wE_mono h fun x s1 h => w_map.mpr h
theorem w_iRange {a b : E} {Q : SK → S → Prop} : wE (iRange a b σ s) Q X ↔ wE (a σ s) (fun x s1 => wE (b σ s1) (fun y s2 => ∃ i j, x = .int i ∧ y = .int j ∧ (small i && small j) = true ∧ Q (.vals (rangeL i j)) s2) X) X := by
  with_unfolding_all
    show wE (bnd (a σ) _ s) Q X ↔ _
    rw [w_bnd]
    have key : ∀ (x y : D) (s2 : S), wE (match x, y with
        | .int i, .int j => if small i && small j then some (Res.ok (SK.vals (rangeL i j)) s2) else none
        | _, _ => none) Q X ↔ ∃ i j, x = .int i ∧ y = .int j ∧ (small i && small j) = true ∧ Q (.vals (rangeL i j)) s2 := by
      intro x y s2
      split
      · rename_i i j
        by_cases h : (small i && small j) = true
        · rw [if_pos h]
          exact ⟨fun q => ⟨i, j, rfl, rfl, h, q⟩, fun ⟨_, _, e1, e2, _, q⟩ => by cases e1; cases e2; exact q⟩
        · rw [if_neg h]
          exact ⟨fun q => q.elim, fun ⟨_, _, e1, e2, h', _⟩ => by cases e1; cases e2; exact h h'⟩
      · rename_i h
        simp only [w_none, false_iff]
        rintro ⟨i, j, rfl, rfl, _⟩
        exact h i j rfl rfl
    constructor
    · intro h; exact wE_mono h fun x s1 h => wE_mono (w_bnd.mp h) fun y s2 h => (key x y s2).mp h
    · intro h; exact wE_mono h fun x s1 h => w_bnd.mpr (wE_mono h fun y s2 h => (key x y s2).mpr h)
theorem wC_while {t : T} {b : C} {P : Pst} (I : Nat → Env → S → Prop) (n : Nat) (h : I n σ s)
    (hs : ∀ n σ s, I n σ s → wE (t σ s) (fun c s1 => if c = true then ∃ m, n = m + 1 ∧ wC (b σ s1) { P with nx := fun e s => I m e s, ct := fun e s => I m e s, bk := P.nx } else P.nx σ s1) P.xc) : wC (cWhile t b σ s) P := by
  with_unfolding_all
    have key : ∀ n σ s, I n σ s → ∃ k r, whileN t b k σ s = some r ∧ wC (some r) P := by
      intro n
      induction n using Nat.strongRecOn with
      | ind n ih =>
        intro σ s hI
        have h1 := hs n σ s hI
        cases ht : t σ s with
        | none => rw [ht] at h1; exact h1.elim
        | some r =>
          rw [ht] at h1
          cases r with
          | exc c fs s' => exact ⟨1, .xc c fs σ s', by simp [whileN, ex, ht], h1⟩
          | ok c s1 =>
            cases c with
            | false =>
              refine ⟨1, .nx σ s1, by simp [whileN, ex, ht], ?_⟩
              simpa [wC] using h1
            | true =>
              simp only [w_some, if_true] at h1
              obtain ⟨m, rfl, h2⟩ := h1
              cases hb : b σ s1 with
              | none => rw [hb] at h2; exact h2.elim
              | some r =>
                rw [hb] at h2
                cases r with
                | nx e2 s2 =>
                  obtain ⟨k, r, h3, h4⟩ := ih m (Nat.lt_succ_self _) e2 s2 h2
                  exact ⟨k + 1, r, by simp [whileN, ex, ht, hb, h3], h4⟩
                | ct e2 s2 =>
                  obtain ⟨k, r, h3, h4⟩ := ih m (Nat.lt_succ_self _) e2 s2 h2
                  exact ⟨k + 1, r, by simp [whileN, ex, ht, hb, h3], h4⟩
                | bk e2 s2 => exact ⟨1, .nx e2 s2, by simp [whileN, ex, ht, hb], h2⟩
                | rt d2 s2 => exact ⟨1, .rt d2 s2, by simp [whileN, ex, ht, hb], h2⟩
                | xc c fs e2 s2 => exact ⟨1, .xc c fs e2 s2, by simp [whileN, ex, ht, hb], h2⟩
    obtain ⟨k, r, h1, h2⟩ := key n σ s h
    -- two ends of one loop are one
    have mono : ∀ k σ s r, whileN t b k σ s = some r → ∀ j, whileN t b (k + j) σ s = some r := by
      intro k
      induction k with
      | zero => intro σ s r h; simp [whileN] at h
      | succ k ih =>
        intro σ s r h j
        rw [show k + 1 + j = (k + j) + 1 by omega]
        unfold whileN ex at h ⊢
        cases ht : t σ s with
        | none => rw [ht] at h; simp at h
        | some q =>
          rw [ht] at h
          cases q with
          | exc c fs s' => exact h
          | ok c s1 =>
            cases c with
            | false => exact h
            | true =>
              simp only [if_true] at h ⊢
              cases hb : b σ s1 with
              | none => rw [hb] at h; simp at h
              | some q =>
                rw [hb] at h
                cases q with
                | nx e2 s2 => exact ih e2 s2 r h j
                | ct e2 s2 => exact ih e2 s2 r h j
                | bk e2 s2 => exact h
                | rt d2 s2 => exact h
                | xc c fs e2 s2 => exact h
    unfold cWhile
    have hx : ∃ r, ∃ n, whileN t b n σ s = some r := ⟨r, k, h1⟩
    rw [dif_pos hx]
    obtain ⟨k', hk'⟩ := Classical.choose_spec hx
    have e1 := mono k σ s r h1 k'
    have e2 := mono k' σ s _ hk' k
    rw [Nat.add_comm] at e2
    rw [e1] at e2
    rw [← Option.some.inj e2]
    exact h2
/-- the list that a comprehension over values makes: I by what is left, what is made -/
theorem w_lcV {D0 : Nat} {vs : List Nat} {g : G} {t : T} {e : E} (I : List D → List D → S → Prop) : ∀ (ds acc : List D) {s : S}, I ds acc s → s[D0]? = some (.lst acc) →
    (∀ d r acc s, I (d :: r) acc s → s[D0]? = some (.lst acc) → ∃ σ1, g d (wipe σ vs) s = some σ1 ∧ wE (t σ1 s) (fun c s1 => if c = true then wE (e σ1 s1) (fun y s2 => s2[D0]? = some (.lst acc) ∧ acc.length < 16777216 ∧ I r (acc ++ [y]) (s2.set D0 (.lst (acc ++ [y])))) (fun _ _ _ => False) else s1[D0]? = some (.lst acc) ∧ I r acc s1) (fun _ _ _ => False)) →
    ∃ s' acc', lcV D0 vs g t e ds σ s = some s' ∧ s'[D0]? = some (.lst acc') ∧ I [] acc' s'
  | [], acc, s, h, hD, _ => ⟨s, acc, rfl, hD, h⟩
  | d :: r, acc, s, h, hD, hs => by
    with_unfolding_all
      obtain ⟨σ1, h1, h2⟩ := hs d r acc s h hD
      unfold lcV
      rw [h1]
      dsimp only
      cases ht : t σ1 s with
      | none => rw [ht] at h2; exact h2.elim
      | some q =>
        rw [ht] at h2
        cases q with
        | exc c fs s' => exact h2.elim
        | ok c s1 =>
          cases c with
          | false =>
            simp only [w_some, Bool.false_eq_true, if_false] at h2
            exact w_lcV I r acc h2.2 h2.1 hs
          | true =>
            simp only [w_some, if_true] at h2
            dsimp only
            cases he : e σ1 s1 with
            | none => rw [he] at h2; exact h2.elim
            | some q =>
              rw [he] at h2
              cases q with
              | exc c fs s' => exact h2.elim
              | ok y s2 =>
                obtain ⟨h3, h4, h5⟩ := w_some.mp h2
                have hl : D0 < s2.length := (List.getElem?_eq_some_iff.mp h3).1
                dsimp only
                unfold lcStep
                rw [h3]
                dsimp only
                rw [if_pos h4]
                exact w_lcV I r (acc ++ [y]) h5 (by rw [List.getElem?_set_self hl]) hs
theorem w_lc {vs : List Nat} {src : SrcE} {g : G} {t : T} {e : E} {Q : D → S → Prop} : wE (eLc vs src g t e σ s) Q X ↔ wE (src σ s) (fun sk s1 => wE (match sk with
    | .vals ds => lcNew s1 fun D0 s2 => lcV D0 vs g t e ds σ s2
    | .list n k => lcNew s1 fun D0 s2 => lcL D0 n vs g t e k 0 σ s2
    | .dict n ds => lcDict n s1 fun s2 => lcNew s2 fun D0 s3 => lcV D0 vs g t e ds σ s3) Q X) X := by
  with_unfolding_all
    exact w_bnd
theorem w_lcNew {f : Nat → S → Option S} {Q : D → S → Prop} : wE (lcNew s f) Q X ↔ ∃ s', f s.length (s ++ [.lst []]) = some s' ∧ Q (.ref s.length) s' := by
  with_unfolding_all
    unfold lcNew
    rw [w_map]
    rfl
end
end Fc
namespace Fc
open PySem
section
variable {α β : Type} {s : S} {σ : Env} {X : Xc}
def onD (o : Option (Option D)) (k : D → Prop) : Prop := match o with
  | some (some d) => k d
  | _ => False
@[simp] theorem onD_some {d : D} {k : D → Prop} : onD (some (some d)) k ↔ k d := by
  with_unfolding_all
    exact Iff.rfl
def onO {α : Type} (o : Option α) (k : α → Prop) : Prop := match o with
  | some d => k d
  | none => False
@[simp] theorem onO_some {d : α} {k : α → Prop} : onO (some d) k ↔ k d := by
  with_unfolding_all
    exact Iff.rfl
@[simp] theorem onO_none {k : α → Prop} : onO none k ↔ False := by
  with_unfolding_all
    exact Iff.rfl
theorem onO_iff {o : Option α} {k : α → Prop} : onO o k ↔ ∃ d, o = some d ∧ k d := by
  with_unfolding_all
    cases o <;> simp
def onB (x : D) (k : Bool → Prop) : Prop := match x with
  | .bl c => k c
  | _ => False
@[simp] theorem onB_bl {c : Bool} {k : Bool → Prop} : onB (.bl c) k ↔ k c := by
  with_unfolding_all
    exact Iff.rfl
theorem onB_iff {x : D} {k : Bool → Prop} : onB x k ↔ ∃ c, x = .bl c ∧ k c := by
  with_unfolding_all
    cases x <;> simp [onB]
def onI (x : D) (k : Int → Prop) : Prop := match x with
  | .int c => k c
  | _ => False
@[simp] theorem onI_int {c : Int} {k : Int → Prop} : onI (.int c) k ↔ k c := by
  with_unfolding_all
    exact Iff.rfl
theorem onI_iff {x : D} {k : Int → Prop} : onI x k ↔ ∃ c, x = .int c ∧ k c := by
  with_unfolding_all
    cases x <;> simp [onI]
/-- by a truth value -/
def onT (c : Bool) (a b : Prop) : Prop := if c = true then a else b
@[simp] theorem onT_t {a b : Prop} : onT true a b ↔ a := by
  with_unfolding_all
    simp [onT]
@[simp] theorem onT_f {a b : Prop} : onT false a b ↔ b := by
  with_unfolding_all
    simp [onT]
theorem onT_iff {c : Bool} {a b : Prop} : onT c a b ↔ (c = true → a) ∧ (c = false → b) := by
  with_unfolding_all
    cases c <;> simp [onT]
theorem onT_by {c : Bool} {a b : Prop} (h1 : c = true → a) (h2 : c = false → b) : onT c a b := by
  with_unfolding_all
    exact onT_iff.mpr ⟨h1, h2⟩
@[simp ↓] theorem v_var {i : Nat} {Q : D → S → Prop} : wE (eVar i σ s) Q X ↔ onD σ[i]? fun d => Q d s := by
  with_unfolding_all
    rw [w_var]
    unfold onD
    cases h : σ[i]? with
    | none => simp
    | some o => cases o <;> simp
@[simp ↓] theorem v_c {d : D} {Q : D → S → Prop} : wE (eC d σ s) Q X ↔ Q d s := by
  with_unfolding_all
    exact Iff.rfl
@[simp ↓] theorem v_e1 {f : D → M D} {a : E} {Q : D → S → Prop} : wE (e1 f a σ s) Q X ↔ wE (a σ s) (fun x s' => wE (f x s') Q X) X := by
  with_unfolding_all
    exact w_e1
@[simp ↓] theorem v_e2 {f : D → D → M D} {a b : E} {Q : D → S → Prop} : wE (e2 f a b σ s) Q X ↔ wE (a σ s) (fun x s1 => wE (b σ s1) (fun y s2 => wE (f x y s2) Q X) X) X := by
  with_unfolding_all
    exact w_e2
@[simp ↓] theorem v_lnil {Q : List D → S → Prop} : wE (lNil σ s) Q X ↔ Q [] s := by
  with_unfolding_all
    exact Iff.rfl
@[simp ↓] theorem v_lcons {a : E} {r : EL} {Q : List D → S → Prop} : wE (lCons a r σ s) Q X ↔ wE (a σ s) (fun x s1 => wE (r σ s1) (fun xs s2 => Q (x :: xs) s2) X) X := by
  with_unfolding_all
    exact w_lcons
@[simp ↓] theorem v_eN {f : List D → M D} {es : EL} {Q : D → S → Prop} : wE (eN f es σ s) Q X ↔ wE (es σ s) (fun xs s' => wE (f xs s') Q X) X := by
  with_unfolding_all
    exact w_eN
@[simp ↓] theorem v_eM {f : D → List D → M D} {o : E} {es : EL} {Q : D → S → Prop} : wE (eM f o es σ s) Q X ↔ wE (o σ s) (fun x s1 => onT (isLst s1 x) (wE (es σ s1) (fun xs s2 => wE (f x xs s2) Q X) X) False) X := by
  with_unfolding_all
    rw [w_eM]
    constructor <;> (intro h; refine wE_mono h fun x s1 h => ?_; revert h; cases isLst s1 x <;> simp)
@[simp ↓] theorem v_if {t : T} {a b : E} {Q : D → S → Prop} : wE (eIf t a b σ s) Q X ↔ wE (t σ s) (fun c s1 => onT c (wE (a σ s1) Q X) (wE (b σ s1) Q X)) X := by
  with_unfolding_all
    exact w_if
@[simp ↓] theorem v_or {a b : E} {Q : D → S → Prop} : wE (eOr a b σ s) Q X ↔ wE (a σ s) (fun x s1 => onO (truth s1 x) fun c => onT c (Q x s1) (wE (b σ s1) Q X)) X := by
  with_unfolding_all
    rw [w_or]
    constructor <;> (intro h; refine wE_mono h fun x s1 h => ?_; revert h; simp [onO_iff, onT])
@[simp ↓] theorem v_and {a b : E} {Q : D → S → Prop} : wE (eAnd a b σ s) Q X ↔ wE (a σ s) (fun x s1 => onO (truth s1 x) fun c => onT c (wE (b σ s1) Q X) (Q x s1)) X := by
  with_unfolding_all
    rw [w_and]
    constructor <;> (intro h; refine wE_mono h fun x s1 h => ?_; revert h; simp [onO_iff, onT])
@[simp ↓] theorem v_tE {a : E} {Q : Bool → S → Prop} : wE (tE a σ s) Q X ↔ wE (a σ s) (fun x s1 => onO (truth s1 x) fun c => Q c s1) X := by
  with_unfolding_all
    rw [w_tE]
    constructor <;> (intro h; refine wE_mono h fun x s1 h => ?_; revert h; simp [onO_iff])
@[simp ↓] theorem v_tB {a : E} {Q : Bool → S → Prop} : wE (tB a σ s) Q X ↔ wE (a σ s) (fun x s1 => onB x fun c => Q c s1) X := by
  with_unfolding_all
    rw [w_tB]
    constructor <;> (intro h; refine wE_mono h fun x s1 h => ?_; revert h; simp [onB_iff])
@[simp ↓] theorem v_tNot {t : T} {Q : Bool → S → Prop} : wE (tNot t σ s) Q X ↔ wE (t σ s) (fun c s1 => Q (!c) s1) X := by
  with_unfolding_all
    exact w_tNot
@[simp ↓] theorem v_eNotT {t : T} {Q : D → S → Prop} : wE (eNotT t σ s) Q X ↔ wE (t σ s) (fun c s1 => Q (.bl (!c)) s1) X := by
  with_unfolding_all
    exact w_eNotT
@[simp ↓] theorem v_tAnd {t u : T} {Q : Bool → S → Prop} : wE (tAnd t u σ s) Q X ↔ wE (t σ s) (fun c s1 => onT c (wE (u σ s1) Q X) (Q false s1)) X := by
  with_unfolding_all
    exact w_tAnd
@[simp ↓] theorem v_tOr {t u : T} {Q : Bool → S → Prop} : wE (tOr t u σ s) Q X ↔ wE (t σ s) (fun c s1 => onT c (Q true s1) (wE (u σ s1) Q X)) X := by
  with_unfolding_all
    exact w_tOr
@[simp ↓] theorem v_tYes {Q : Bool → S → Prop} : wE (tYes σ s) Q X ↔ Q true s := by
  with_unfolding_all
    exact Iff.rfl
@[simp ↓] theorem v_chain {f g : D → D → M D} {a b c : E} {Q : D → S → Prop} : wE (eChain f g a b c σ s) Q X ↔ wE (a σ s) (fun x s1 => wE (b σ s1) (fun y s2 => wE (f x y s2) (fun r s3 => onB r fun k => onT k (wE (c σ s3) (fun z s4 => wE (g y z s4) Q X) X) (Q (.bl false) s3)) X) X) X := by
  with_unfolding_all
    rw [w_chain]
    constructor <;> (intro h; refine wE_mono h fun x s1 h => wE_mono h fun y s2 h => wE_mono h fun r s3 h => ?_; revert h; simp [onB_iff, onT])
@[simp ↓] theorem v_call {f : F} {dfl : List D} {es : EL} {Q : D → S → Prop} : wE (eCall f dfl es σ s) Q X ↔ wE (es σ s) (fun ds s1 => wE (f (ds ++ dfl) s1) Q X) X := by
  with_unfolding_all
    exact w_call
@[simp ↓] theorem v_cut {a : E} {lo hi : EO} {Q : D → S → Prop} : wE (eCut a lo hi σ s) Q X ↔ wE (a σ s) (fun x s1 => wE (lo σ s1) (fun l s2 => wE (hi σ s2) (fun h s3 => wE (oCut x l h s3) Q X) X) X) X := by
  with_unfolding_all
    exact w_cut
@[simp ↓] theorem v_pNo {Q : Option Int → S → Prop} : wE (pNo σ s) Q X ↔ Q none s := by
  with_unfolding_all
    exact Iff.rfl
@[simp ↓] theorem v_pYes {a : E} {Q : Option Int → S → Prop} : wE (pYes a σ s) Q X ↔ wE (a σ s) (fun x s1 => onI x fun i => Q (some i) s1) X := by
  with_unfolding_all
    rw [w_pYes]
    constructor <;> (intro h; refine wE_mono h fun x s1 h => ?_; revert h; simp [onI_iff])
@[simp ↓] theorem v_get2 {d k z : E} {Q : D → S → Prop} : wE (eGet2 d k z σ s) Q X ↔ wE (d σ s) (fun x s1 => onT (isDict s1 x) (wE (k σ s1) (fun y s2 => wE (z σ s2) (fun w s3 => onO (dgetAt s3 x y) fun o => Q (o.getD w) s3) X) X) False) X := by
  with_unfolding_all
    rw [w_get2]
    constructor
    · intro h
      refine wE_mono h fun x s1 h => ?_
      rw [h.1, onT_t]
      refine wE_mono h.2 fun y s2 h => wE_mono h fun w s3 h => ?_
      rw [onO_iff]; exact h
    · intro h
      refine wE_mono h fun x s1 h => ?_
      cases e : isDict s1 x with
      | false => rw [e] at h; simp at h
      | true =>
        rw [e, onT_t] at h
        refine ⟨rfl, wE_mono h fun y s2 h => wE_mono h fun w s3 h => ?_⟩
        rw [onO_iff] at h; exact h
@[simp ↓] theorem v_ite {α : Type} {c : Prop} [Decidable c] {m m' : Option (Res α)} {Q : α → S → Prop} : wE (if c then m else m') Q X ↔ onT (decide c) (wE m Q X) (wE m' Q X) := by
  with_unfolding_all
    by_cases h : c <;> simp [h]
@[simp ↓] theorem v_map {α : Type} {o : Option α} {f : α → Res β} {Q : β → S → Prop} : wE (o.map f) Q X ↔ onO o fun x => wE (some (f x)) Q X := by
  with_unfolding_all
    cases o <;> simp
@[simp ↓] theorem v_pur2 {f : S → D → D → Option D} {x y : D} {Q : D → S → Prop} : wE (pur2 f x y s) Q X ↔ onO (f s x y) fun d => Q d s := by
  with_unfolding_all
    rw [w_pur2, onO_iff]
@[simp ↓] theorem v_new {o : O} {Q : D → S → Prop} : wE (new o s) Q X ↔ Q (.ref s.length) (s ++ [o]) := by
  with_unfolding_all
    exact Iff.rfl
@[simp ↓] theorem v_ret {x : α} {Q : α → S → Prop} : wE (ret x s) Q X ↔ Q x s := by
  with_unfolding_all
    exact Iff.rfl
@[simp ↓] theorem k_nx {P : Pst} {e : Env} : wC (some (.nx e s)) P ↔ P.nx e s := by
  with_unfolding_all
    exact Iff.rfl
@[simp ↓] theorem k_none {P : Pst} : wC none P ↔ False := by
  with_unfolding_all
    exact Iff.rfl
@[simp ↓] theorem k_nil {P : Pst} : wC (cNil σ s) P ↔ P.nx σ s := by
  with_unfolding_all
    exact Iff.rfl
@[simp ↓] theorem k_never {P : Pst} : wC (cNever σ s) P ↔ False := by
  with_unfolding_all
    exact Iff.rfl
@[simp ↓] theorem k_seq {a b : C} {P : Pst} : wC (cSeq a b σ s) P ↔ wC (a σ s) { P with nx := fun e s => wC (b e s) P } := by
  with_unfolding_all
    exact wC_seq
@[simp ↓] theorem k_expr {e : E} {P : Pst} : wC (cExpr e σ s) P ↔ wE (e σ s) (fun _ s' => P.nx σ s') P.xc := by
  with_unfolding_all
    exact wC_ex
@[simp ↓] theorem k_ret {e : E} {P : Pst} : wC (cRet e σ s) P ↔ wE (e σ s) (fun d s' => P.rt d s') P.xc := by
  with_unfolding_all
    exact wC_ex
@[simp ↓] theorem k_brk {P : Pst} : wC (cBrk σ s) P ↔ P.bk σ s := by
  with_unfolding_all
    exact Iff.rfl
@[simp ↓] theorem k_cnt {P : Pst} : wC (cCnt σ s) P ↔ P.ct σ s := by
  with_unfolding_all
    exact Iff.rfl
@[simp ↓] theorem k_if {t : T} {a b : C} {P : Pst} : wC (cIf t a b σ s) P ↔ wE (t σ s) (fun c s1 => onT c (wC (a σ s1) P) (wC (b σ s1) P)) P.xc := by
  with_unfolding_all
    exact wC_if
@[simp ↓] theorem k_set {e : E} {g : G} {P : Pst} : wC (cSet e g σ s) P ↔ wE (e σ s) (fun d s1 => onO (g d σ s1) fun σ' => P.nx σ' s1) P.xc := by
  with_unfolding_all
    rw [wC_set]
    constructor <;> (intro h; refine wE_mono h fun x s1 h => ?_; revert h; simp [onO_iff])
@[simp ↓] theorem k_par {i j : Nat} {es : EL} {P : Pst} : wC (cPar i j es σ s) P ↔ wE (es σ s) (fun ds s1 => match ds with
    | [x, y] => P.nx ((σ.set i (some x)).set j (some y)) s1
    | _ => False) P.xc := by
  with_unfolding_all
    rw [wC_par]
    constructor
    · intro h
      refine wE_mono h fun ds s1 h => ?_
      obtain ⟨x, y, rfl, h⟩ := h
      exact h
    · intro h
      refine wE_mono h fun ds s1 h => ?_
      split at h
      · exact ⟨_, _, rfl, h⟩
      · exact h.elim
@[simp ↓] theorem k_par3 {i j l : Nat} {es : EL} {P : Pst} : wC (cPar3 i j l es σ s) P ↔ wE (es σ s) (fun ds s1 => match ds with
    | [x, y, z] => P.nx (((σ.set i (some x)).set j (some y)).set l (some z)) s1
    | _ => False) P.xc := by
  with_unfolding_all
    rw [wC_par3]
    constructor
    · intro h
      refine wE_mono h fun ds s1 h => ?_
      obtain ⟨x, y, z, rfl, h⟩ := h
      exact h
    · intro h
      refine wE_mono h fun ds s1 h => ?_
      split at h
      · exact ⟨_, _, _, rfl, h⟩
      · exact h.elim
@[simp ↓] theorem k_aug {i : Nat} {f : D → D → M D} {e : E} {P : Pst} : wC (cAug i f e σ s) P ↔ onD σ[i]? fun x => wE (e σ s) (fun y s1 => wE (f x y s1) (fun z s2 => P.nx (σ.set i (some z)) s2) P.xc) P.xc := by
  with_unfolding_all
    rw [wC_aug]
    unfold onD
    cases h : σ[i]? with
    | none => simp
    | some o => cases o <;> simp
/-- what a[i] = v does to the store -/
def putAt (s : S) (x y v : D) : Option S := match x with
  | .ref n => match s[n]? with
    | some (.lst ds) => match y with
      | .int k => (L2.ixN ds.length k).map fun j => s.set n (.lst (ds.set j v))
      | _ => none
    | some ob => (dput ob y v).map fun o' => s.set n o'
    | none => none
  | _ => none
@[simp ↓] theorem k_sub {o i e : E} {P : Pst} : wC (cSub o i e σ s) P ↔ wE (e σ s) (fun v s1 => wE (o σ s1) (fun x s2 => wE (i σ s2) (fun y s3 => onO (putAt s3 x y v) fun s4 => P.nx σ s4) P.xc) P.xc) P.xc := by
  with_unfolding_all
    rw [wC_sub]
    have key : ∀ (v x y : D) (s3 : S), onO (putAt s3 x y v) (fun s4 => P.nx σ s4) ↔ ∃ n ob, x = .ref n ∧ s3[n]? = some ob ∧
      ((∃ ds k j, ob = .lst ds ∧ y = .int k ∧ L2.ixN ds.length k = some j ∧ P.nx σ (s3.set n (.lst (ds.set j v)))) ∨ ((∀ ds, ob ≠ .lst ds) ∧ ∃ o', dput ob y v = some o' ∧ P.nx σ (s3.set n o'))) := by
      intro v x y s3
      unfold putAt
      cases x with
      | ref n =>
        dsimp only
        cases hn : s3[n]? with
        | none => simp [hn]
        | some ob =>
          cases ob with
          | lst ds =>
            cases y with
            | int k =>
              dsimp only
              cases hj : L2.ixN ds.length k with
              | none => simp [hn, hj]
              | some j => simp [hn, hj]
            | _ => simp [hn]
          | _ =>
            dsimp only
            cases hj : dput _ y v with
            | none => simp [hn, hj]
            | some j => simp [hn, hj]
      | _ => simp
    constructor
    · intro h
      exact wE_mono h fun v s1 h => wE_mono h fun x s2 h => wE_mono h fun y s3 h => (key v x y s3).mpr h
    · intro h
      exact wE_mono h fun v s1 h => wE_mono h fun x s2 h => wE_mono h fun y s3 h => (key v x y s3).mp h
/-- what a def does -/
theorem v_def {np nn : Nat} {b : C} {ds : List D} {Q : D → S → Prop} (h : ds.length = np) : wE (defF np nn b ds s) Q X ↔ wC (b (ds.map some ++ List.replicate (nn - np) none) s) { nx := fun _ s' => Q .non s', rt := Q, xc := X } := by
  with_unfolding_all
    rw [w_def]
    simp [h]
@[simp ↓] theorem v_for {src : SrcE} {g : G} {b : C} {P : Pst} : wC (cFor src g b σ s) P ↔ wE (src σ s) (fun sk s1 => match sk with
    | .vals ds => wC (forV g b ds σ s1) P
    | .list n k => wC (forL n g b k 0 σ s1) P
    | .dict n ds => wC (lockV n s1 fun s2 => forV g b ds σ s2) P) P.xc := by
  with_unfolding_all
    rw [wC_for]
    constructor <;> (intro h; refine wE_mono h fun x s1 h => ?_; cases x <;> exact h)
@[simp ↓] theorem v_iSrc {k : Src} {e : E} {Q : SK → S → Prop} : wE (iSrc k e σ s) Q X ↔ wE (e σ s) (fun x s1 => onO (srcOf k x s1) fun sk => Q sk s1) X := by
  with_unfolding_all
    rw [w_iSrc]
    constructor <;> (intro h; refine wE_mono h fun x s1 h => ?_; revert h; simp [onO_iff])
@[simp ↓] theorem v_iRange {a b : E} {Q : SK → S → Prop} : wE (iRange a b σ s) Q X ↔ wE (a σ s) (fun x s1 => wE (b σ s1) (fun y s2 => onI x fun i => onI y fun j => onT (small i && small j) (Q (.vals (rangeL i j)) s2) False) X) X := by
  with_unfolding_all
    rw [w_iRange]
    constructor <;> (intro h; refine wE_mono h fun x s1 h => wE_mono h fun y s2 h => ?_; revert h; simp only [onI_iff, onT])
    · rintro ⟨i, j, rfl, rfl, h, q⟩
      exact ⟨i, rfl, j, rfl, by rw [if_pos h]; exact q⟩
    · rintro ⟨i, rfl, j, rfl, q⟩
      by_cases h : (small i && small j) = true
      · rw [if_pos h] at q; exact ⟨i, j, rfl, rfl, h, q⟩
      · rw [if_neg h] at q; exact q.elim
@[simp ↓] theorem v_lc {vs : List Nat} {src : SrcE} {g : G} {t : T} {e : E} {Q : D → S → Prop} : wE (eLc vs src g t e σ s) Q X ↔ wE (src σ s) (fun sk s1 => match sk with
    | .vals ds => wE (lcNew s1 fun D0 s2 => lcV D0 vs g t e ds σ s2) Q X
    | .list n k => wE (lcNew s1 fun D0 s2 => lcL D0 n vs g t e k 0 σ s2) Q X
    | .dict n ds => wE (lcDict n s1 fun s2 => lcNew s2 fun D0 s3 => lcV D0 vs g t e ds σ s3) Q X) X := by
  with_unfolding_all
    rw [w_lc]
    constructor <;> (intro h; refine wE_mono h fun x s1 h => ?_; cases x <;> exact h)
end
end Fc
namespace Fc
open PySem
section
variable {s : S} {σ : Env} {X : Xc} {Q : D → S → Prop}
@[simp ↓] theorem o_add_i {i j : Int} : wE (oAdd (.int i) (.int j) s) Q X ↔ Q (.int (i + j)) s := by
  with_unfolding_all
    exact Iff.rfl
@[simp ↓] theorem o_add_s {a b : Str} : wE (oAdd (.str a) (.str b) s) Q X ↔ onT (sz (a.length + b.length)) (Q (.str (a ++ b)) s) False := by
  with_unfolding_all
    unfold oAdd; by_cases h : sz (a.length + b.length) = true <;> simp [h]
@[simp ↓] theorem o_add_t {a b : List D} : wE (oAdd (.tup a) (.tup b) s) Q X ↔ onT (sz (a.length + b.length)) (Q (.tup (a ++ b)) s) False := by
  with_unfolding_all
    unfold oAdd; by_cases h : sz (a.length + b.length) = true <;> simp [h]
@[simp ↓] theorem o_sub_i {i j : Int} : wE (oSub (.int i) (.int j) s) Q X ↔ Q (.int (i - j)) s := by
  with_unfolding_all
    exact Iff.rfl
@[simp ↓] theorem o_mul_i {i j : Int} : wE (oMul (.int i) (.int j) s) Q X ↔ onT (decide (bits i + bits j < 900000)) (Q (.int (i * j)) s) False := by
  with_unfolding_all
    unfold oMul; by_cases h : bits i + bits j < 900000 <;> simp [h]
@[simp ↓] theorem o_mod_i {i j : Int} : wE (oMod (.int i) (.int j) s) Q X ↔ onT (decide (0 < j)) (Q (.int (i % j)) s) False := by
  with_unfolding_all
    unfold oMod pur2; by_cases h : 0 < j <;> simp [h]
@[simp ↓] theorem o_div_i {i j : Int} : wE (oDiv (.int i) (.int j) s) Q X ↔ onT (decide (0 < j) && decide (bits j < 8000)) (Q (.int (i / j)) s) False := by
  with_unfolding_all
    unfold oDiv pur2
    by_cases h : (decide (0 < j) && decide (bits j < 8000)) = true
    · rw [h]; simp only [if_pos h]; simp
    · have h' := Bool.eq_false_iff.mpr h
      rw [h']; simp only [if_neg h]; simp
@[simp ↓] theorem o_pow_i {i j : Int} : wE (oPow (.int i) (.int j) s) Q X ↔ onT (decide (0 ≤ j) && decide ((bits i + 1) * j.toNat ≤ 100000)) (Q (.int (i ^ j.toNat)) s) False := by
  with_unfolding_all
    unfold oPow pur2
    by_cases h : (decide (0 ≤ j) && decide ((bits i + 1) * j.toNat ≤ 100000)) = true
    · rw [h]; simp only [if_pos h]; simp
    · have h' := Bool.eq_false_iff.mpr h
      rw [h']; simp only [if_neg h]; simp
@[simp ↓] theorem o_neg_i {i : Int} : wE (oNeg (.int i) s) Q X ↔ Q (.int (-i)) s := by
  with_unfolding_all
    exact Iff.rfl
@[simp ↓] theorem o_lt_i {i j : Int} : wE (oLt (.int i) (.int j) s) Q X ↔ Q (.bl (decide (i < j))) s := by
  with_unfolding_all
    exact Iff.rfl
@[simp ↓] theorem o_le_i {i j : Int} : wE (oLe (.int i) (.int j) s) Q X ↔ Q (.bl (decide (i ≤ j))) s := by
  with_unfolding_all
    exact Iff.rfl
@[simp ↓] theorem o_gt_i {i j : Int} : wE (oGt (.int i) (.int j) s) Q X ↔ Q (.bl (decide (j < i))) s := by
  with_unfolding_all
    exact Iff.rfl
@[simp ↓] theorem o_ge_i {i j : Int} : wE (oGe (.int i) (.int j) s) Q X ↔ Q (.bl (decide (j ≤ i))) s := by
  with_unfolding_all
    exact Iff.rfl
@[simp ↓] theorem o_eq {x y : D} : wE (oEq x y s) Q X ↔ onO (eqD s x y) fun b => Q (.bl b) s := by
  with_unfolding_all
    unfold oEq pur2; cases h : eqD s x y <;> simp [h]
@[simp ↓] theorem o_ne {x y : D} : wE (oNe x y s) Q X ↔ onO (eqD s x y) fun b => Q (.bl (!b)) s := by
  with_unfolding_all
    unfold oNe pur2; cases h : eqD s x y <;> simp [h]
@[simp ↓] theorem o_in {x y : D} : wE (oIn x y s) Q X ↔ onO (isIn s x y) fun b => Q (.bl b) s := by
  with_unfolding_all
    unfold oIn pur2; cases h : isIn s x y <;> simp [h]
@[simp ↓] theorem o_notin {x y : D} : wE (oNotIn x y s) Q X ↔ onO (isIn s x y) fun b => Q (.bl (!b)) s := by
  with_unfolding_all
    unfold oNotIn pur2; cases h : isIn s x y <;> simp [h]
@[simp ↓] theorem o_at {x y : D} : wE (oAt x y s) Q X ↔ onO (atD s x y) fun b => Q b s := by
  with_unfolding_all
    unfold oAt pur2; cases h : atD s x y <;> simp [h]
def isNon : D → Bool
  | .non => true
  | _ => false
@[simp] theorem isNon_non : isNon .non = true := by
  with_unfolding_all
    exact rfl
@[simp] theorem isNon_bl {b : Bool} : isNon (.bl b) = false := by
  with_unfolding_all
    exact rfl
@[simp] theorem isNon_int {b : Int} : isNon (.int b) = false := by
  with_unfolding_all
    exact rfl
@[simp] theorem isNon_str {b : Str} : isNon (.str b) = false := by
  with_unfolding_all
    exact rfl
@[simp] theorem isNon_tup {b : List D} : isNon (.tup b) = false := by
  with_unfolding_all
    exact rfl
@[simp] theorem isNon_ref {b : Nat} : isNon (.ref b) = false := by
  with_unfolding_all
    exact rfl
@[simp ↓] theorem o_isN {x : D} : wE (oIsN x s) Q X ↔ Q (.bl (isNon x)) s := by
  with_unfolding_all
    cases x <;> rfl
@[simp ↓] theorem o_notN {x : D} : wE (oNotN x s) Q X ↔ Q (.bl (!isNon x)) s := by
  with_unfolding_all
    cases x <;> rfl
@[simp ↓] theorem o_len {x : D} : wE (fLen [x] s) Q X ↔ onO (lenD s x) fun n => Q (.int n) s := by
  with_unfolding_all
    unfold fLen; cases h : lenD s x <;> simp [h]
@[simp ↓] theorem o_int_i {i : Int} : wE (fInt [.int i] s) Q X ↔ Q (.int i) s := by
  with_unfolding_all
    exact Iff.rfl
@[simp ↓] theorem o_int_b {b : Bool} : wE (fInt [.bl b] s) Q X ↔ Q (.int (if b then 1 else 0)) s := by
  with_unfolding_all
    exact Iff.rfl
@[simp ↓] theorem o_max {i j : Int} : wE (fMax [.int i, .int j] s) Q X ↔ Q (.int (max i j)) s := by
  with_unfolding_all
    have e : maxI i [j] = max i j := by
      simp only [maxI]; split <;> omega
    unfold fMax mm
    simp [e]
@[simp ↓] theorem o_min {i j : Int} : wE (fMin [.int i, .int j] s) Q X ↔ Q (.int (min i j)) s := by
  with_unfolding_all
    have e : minI i [j] = min i j := by
      simp only [minI]; split <;> omega
    unfold fMin mm
    simp [e]
@[simp ↓] theorem o_tup {ds : List D} : wE (mTup ds s) Q X ↔ onT (sz ds.length) (Q (.tup ds) s) False := by
  with_unfolding_all
    unfold mTup; cases sz ds.length <;> simp [stuck]
@[simp ↓] theorem o_lst {ds : List D} : wE (mLst ds s) Q X ↔ onT (sz ds.length) (Q (.ref s.length) (s ++ [.lst ds])) False := by
  with_unfolding_all
    unfold mLst; cases sz ds.length <;> simp [stuck]
@[simp ↓] theorem o_dK {Q : D → S → Prop} : wE (mDK s) Q X ↔ Q (.ref s.length) (s ++ [.dK []]) := by
  with_unfolding_all
    exact Iff.rfl
@[simp ↓] theorem o_dT {Q : D → S → Prop} : wE (mDT s) Q X ↔ Q (.ref s.length) (s ++ [.dT []]) := by
  with_unfolding_all
    exact Iff.rfl
@[simp ↓] theorem o_is {t : Ty} {x : D} : wE (oIs t x s) Q X ↔ onO (isTy s x t) fun b => Q (.bl b) s := by
  with_unfolding_all
    unfold oIs; cases isTy s x t <;> simp
@[simp ↓] theorem o_bitlen {i : Int} : wE (oBitLen (.int i) s) Q X ↔ Q (.int (Builtin.Int.intBits i : Nat)) s := by
  with_unfolding_all
    exact Iff.rfl
@[simp ↓] theorem o_tuple_t {ds : List D} : wE (fTuple [.tup ds] s) Q X ↔ Q (.tup ds) s := by
  with_unfolding_all
    exact Iff.rfl
@[simp ↓] theorem o_tuple_l {n : Nat} : wE (fTuple [.ref n] s) Q X ↔ onO (lstAt s n) fun ds => Q (.tup ds) s := by
  with_unfolding_all
    unfold fTuple lstAt
    cases h : s[n]? with
    | none => simp [h]
    | some o => cases o <;> simp [h]
@[simp ↓] theorem o_app {n : Nat} {y : D} : wE (mAppend (.ref n) [y] s) Q X ↔ onO (lstAt s n) fun ds => onT (decide (ds.length < 16777216)) (Q .non (s.set n (.lst (ds ++ [y])))) False := by
  with_unfolding_all
    unfold mAppend mutO lstAt
    cases h : s[n]? with
    | none => simp [h]
    | some o =>
      cases o <;> simp [h]
      rename_i ds
      by_cases h' : ds.length < 16777216 <;> simp [h']
@[simp ↓] theorem o_revL {n : Nat} : wE (oRevL (.ref n) s) Q X ↔ onO (lstAt s n) fun ds => Q (.ref s.length) (s ++ [.lst ds.reverse]) := by
  with_unfolding_all
    unfold oRevL lstAt
    cases h : s[n]? with
    | none => simp [h]
    | some o => cases o <;> simp [h]
@[simp ↓] theorem o_cut_t {ds : List D} {lo hi : Option Int} : wE (oCut (.tup ds) lo hi s) Q X ↔ Q (.tup (cutL ds lo hi)) s := by
  with_unfolding_all
    exact Iff.rfl
@[simp] theorem g_nm {i : Nat} {d : D} : gName i d σ s = some (σ.set i (some d)) := by
  with_unfolding_all
    exact rfl
@[simp] theorem g_tp {k : Nat} {r : GL} {ds : List D} : gTup k r (.tup ds) σ s = if ds.length = k then r ds σ s else none := by
  with_unfolding_all
    exact rfl
@[simp] theorem g_nl : gNil [] σ s = some σ := by
  with_unfolding_all
    exact rfl
@[simp] theorem g_cn {g : G} {r : GL} {d : D} {ds : List D} : gCons g r (d :: ds) σ s = (g d σ s).bind fun σ' => r ds σ' s := by
  with_unfolding_all
    exact rfl
@[simp] theorem sz_lit {n : Nat} (h : n ≤ 16777216) : sz n = true := by
  with_unfolding_all
    exact decide_eq_true h
@[simp] theorem at_tup {ds : List D} {i : Int} : atD s (.tup ds) (.int i) = L2.atI ds i := by
  with_unfolding_all
    exact rfl
@[simp] theorem at_rol {ds : List D} {i : Int} : atD s (.rol ds) (.int i) = L2.atI ds i := by
  with_unfolding_all
    exact rfl
theorem at_ref {n : Nat} {ds : List D} {i : Int} (h : s[n]? = some (.lst ds)) : atD s (.ref n) (.int i) = L2.atI ds i := by
  with_unfolding_all
    simp [atD, h]
theorem atI_nat {α : Type} {xs : List α} {i : Nat} : L2.atI xs (i : Int) = xs[i]? := by
  with_unfolding_all
    unfold L2.atI L2.ixN
    rw [if_pos (by omega)]
    by_cases h : i < xs.length
    · rw [if_pos (by omega)]; simp
    · rw [if_neg (by omega)]
      simp only [Option.bind_none]
      exact (List.getElem?_eq_none (by omega)).symm
@[simp] theorem atI_0 {α : Type} {xs : List α} : L2.atI xs 0 = xs[0]? := by
  with_unfolding_all
    exact atI_nat (i := 0)
@[simp] theorem atI_1 {α : Type} {xs : List α} : L2.atI xs 1 = xs[1]? := by
  with_unfolding_all
    exact atI_nat (i := 1)
@[simp] theorem atI_2 {α : Type} {xs : List α} : L2.atI xs 2 = xs[2]? := by
  with_unfolding_all
    exact atI_nat (i := 2)
@[simp] theorem atI_3 {α : Type} {xs : List α} : L2.atI xs 3 = xs[3]? := by
  with_unfolding_all
    exact atI_nat (i := 3)
@[simp] theorem len_tup {ds : List D} : lenD s (.tup ds) = some ds.length := by
  with_unfolding_all
    exact rfl
@[simp] theorem len_rol {ds : List D} : lenD s (.rol ds) = some ds.length := by
  with_unfolding_all
    exact rfl
@[simp] theorem tr_bl {b : Bool} : truth s (.bl b) = some b := by
  with_unfolding_all
    exact rfl
@[simp] theorem tr_int {b : Int} : truth s (.int b) = some (b != 0) := by
  with_unfolding_all
    exact rfl
@[simp] theorem tr_non : truth s .non = some false := by
  with_unfolding_all
    exact rfl
@[simp] theorem tr_tup {ds : List D} : truth s (.tup ds) = some (!ds.isEmpty) := by
  with_unfolding_all
    exact rfl
@[simp] theorem ty_non {t : Ty} : isTy s .non t = some false := by
  with_unfolding_all
    exact rfl
@[simp] theorem ty_bl {b : Bool} {t : Ty} : isTy s (.bl b) t = some (match t with | .int => true | .bool => true | _ => false) := by
  with_unfolding_all
    exact rfl
@[simp] theorem ty_int {b : Int} {t : Ty} : isTy s (.int b) t = some (match t with | .int => true | _ => false) := by
  with_unfolding_all
    exact rfl
@[simp] theorem ty_str {b : Str} {t : Ty} : isTy s (.str b) t = some (match t with | .str => true | _ => false) := by
  with_unfolding_all
    exact rfl
@[simp] theorem ty_tup {b : List D} {t : Ty} : isTy s (.tup b) t = some (match t with | .tuple => true | _ => false) := by
  with_unfolding_all
    exact rfl
theorem eq_of {a b : D} {x y : PyData} (h1 : dat s 60 a = some x) (h2 : dat s 60 b = some y) (h3 : SeqAt.shaped x = true) (h4 : SeqAt.shaped y = true) : eqD s a b = some (PyData.eqv x y) := by
  with_unfolding_all
    unfold eqD
    rw [h1, h2]
    simp [h3, h4]
@[simp] theorem dat_non {n : Nat} : dat s n .non = some .none := by
  with_unfolding_all
    cases n <;> simp [dat]
@[simp] theorem dat_bl {n : Nat} {b : Bool} : dat s n (.bl b) = some (.bool b) := by
  with_unfolding_all
    cases n <;> simp [dat]
@[simp] theorem dat_int {n : Nat} {b : Int} : dat s n (.int b) = some (.int b) := by
  with_unfolding_all
    cases n <;> simp [dat]
@[simp] theorem dat_str {n : Nat} {b : Str} : dat s n (.str b) = some (.str b) := by
  with_unfolding_all
    cases n <;> simp [dat]
@[simp] theorem dats_nil {n : Nat} : dats s n [] = some [] := by
  with_unfolding_all
    cases n <;> simp [dats]
theorem dat_tup {n : Nat} {ds : List D} : dat s (n + 1) (.tup ds) = (dats s n ds).map .tuple := by
  with_unfolding_all
    simp [dat]
theorem dats_cons {n : Nat} {d : D} {r : List D} {x : PyData} {xs : List PyData} (h1 : dat s n d = some x) (h2 : dats s n r = some xs) : dats s n (d :: r) = some (x :: xs) := by
  with_unfolding_all
    cases n <;> simp [dats, h1, h2]
theorem dat_ref {n a : Nat} {ds : List D} (h : s[a]? = some (.lst ds)) : dat s (n + 1) (.ref a) = (dats s n ds).map .list := by
  with_unfolding_all
    simp [dat, lstAt, h]
end
end Fc
namespace P1
open PySem Fc
noncomputable section
def b_law_cell : C :=
 (cSeq (cIf (tB (e2 oLt (eVar 1) (eN fLen (lCons (eVar 0) lNil))))
 (cRet (e2 oAt (eVar 0) (eVar 1)))
 cNil)
 (cRet (eC (.int 0))))
def d_law_cell : F := defF 2 2 b_law_cell
def b_law_generator : C :=
 (cSeq (cSet (eCall d_law_cell [] (lCons (eVar 0) (lCons (eVar 1) lNil))) (gName 2))
 (cRet (eN mLst (lCons (e2 oMod (eN fInt (lCons (eN fMax (lCons (e2 oSub (eVar 2) (e2 oPow (eC (.int 10)) (eC (.int 18)))) (lCons (eC (.int 0)) lNil))) lNil)) (e2 oPow (e2 oPow (eC (.int 10)) (eC (.int 60))) (eC (.int 10)))) (lCons (e2 oMod (eN fInt (lCons (eVar 2) lNil)) (eC (.int 2147483647))) (lCons (e2 oMul (eC (.int 1000)) (eVar 1)) lNil))))))
def d_law_generator : F := defF 2 3 b_law_generator
def b_law_hash : C :=
 (cSeq (cSet (e2 oMod (eN fInt (lCons (e2 oAdd (e2 oAdd (e2 oAdd (e2 oMul (eVar 0) (eC (.int 1103515245))) (e2 oMul (e2 oMul (eC (.int 7919)) (eVar 1)) (eVar 1))) (eVar 1)) (eC (.int 1))) lNil)) (eC (.int 2147483647))) (gName 2))
 (cSeq (cSet (e2 oMod (eN fInt (lCons (e2 oAdd (e2 oMul (eVar 2) (eVar 2)) (eC (.int 69621))) lNil)) (eC (.int 2147483629))) (gName 2))
 (cRet (e2 oMod (eN fInt (lCons (e2 oMul (eVar 2) (eC (.int 48271))) lNil)) (eC (.int 2147483587))))))
def d_law_hash : F := defF 2 3 b_law_hash
def b_law_random : C :=
 (cSeq (cIf (tB (e2 oGt (e2 oAt (eVar 0) (eC (.int 0))) (eC (.int 0))))
 (cSeq (cSet (e2 oMod (eN fInt (lCons (e2 oAt (eVar 0) (eC (.int 0))) lNil)) (eVar 1)) (gName 2))
 (cSeq (cSub (eVar 0) (eC (.int 0)) (e2 oDiv (e2 oAt (eVar 0) (eC (.int 0))) (eVar 1)))
 (cRet (eVar 2))))
 cNil)
 (cSeq (cSet (eC (.int 0)) (gName 2))
 (cSeq (cFor (iRange (eC (.int 0)) (e2 oAdd (eC (.int 1)) (e2 oDiv (e1 oBitLen (eVar 1)) (eC (.int 30))))) (gName 3)
 (cSeq (cSub (eVar 0) (eC (.int 2)) (e2 oAdd (e2 oAt (eVar 0) (eC (.int 2))) (eC (.int 1))))
 (cSet (e2 oAdd (e2 oMul (eVar 2) (eC (.int 2147483587))) (eCall d_law_hash [] (lCons (e2 oAt (eVar 0) (eC (.int 1))) (lCons (e2 oAt (eVar 0) (eC (.int 2))) lNil)))) (gName 2))))
 (cRet (e2 oMod (eN fInt (lCons (eVar 2) lNil)) (eVar 1))))))
def d_law_random : F := defF 2 4 b_law_random
def b_law_arcs : C :=
 (cSeq (cSet (eN mLst lNil) (gName 4))
 (cSeq (cFor (iRange (eC (.int 0)) (eVar 1)) (gName 5)
 (cFor (iRange (eC (.int 0)) (eVar 2)) (gName 6)
 (cIf (tB (e2 oEq (eCall d_law_random [] (lCons (eVar 0) (lCons (eVar 3) lNil))) (eC (.int 0))))
 (cExpr (eM mAppend (eVar 4) (lCons (eN mTup (lCons (eVar 5) (lCons (eVar 6) (lCons (e2 oEq (eCall d_law_random [] (lCons (eVar 0) (lCons (eC (.int 2)) lNil))) (eC (.int 0))) lNil)))) lNil)))
 cNil)))
 (cSeq (cIf (tAnd (tB (e2 oNe (eVar 4) (eN mLst lNil))) (tB (e2 oEq (eCall d_law_random [] (lCons (eVar 0) (lCons (eC (.int 4)) lNil))) (eC (.int 0)))))
 (cExpr (eM mAppend (eVar 4) (lCons (e2 oAdd (eCut (e2 oAt (eVar 4) (eC (.int 0))) pNo (pYes (eC (.int 2)))) (eN mTup (lCons (eNotT (tE (e2 oAt (e2 oAt (eVar 4) (eC (.int 0))) (eC (.int 2))))) lNil))) lNil)))
 cNil)
 (cRet (e2 oAt (eN mLst (lCons (eVar 4) (lCons (e1 oRevL (eVar 4)) lNil))) (eCall d_law_random [] (lCons (eVar 0) (lCons (eC (.int 2)) lNil))))))))
def d_law_arcs : F := defF 4 7 b_law_arcs
def b_law_grid : C :=
 (cSeq (cSet (eN mLst (lCons (eN mLst (lCons (eC (.int 0)) (lCons (eC (.int 0)) (lCons (eC (.int 0)) lNil)))) (lCons (eN mLst (lCons (eC (.int 0)) (lCons (eC (.int 0)) (lCons (eC (.int 0)) lNil)))) (lCons (eN mLst (lCons (eC (.int 0)) (lCons (eC (.int 0)) (lCons (eC (.int 0)) lNil)))) lNil)))) (gName 1))
 (cSeq (cFor (iSrc .seq (eVar 0)) (gTup 3 (gCons (gName 2) (gCons (gName 3) (gCons (gName 4) gNil))))
 (cSub (e2 oAt (eVar 1) (eVar 2)) (eVar 3) (eN fMax (lCons (eN fInt (lCons (e2 oAt (e2 oAt (eVar 1) (eVar 2)) (eVar 3)) lNil)) (lCons (e2 oAdd (eC (.int 1)) (eN fInt (lCons (eVar 4) lNil))) lNil)))))
 (cRet (eVar 1))))
def d_law_grid : F := defF 1 5 b_law_grid
def b_law_listed : C :=
 (cSeq (cSet (eN mLst lNil) (gName 1))
 (cSeq (cFor (iRange (eC (.int 0)) (eC (.int 3))) (gName 2)
 (cFor (iRange (eC (.int 0)) (eC (.int 3))) (gName 3)
 (cIf (tB (e2 oGt (e2 oAt (e2 oAt (eVar 0) (eVar 2)) (eVar 3)) (eC (.int 0))))
 (cExpr (eM mAppend (eVar 1) (lCons (eN mTup (lCons (eVar 2) (lCons (eVar 3) (lCons (e2 oEq (e2 oAt (e2 oAt (eVar 0) (eVar 2)) (eVar 3)) (eC (.int 2))) lNil)))) lNil)))
 cNil)))
 (cRet (eN fTuple (lCons (eVar 1) lNil)))))
def d_law_listed : F := defF 1 4 b_law_listed
def b_law_table : C :=
 (cRet (eN mTup (lCons (eVar 1) (lCons (eVar 2) (lCons (eCall d_law_listed [] (lCons (eCall d_law_grid [] (lCons (eCall d_law_arcs [] (lCons (eVar 0) (lCons (eC (.int 3)) (lCons (eC (.int 3)) (lCons (e2 oAdd (eC (.int 1)) (eCall d_law_random [] (lCons (eVar 0) (lCons (eC (.int 4)) lNil)))) lNil))))) lNil)) lNil)) lNil)))))
def d_law_table : F := defF 3 3 b_law_table
def b_is_name : C :=
 (cSeq (cIf (tOr (tNot (tE (e1 (oIs .str) (eVar 0)))) (tNot (tB (eChain oLe oLe (eC (.int 1)) (eN fLen (lCons (eVar 0) lNil)) (eC (.int 12))))))
 (cRet (eC (.bl false)))
 cNil)
 (cRet (e2 oEq (eLc [1] (iSrc .seq (eVar 0)) (gName 1) (tB (e2 oNotIn (eVar 1) (eC (.str "abcdefghijklmnopqrstuvwxyz")))) (eVar 1)) (eN mLst lNil))))
def d_is_name : F := defF 1 2 b_is_name
def b_is_whole : C :=
 (cRet (eAnd (e1 (oIs .int) (eVar 0)) (eNotT (tE (e1 (oIs .bool) (eVar 0))))))
def d_is_whole : F := defF 1 1 b_is_whole
def b_is_arc : C :=
 (cSeq (cIf (tOr (tNot (tE (e1 (oIs .tuple) (eVar 0)))) (tOr (tB (e2 oNe (eN fLen (lCons (eVar 0) lNil)) (eC (.int 3)))) (tOr (tNot (tE (eCall d_is_whole [] (lCons (e2 oAt (eVar 0) (eC (.int 0))) lNil)))) (tNot (tE (eCall d_is_whole [] (lCons (e2 oAt (eVar 0) (eC (.int 1))) lNil)))))))
 (cRet (eC (.bl false)))
 cNil)
 (cRet (eAnd (eChain oLe oLt (eC (.int 0)) (e2 oAt (eVar 0) (eC (.int 0))) (eVar 1)) (eAnd (eChain oLe oLt (eC (.int 0)) (e2 oAt (eVar 0) (eC (.int 1))) (eVar 2)) (e1 (oIs .bool) (e2 oAt (eVar 0) (eC (.int 2))))))))
def d_is_arc : F := defF 3 3 b_is_arc
def b_is_table : C :=
 (cSeq (cIf (tOr (tNot (tE (e1 (oIs .tuple) (eVar 0)))) (tOr (tB (e2 oNe (eN fLen (lCons (eVar 0) lNil)) (eC (.int 3)))) (tOr (tNot (tE (eCall d_is_name [] (lCons (e2 oAt (eVar 0) (eC (.int 0))) lNil)))) (tNot (tE (eCall d_is_name [] (lCons (e2 oAt (eVar 0) (eC (.int 1))) lNil)))))))
 (cRet (eC (.bl false)))
 cNil)
 (cSeq (cSet (e2 oAt (eVar 0) (eC (.int 2))) (gName 1))
 (cSeq (cIf (tOr (tNot (tE (e1 (oIs .tuple) (eVar 1)))) (tB (e2 oNe (eLc [2] (iSrc .seq (eVar 1)) (gName 2) (tNot (tE (eCall d_is_arc [] (lCons (eVar 2) (lCons (eC (.int 3)) (lCons (eC (.int 3)) lNil)))))) (eVar 2)) (eN mLst lNil))))
 (cRet (eC (.bl false)))
 cNil)
 (cSeq (cSet (eLc [4, 5, 6] (iSrc .seq (eVar 1)) (gTup 3 (gCons (gName 4) (gCons (gName 5) (gCons (gName 6) gNil)))) tYes (eN mTup (lCons (eN fInt (lCons (eVar 4) lNil)) (lCons (eN fInt (lCons (eVar 5) lNil)) lNil)))) (gName 3))
 (cRet (e2 oEq (eVar 3) (eN fSortSet (lCons (eVar 3) lNil))))))))
def d_is_table : F := defF 1 7 b_is_table
def b_check_table : C :=
 (cIf (tNot (tE (eCall d_is_table [] (lCons (eVar 0) lNil))))
 cNever
 cNil)
def d_check_table : F := defF 1 1 b_check_table
def b_arcs_of : C :=
 (cRet (eN fTuple (lCons (eLc [1, 2] (iSrc .seq (eN fSorted (lCons (eLc [1, 2] (iSrc .seq (eVar 0)) (gTup 2 (gCons (gName 1) (gCons (gName 2) gNil))) tYes (eN mTup (lCons (eN fInt (lCons (eVar 1) lNil)) (lCons (eN fInt (lCons (eVar 2) lNil)) lNil)))) lNil))) (gTup 2 (gCons (gName 1) (gCons (gName 2) gNil))) tYes (eN mTup (lCons (eVar 1) (lCons (eVar 2) (lCons (e2 oAt (eVar 0) (eN mTup (lCons (eVar 1) (lCons (eVar 2) lNil)))) lNil))))) lNil)))
def d_arcs_of : F := defF 1 3 b_arcs_of
def b_joined : C :=
 (cSeq (cSet (eN (fun _ => mDT) lNil) (gName 2))
 (cSeq (cFor (iSrc .seq (e2 oAt (eVar 0) (eC (.int 2)))) (gTup 3 (gCons (gName 3) (gCons (gName 4) (gCons (gName 5) gNil))))
 (cFor (iSrc .seq (e2 oAt (eVar 1) (eC (.int 2)))) (gTup 3 (gCons (gName 6) (gCons (gName 7) (gCons (gName 8) gNil))))
 (cIf (tB (e2 oEq (eVar 6) (eVar 4)))
 (cSub (eVar 2) (eN mTup (lCons (eVar 3) (lCons (eVar 7) lNil))) (eOr (eGet2 (eVar 2) (eN mTup (lCons (eVar 3) (lCons (eVar 7) lNil))) (eC (.bl false))) (eOr (eVar 5) (eVar 8))))
 cNil)))
 (cRet (eN mTup (lCons (e2 oAt (eVar 0) (eC (.int 0))) (lCons (e2 oAt (eVar 1) (eC (.int 1))) (lCons (eCall d_arcs_of [] (lCons (eVar 2) lNil)) lNil)))))))
def d_joined : F := defF 2 9 b_joined
def b_product : C :=
 (cSeq (cExpr (eCall d_check_table [] (lCons (eVar 0) lNil)))
 (cSeq (cExpr (eCall d_check_table [] (lCons (eVar 1) lNil)))
 (cSeq (cIf (tB (e2 oNe (e2 oAt (eVar 0) (eC (.int 1))) (e2 oAt (eVar 1) (eC (.int 0)))))
 cNever
 cNil)
 (cRet (eCall d_joined [] (lCons (eVar 0) (lCons (eVar 1) lNil)))))))
def d_product : F := defF 2 2 b_product
def b_falls_around : C :=
 (cSeq (cSet (eVar 0) (gName 1))
 (cSeq (cFor (iRange (eC (.int 0)) (eC (.int 3))) (gName 2)
 (cSeq (cIf (tB (e2 oNe (eLc [3] (iSrc .seq (e2 oAt (eVar 1) (eC (.int 2)))) (gName 3) (tAnd (tB (e2 oEq (e2 oAt (eVar 3) (eC (.int 0))) (e2 oAt (eVar 3) (eC (.int 1))))) (tE (e2 oAt (eVar 3) (eC (.int 2))))) (eVar 3)) (eN mLst lNil)))
 (cRet (eC (.bl true)))
 cNil)
 (cSet (eCall d_joined [] (lCons (eVar 1) (lCons (eVar 0) lNil))) (gName 1))))
 (cRet (eC (.bl false)))))
def d_falls_around : F := defF 1 4 b_falls_around
def b_has_fall : C :=
 (cSeq (cExpr (eCall d_check_table [] (lCons (eVar 0) lNil)))
 (cRet (eAnd (e2 oEq (e2 oAt (eVar 0) (eC (.int 0))) (e2 oAt (eVar 0) (eC (.int 1)))) (eCall d_falls_around [] (lCons (eVar 0) lNil)))))
def d_has_fall : F := defF 1 1 b_has_fall
def b_check_whole : C :=
 (cIf (tOr (tNot (tE (eCall d_is_whole [] (lCons (eVar 0) lNil)))) (tOr (tB (e2 oLt (eVar 0) (eVar 1))) (tAnd (tB (e1 oNotN (eVar 2))) (tB (e2 oGt (eVar 0) (eVar 2))))))
 cNever
 cNil)
def d_check_whole : F := defF 3 3 b_check_whole
def b_power : C :=
 (cSeq (cExpr (eCall d_check_table [] (lCons (eVar 0) lNil)))
 (cSeq (cIf (tB (e2 oNe (e2 oAt (eVar 0) (eC (.int 0))) (e2 oAt (eVar 0) (eC (.int 1)))))
 cNever
 cNil)
 (cSeq (cExpr (eCall d_check_whole [.non] (lCons (eVar 1) (lCons (eC (.int 1)) lNil))))
 (cSeq (cPar3 2 3 4 (lCons (eC .non) (lCons (eVar 0) (lCons (eVar 1) lNil))))
 (cSeq (cWhile (tB (e2 oGt (eVar 4) (eC (.int 0))))
 (cSeq (cIf (tB (e2 oEq (e2 oMod (eVar 4) (eC (.int 2))) (eC (.int 1))))
 (cSet (eIf (tB (e1 oIsN (eVar 2))) (eVar 3) (eCall d_joined [] (lCons (eVar 2) (lCons (eVar 3) lNil)))) (gName 2))
 cNil)
 (cPar 3 4 (lCons (eCall d_joined [] (lCons (eVar 3) (lCons (eVar 3) lNil))) (lCons (e2 oDiv (eVar 4) (eC (.int 2))) lNil)))))
 (cRet (eVar 2)))))))
def d_power : F := defF 2 5 b_power
end
end P1
namespace Fc
open PySem
theorem bits_lt {i : Int} (h1 : -(2 ^ 2000) < i) (h2 : i < 2 ^ 2000) : bits i < 2000 := by
  unfold bits
  by_cases h : i.natAbs = 0
  · rw [h]; decide
  · refine (Nat.log2_lt h).mpr ?_
    omega
theorem mul_ok {i j : Int} (h1 : -(2 ^ 2000) < i) (h2 : i < 2 ^ 2000) (h3 : -(2 ^ 2000) < j) (h4 : j < 2 ^ 2000) : decide (bits i + bits j < 900000) = true := by
  have a := bits_lt h1 h2
  have b := bits_lt h3 h4
  exact decide_eq_true (by omega)
/-- generators: B draws are left -/
def Gen (s : S) (g : Nat) (B : Nat) : Prop := ∃ a b c : Int, s[g]? = some (.lst [.int a, .int b, .int c]) ∧ 0 ≤ a ∧ 0 ≤ b ∧ b < 2147483647 ∧ 0 ≤ c ∧ c + B ≤ 2 ^ 90
theorem Gen.mono {s : S} {g B B' : Nat} (h : Gen s g B) (k : B' ≤ B) : Gen s g B' := by
  obtain ⟨a, b, c, h1, h2, h3, h4, h5, h6⟩ := h
  exact ⟨a, b, c, h1, h2, h3, h4, h5, by omega⟩
/-- s' has all that s has, but for what stands at g -/
def Fr (g : Nat) (s s' : S) : Prop := s.length ≤ s'.length ∧ ∀ n : Nat, n ≠ g → ∀ o, s[n]? = some o → s'[n]? = some o
/-- .. all that s has -/
def Pf (s s' : S) : Prop := ∀ (n : Nat) (o : O), s[n]? = some o → s'[n]? = some o
theorem get_new {s : S} {o : O} : (s ++ [o])[s.length]? = some o := by simp
theorem pow_mono {m n : Nat} (h : m ≤ n) : (2 : Int) ^ m ≤ 2 ^ n := by
  have : (2 ^ m : Nat) ≤ 2 ^ n := Nat.pow_le_pow_right (by omega) h
  exact_mod_cast this
theorem set_same {s : S} {n : Nat} {o : O} (h : s[n]? = some o) : s.set n o = s := by
  apply List.ext_getElem?
  intro i
  rw [List.getElem?_set]
  split
  · rename_i e; subst e; rw [h]; simp [(List.getElem?_eq_some_iff.mp h).1]
  · rfl
theorem Pf.refl {s : S} : Pf s s := fun _ _ h => h
theorem Pf.trans {s s1 s2 : S} (a : Pf s s1) (b : Pf s1 s2) : Pf s s2 := fun n o h => b n o (a n o h)
theorem Pf.app {s t : S} : Pf s (s ++ t) := fun n o h => by
  rw [List.getElem?_append_left (List.getElem?_eq_some_iff.mp h).1]; exact h
theorem Pf.len {s s' : S} (h : Pf s s') : s.length ≤ s'.length := by
  cases hs : s.length with
  | zero => omega
  | succ n =>
    have e : s[n]? = some (s[n]'(by omega)) := by simp
    have := (List.getElem?_eq_some_iff.mp (h n _ e)).1
    omega
theorem Pf.fr {g : Nat} {s s' : S} (h : Pf s s') : Fr g s s' := ⟨h.len, fun n _ o e => h n o e⟩
theorem Pf.gen {s s' : S} {g B : Nat} (h : Pf s s') (k : Gen s g B) : Gen s' g B := by
  obtain ⟨a, b, c, h1, h2⟩ := k
  exact ⟨a, b, c, h _ _ h1, h2⟩
theorem Fr.refl {g : Nat} {s : S} : Fr g s s := Pf.refl.fr
theorem Fr.trans {g : Nat} {s s1 s2 : S} (a : Fr g s s1) (b : Fr g s1 s2) : Fr g s s2 := ⟨Nat.le_trans a.1 b.1, fun n hn o h => b.2 n hn o (a.2 n hn o h)⟩
theorem Fr.set {g : Nat} {s : S} {o : O} : Fr g s (s.set g o) := ⟨by simp, fun n hn o' h => by rw [List.getElem?_set_ne (Ne.symm hn)]; exact h⟩
end Fc
namespace P1
open PySem Fc
theorem sp_cell {ns : List Int} {i : Nat} {s : S} {X : Xc} {Q : D → S → Prop} (hQ : ∀ z, Q (.int z) s) : wE (d_law_cell [.rol (ns.map .int), .int i] s) Q X := by
  unfold d_law_cell
  refine (v_def (by rfl)).mpr ?_
  unfold b_law_cell
  simp
  refine onT_by (fun h => ?_) fun _ => hQ 0
  have h : i < ns.length := of_decide_eq_true h
  rw [atI_nat, List.getElem?_map, List.getElem?_eq_getElem h]
  exact hQ _
theorem sp_hash {b c : Int} {s : S} {X : Xc} {Q : D → S → Prop} (h1 : 0 ≤ b) (h2 : b < 2147483647) (h3 : 0 ≤ c) (h4 : c < 2 ^ 100) (hQ : ∀ z, 0 ≤ z → z < 2147483587 → Q (.int z) s) : wE (d_law_hash [.int b, .int c] s) Q X := by
  unfold d_law_hash
  refine (v_def (by rfl)).mpr ?_
  unfold b_law_hash
  have k1 : ∀ x : Int, 0 ≤ x % 2147483647 ∧ x % 2147483647 < 2147483647 := fun x => by omega
  have k2 : ∀ x : Int, 0 ≤ x % 2147483629 ∧ x % 2147483629 < 2147483629 := fun x => by omega
  simp
  rw [mul_ok (by omega) (by omega) (by omega) (by omega), mul_ok (by omega) (by omega) (by omega) (by omega), mul_ok (by omega) (by omega) (by omega) (by omega)]
  have a1 := k1 (b * 1103515245 + 7919 * c * c + c + 1)
  generalize (b * 1103515245 + 7919 * c * c + c + 1) % 2147483647 = u at *
  rw [mul_ok (by omega) (by omega) (by omega) (by omega)]
  have a2 := k2 (u * u + 69621)
  generalize (u * u + 69621) % 2147483629 = v at *
  rw [mul_ok (by omega) (by omega) (by omega) (by omega)]
  simp only [onT_t]
  exact hQ _ (by omega) (by omega)
theorem sp_generator {ns : List Int} {i : Nat} {s : S} {X : Xc} {Q : D → S → Prop} (hi : i < 1000000) (hQ : ∀ o, Gen (s ++ [o]) s.length (2 ^ 80) → Q (.ref s.length) (s ++ [o])) : wE (d_law_generator [.rol (ns.map .int), .int i] s) Q X := by
  unfold d_law_generator
  refine (v_def (by rfl)).mpr ?_
  unfold b_law_generator
  simp
  refine sp_cell fun z => ?_
  simp
  rw [show decide ((bits 10 + 1) * 18 ≤ 100000) = true by decide +kernel, show decide ((bits 10 + 1) * 60 ≤ 100000) = true by decide +kernel, show decide ((bits 1000000000000000000000000000000000000000000000000000000000000 + 1) * 10 ≤ 100000) = true by decide +kernel, mul_ok (by omega) (by omega) (by omega) (by omega)]
  simp only [onT_t]
  refine hQ _ ⟨_, _, _, get_new, ?_, ?_, ?_, ?_, ?_⟩
  · exact Int.emod_nonneg _ (by omega)
  · omega
  · omega
  · omega
  · omega
theorem bl_le {b : Int} {n : Nat} (h1 : 0 < b) (h2 : b < 2 ^ n) : Builtin.Int.intBits b ≤ n := by
  unfold Builtin.Int.intBits
  split
  · omega
  · rename_i h
    have e : ((2 ^ n : Nat) : Int) = 2 ^ n := by simp
    have k : b.natAbs < 2 ^ n := by
      have : (b.natAbs : Int) < ((2 ^ n : Nat) : Int) := by rw [e]; omega
      omega
    have : b.natAbs.log2 < n := (Nat.log2_lt (by omega)).mpr k
    omega
theorem sp_random {g B : Nat} {b : Int} {s : S} {X : Xc} {Q : D → S → Prop} (hg : Gen s g (B + 40)) (h1 : 0 < b) (h2 : b < 2 ^ 1000) (hQ : ∀ (z : Int) (o : O), 0 ≤ z → z < b → Gen (s.set g o) g B → Q (.int z) (s.set g o)) : wE (d_law_random [.ref g, .int b] s) Q X := by
  unfold d_law_random
  refine (v_def (by rfl)).mpr ?_
  unfold b_law_random
  obtain ⟨a0, b0, c0, e, ha, hb, hb2, hc, hB⟩ := hg
  have hl : g < s.length := (List.getElem?_eq_some_iff.mp e).1
  simp [at_ref e]
  refine onT_by (fun h => ?_) fun h => ?_
  · have h := of_decide_eq_true h
    have hb' : decide (bits b < 8000) = true := decide_eq_true (by have := bits_lt (i := b) (by omega) (by omega); omega)
    rw [decide_eq_true h1, hb']
    simp [Fc.putAt, e, L2.ixN]
    refine hQ _ _ (Int.emod_nonneg _ (by omega)) (Int.emod_lt_of_pos _ h1) ⟨a0 / b, b0, c0, by rw [List.getElem?_set_self hl], Int.ediv_nonneg ha (by omega), hb, hb2, hc, by omega⟩
  · have hn : Builtin.Int.intBits b ≤ 1000 := bl_le h1 h2
    generalize Builtin.Int.intBits b = nb at hn
    rw [show decide (bits 30 < 8000) = true by decide +kernel, onT_t, show small 0 = true by decide, show small (1 + (nb : Int) / 30) = true by unfold small; simp; omega, Bool.and_self, onT_t]
    have hlen : (rangeL 0 (1 + (nb : Int) / 30)).length ≤ 35 := by
      simp only [rangeL, List.length_map, List.length_range]
      omega
    generalize rangeL 0 (1 + (nb : Int) / 30) = ds at hlen
    refine wC_forV (fun (ds : List D) (σ : Fc.Env) (s' : S) => ds.length ≤ 35 ∧ ∃ c z t, s' = s.set g (.lst [.int a0, .int b0, .int c]) ∧ σ = [some (.ref g), some (.int b), some (.int z), t] ∧ 0 ≤ c ∧ c + ds.length + B ≤ 2 ^ 90 ∧ 0 ≤ z ∧ z < 2 ^ (32 * (40 - ds.length))) ds ⟨hlen, c0, 0, none, ?_, rfl, hc, by omega, by omega, ?_⟩ ?_ ?_
    · exact (set_same e).symm
    · exact Int.pow_pos (by omega)
    · rintro d r σ s' ⟨hl2, c, z, t, rfl, rfl, k1, k2, k3, k4⟩
      have hl3 : r.length + 1 ≤ 35 := hl2
      have k2 : c + (r.length + 1) + B ≤ 2 ^ 90 := by simpa using k2
      refine ⟨_, rfl, ?_⟩
      have e2 : ∀ o, (s.set g o)[g]? = some o := fun o => by rw [List.getElem?_set_self hl]
      have zb : z < 2 ^ 1300 := by
        refine Int.lt_of_lt_of_le k4 ?_
        exact pow_mono (by simp; omega)
      simp [at_ref (e2 _), Fc.putAt, e2, L2.ixN]
      rw [mul_ok (by omega) (by omega) (by omega) (by omega), onT_t]
      refine sp_hash hb hb2 (by omega) (by omega) fun h h0 h3 => ?_
      simp
      refine ⟨by omega, c + 1, rfl, by omega, by omega, by omega, ?_⟩
      have e40 : 32 * (40 - r.length) = 32 * (40 - (d :: r).length) + 32 := by
        simp; omega
      rw [e40, Int.pow_add]
      generalize (2 : Int) ^ (32 * (40 - (d :: r).length)) = P at k4
      omega
    · rintro σ s' ⟨_, c, z, t, rfl, rfl, k1, k2, k3, k4⟩
      simp
      rw [decide_eq_true h1, onT_t]
      exact hQ _ _ (Int.emod_nonneg _ (by omega)) (Int.emod_lt_of_pos _ h1) ⟨a0, b0, c, by rw [List.getElem?_set_self hl], ha, hb, hb2, k1, by simpa using k2⟩
end P1
namespace Fc
open PySem
/-- a loop over a list that the body leaves as it is -/
theorem wC_forL {g : G} {b : C} {P : Pst} {n : Nat} {ds : List D} (I : List D → Fc.Env → S → Prop) (hk : ∀ r σ s, I r σ s → s[n]? = some (.lst ds))
    (hs : ∀ d r σ s, I (d :: r) σ s → ∃ σ1, g d σ s = some σ1 ∧ wC (b σ1 s) { P with nx := fun e s => I r e s, ct := fun e s => I r e s, bk := P.nx }) (hd : ∀ σ s, I [] σ s → P.nx σ s) :
    ∀ (k i : Nat) {σ : Fc.Env} {s : S}, ds.length = i + k → I (ds.drop i) σ s → wC (forL n g b k i σ s) P
  | 0, i, σ, s, hl, h => by
    with_unfolding_all
      have e := hk _ _ _ h
      unfold forL lstAt
      rw [e]
      dsimp only
      rw [if_pos (by omega)]
      rw [List.drop_eq_nil_of_le (by omega)] at h
      exact hd σ s h
  | k + 1, i, σ, s, hl, h => by
    with_unfolding_all
      have e := hk _ _ _ h
      have hi : i < ds.length := by omega
      rw [List.drop_eq_getElem_cons hi] at h
      obtain ⟨σ1, h1, h2⟩ := hs _ _ σ s h
      unfold forL lstAt
      rw [e]
      dsimp only
      rw [if_pos (by omega), List.getElem?_eq_getElem hi]
      dsimp only
      rw [h1]
      dsimp only
      cases hb : b σ1 s with
      | none => rw [hb] at h2; exact h2.elim
      | some r =>
        rw [hb] at h2
        cases r with
        | nx e2 s2 => exact wC_forL I hk hs hd k (i + 1) (by omega) h2
        | ct e2 s2 => exact wC_forL I hk hs hd k (i + 1) (by omega) h2
        | bk e2 s2 => exact h2
        | rt d2 s2 => exact h2
        | xc c fs e2 s2 => exact h2
@[simp] theorem range03 : rangeL 0 3 = [.int 0, .int 1, .int 2] := rfl
@[simp] theorem small0 : small 0 = true := by decide
@[simp] theorem small3 : small 3 = true := by decide
theorem set_get {s : S} {n : Nat} {o : O} (h : n < s.length) : (s.set n o)[n]? = some o := by rw [List.getElem?_set_self h]
theorem set_ne {s : S} {n m : Nat} {o : O} (h : n ≠ m) : (s.set n o)[m]? = s[m]? := by rw [List.getElem?_set_ne h]
theorem lt_of_get {s : S} {n : Nat} {o : O} (h : s[n]? = some o) : n < s.length := (List.getElem?_eq_some_iff.mp h).1
theorem lstAt_of {s : S} {n : Nat} {ds : List D} (h : s[n]? = some (.lst ds)) : lstAt s n = some ds := by simp [lstAt, h]
end Fc
namespace P1
open PySem Fc
abbrev Mt := Nat → Nat → Nat
abbrev Arc := Nat × Nat × Bool
def aD (a : Arc) : D := .tup [.int a.1, .int a.2.1, .bl a.2.2]
def cellA (M : Mt) (i j : Nat) : List Arc := if 0 < M i j then [(i, j, M i j == 2)] else []
def rowA (M : Mt) (i : Nat) : List Arc := [0, 1, 2].flatMap fun j => cellA M i j
def arcsA (M : Mt) : List Arc := [0, 1, 2].flatMap fun i => rowA M i
def tabD (b e : Str) (M : Mt) : D := .tup [.str b, .str e, .tup ((arcsA M).map aD)]
def Row (s : S) (r : Nat) (m : Nat → Nat) : Prop := s[r]? = some (.lst [.int (m 0), .int (m 1), .int (m 2)])
structure GridAt (s : S) (n r0 r1 r2 : Nat) (M : Mt) : Prop where
  at_ : s[n]? = some (.lst [.ref r0, .ref r1, .ref r2])
  h0 : Row s r0 (M 0)
  h1 : Row s r1 (M 1)
  h2 : Row s r2 (M 2)
theorem GridAt.pf {s s' : S} {n r0 r1 r2 : Nat} {M : Mt} (h : GridAt s n r0 r1 r2 M) (k : Pf s s') : GridAt s' n r0 r1 r2 M := ⟨k _ _ h.at_, k _ _ h.h0, k _ _ h.h1, k _ _ h.h2⟩
theorem GridAt.get {s : S} {n r0 r1 r2 : Nat} {M : Mt} (h : GridAt s n r0 r1 r2 M) {i j : Nat} (hi : i < 3) (hj : j < 3) : ∃ r, atD s (.ref n) (.int i) = some (.ref r) ∧ atD s (.ref r) (.int j) = some (.int (M i j)) := by
  have e1 : ∀ i : Nat, atD s (.ref n) (.int i) = [D.ref r0, D.ref r1, D.ref r2][i]? := fun i => by rw [at_ref h.at_, atI_nat]
  have e2 : ∀ (r : Nat) (m : Nat → Nat), Row s r m → ∀ j : Nat, atD s (.ref r) (.int j) = [D.int (m 0), D.int (m 1), D.int (m 2)][j]? := fun r m hr j => by rw [at_ref hr, atI_nat]
  match i, hi with
  | 0, _ => exact ⟨r0, e1 0, by rw [e2 _ _ h.h0]; match j, hj with | 0, _ => rfl | 1, _ => rfl | 2, _ => rfl⟩
  | 1, _ => exact ⟨r1, e1 1, by rw [e2 _ _ h.h1]; match j, hj with | 0, _ => rfl | 1, _ => rfl | 2, _ => rfl⟩
  | 2, _ => exact ⟨r2, e1 2, by rw [e2 _ _ h.h2]; match j, hj with | 0, _ => rfl | 1, _ => rfl | 2, _ => rfl⟩
theorem eqD_int {s : S} {i j : Int} : eqD s (.int i) (.int j) = some (i == j) := by
  rw [eq_of (dat_int) (dat_int) (by simp [SeqAt.shaped, PyData.canLay0, PyData.depth]) (by simp [SeqAt.shaped, PyData.canLay0, PyData.depth])]
  simp [PyData.eqv]
/-- one cell is told -/
theorem st_cell {s : S} {n r0 r1 r2 i j : Nat} {M : Mt} {pre : List D} {P : Pst} (h : GridAt s n r0 r1 r2 M) (hi : i < 3) (hj : j < 3) (hp : pre.length < 16777216)
    (hQ : P.nx [some (.ref n), some (.ref s.length), some (.int i), some (.int j)] (s ++ [.lst (pre ++ (cellA M i j).map aD)])) :
    wC (cIf (tB (e2 oGt (e2 oAt (e2 oAt (eVar 0) (eVar 2)) (eVar 3)) (eC (.int 0))))
      (cExpr (eM mAppend (eVar 1) (lCons (eN mTup (lCons (eVar 2) (lCons (eVar 3) (lCons (e2 oEq (e2 oAt (e2 oAt (eVar 0) (eVar 2)) (eVar 3)) (eC (.int 2))) lNil)))) lNil)))
      cNil [some (.ref n), some (.ref s.length), some (.int i), some (.int j)] (s ++ [.lst pre])) P := by
  obtain ⟨r, g1, g2⟩ := (h.pf (Pf.app (t := [.lst pre]))).get hi hj
  simp [g1, g2]
  unfold cellA at hQ
  refine onT_by (fun hc => ?_) fun hc => ?_
  · have hc := of_decide_eq_true hc
    rw [if_pos (by omega)] at hQ
    simp [isLst, eqD_int, lstAt, hp]
    have e : ((M i j : Int) == 2) = (M i j == 2) := by
      by_cases z : M i j = 2
      · simp [z]
      · have : (M i j : Int) ≠ 2 := by omega
        rw [beq_eq_false_iff_ne.mpr z, beq_eq_false_iff_ne.mpr this]
    rw [e]
    simpa [aD] using hQ
  · have hc := of_decide_eq_false hc
    rw [if_neg (by omega)] at hQ
    simpa using hQ
theorem cell_len {M : Mt} {i j : Nat} : (cellA M i j).length ≤ 1 := by
  unfold cellA; split <;> simp
theorem row_len {M : Mt} {i : Nat} : (rowA M i).length ≤ 3 := by
  have h0 := cell_len (M := M) (i := i) (j := 0)
  have h1 := cell_len (M := M) (i := i) (j := 1)
  have h2 := cell_len (M := M) (i := i) (j := 2)
  simp only [rowA, List.flatMap_cons, List.flatMap_nil, List.length_append, List.length_nil]
  omega
theorem arcs_len {M : Mt} : (arcsA M).length ≤ 9 := by
  have h0 := row_len (M := M) (i := 0)
  have h1 := row_len (M := M) (i := 1)
  have h2 := row_len (M := M) (i := 2)
  simp only [arcsA, List.flatMap_cons, List.flatMap_nil, List.length_append, List.length_nil]
  omega
/-- listed: the arcs of a grid -/
theorem sp_listed {s : S} {n r0 r1 r2 : Nat} {M : Mt} {X : Xc} {Q : D → S → Prop} (h : GridAt s n r0 r1 r2 M) (hQ : ∀ o, Q (.tup ((arcsA M).map aD)) (s ++ [o])) : wE (d_law_listed [.ref n] s) Q X := by
  unfold d_law_listed
  refine (v_def (by rfl)).mpr ?_
  unfold b_law_listed
  simp
  have inner : ∀ (i : Nat) (hi : i < 3) (u : Option D) (pre : List D) (hp : pre.length < 100) (P : Pst), (P.nx [some (.ref n), some (.ref s.length), some (.int i), some (.int 2)] (s ++ [.lst (pre ++ (rowA M i).map aD)])) →
      wC (forV (gName 3) (cIf (tB (e2 oGt (e2 oAt (e2 oAt (eVar 0) (eVar 2)) (eVar 3)) (eC (.int 0))))
      (cExpr (eM mAppend (eVar 1) (lCons (eN mTup (lCons (eVar 2) (lCons (eVar 3) (lCons (e2 oEq (e2 oAt (e2 oAt (eVar 0) (eVar 2)) (eVar 3)) (eC (.int 2))) lNil)))) lNil)))
      cNil) [.int 0, .int 1, .int 2] [some (.ref n), some (.ref s.length), some (.int i), u] (s ++ [.lst pre])) P := by
    intro i hi u pre hp P hP
    have h0 := cell_len (M := M) (i := i) (j := 0)
    have h1 := cell_len (M := M) (i := i) (j := 1)
    refine wC_forV_cons.mpr ⟨_, rfl, st_cell (j := 0) h hi (by omega) (by omega) ?_⟩
    refine wC_forV_cons.mpr ⟨_, rfl, st_cell (j := 1) h hi (by omega) (by simp; omega) ?_⟩
    refine wC_forV_cons.mpr ⟨_, rfl, st_cell (j := 2) h hi (by omega) (by simp; omega) ?_⟩
    simpa [wC_forV_nil, rowA] using hP
  have h0 := row_len (M := M) (i := 0)
  have h1 := row_len (M := M) (i := 1)
  refine wC_forV_cons.mpr ⟨_, rfl, ?_⟩
  simp
  refine inner 0 (by omega) _ [] (by simp) _ ?_
  refine wC_forV_cons.mpr ⟨_, rfl, ?_⟩
  simp
  refine inner 1 (by omega) _ _ (by simp; omega) _ ?_
  refine wC_forV_cons.mpr ⟨_, rfl, ?_⟩
  simp
  refine inner 2 (by omega) _ _ (by simp; omega) _ ?_
  simp [wC_forV_nil, lstAt]
  simpa [arcsA] using hQ (.lst ((arcsA M).map aD))
def rw3 (m : Nat → Nat) : List D := [.int (m 0), .int (m 1), .int (m 2)]
def gridO (L : Nat) (M : Mt) : List O := [.lst (rw3 (M 0)), .lst (rw3 (M 1)), .lst (rw3 (M 2)), .lst [.ref L, .ref (L + 1), .ref (L + 2)]]
def updM (M : Mt) (i j v : Nat) : Mt := fun a b => if a = i ∧ b = j then v else M a b
def addG (M : Mt) (a : Arc) : Mt := updM M a.1 a.2.1 (max (M a.1 a.2.1) (1 + a.2.2.toNat))
def foldG (M : Mt) (A : List Arc) : Mt := A.foldl addG M
def In3 (A : List Arc) : Prop := ∀ a ∈ A, a.1 < 3 ∧ a.2.1 < 3
theorem gridO_at {s : S} {M : Mt} : GridAt (s ++ gridO s.length M) (s.length + 3) s.length (s.length + 1) (s.length + 2) M := by
  have g : ∀ k, (s ++ gridO s.length M)[s.length + k]? = (gridO s.length M)[k]? := fun k => by
    rw [List.getElem?_append_right (by omega)]
    congr 1
    omega
  exact ⟨g 3, g 0, g 1, g 2⟩
theorem gridO_set {s : S} {M : Mt} {i j v : Nat} (hi : i < 3) (hj : j < 3) : (s ++ gridO s.length M).set (s.length + i) (.lst ((rw3 (M i)).set j (.int v))) = s ++ gridO s.length (updM M i j v) := by
  rw [List.set_append_right _ _ (by omega)]
  congr 1
  rw [show s.length + i - s.length = i by omega]
  match i, hi with
  | 0, _ => match j, hj with
    | 0, _ => simp [gridO, rw3, updM]
    | 1, _ => simp [gridO, rw3, updM]
    | 2, _ => simp [gridO, rw3, updM]
  | 1, _ => match j, hj with
    | 0, _ => simp [gridO, rw3, updM]
    | 1, _ => simp [gridO, rw3, updM]
    | 2, _ => simp [gridO, rw3, updM]
  | 2, _ => match j, hj with
    | 0, _ => simp [gridO, rw3, updM]
    | 1, _ => simp [gridO, rw3, updM]
    | 2, _ => simp [gridO, rw3, updM]
theorem gridO_row {s : S} {M : Mt} {i : Nat} (hi : i < 3) : atD (s ++ gridO s.length M) (.ref (s.length + 3)) (.int i) = some (.ref (s.length + i)) ∧ (s ++ gridO s.length M)[s.length + i]? = some (.lst (rw3 (M i))) := by
  have g := gridO_at (s := s) (M := M)
  refine ⟨?_, ?_⟩
  · rw [at_ref g.at_, atI_nat]
    match i, hi with
    | 0, _ => rfl
    | 1, _ => rfl
    | 2, _ => rfl
  · match i, hi with
    | 0, _ => exact g.h0
    | 1, _ => exact g.h1
    | 2, _ => exact g.h2
theorem rw3_at {m : Nat → Nat} {j : Nat} (hj : j < 3) : (rw3 m)[j]? = some (.int (m j)) := by
  match j, hj with
  | 0, _ => rfl
  | 1, _ => rfl
  | 2, _ => rfl
/-- grid[i][j] = v -/
theorem grid_put {s : S} {M : Mt} {i j v : Nat} (hi : i < 3) (hj : j < 3) : Fc.putAt (s ++ gridO s.length M) (.ref (s.length + i)) (.int j) (.int v) = some (s ++ gridO s.length (updM M i j v)) := by
  unfold Fc.putAt
  dsimp only
  rw [(gridO_row hi).2]
  dsimp only
  have : L2.ixN (rw3 (M i)).length (j : Int) = some j := by
    unfold L2.ixN
    rw [if_pos (by omega), if_pos (by simp [rw3]; omega)]
    simp
  rw [this]
  simp only [Option.map_some]
  rw [gridO_set hi hj]
theorem grid_get {s : S} {M : Mt} {i j : Nat} (hi : i < 3) (hj : j < 3) : atD (s ++ gridO s.length M) (.ref (s.length + i)) (.int j) = some (.int (M i j)) := by
  rw [at_ref (gridO_row hi).2, atI_nat, rw3_at hj]
theorem st_grid {s : S} {M : Mt} {a : Arc} {d : D} {P : Pst} (hi : a.1 < 3) (hj : a.2.1 < 3) (hP : P.nx [some d, some (.ref (s.length + 3)), some (.int a.1), some (.int a.2.1), some (.bl a.2.2)] (s ++ gridO s.length (addG M a))) :
    wC (cSub (e2 oAt (eVar 1) (eVar 2)) (eVar 3) (eN fMax (lCons (eN fInt (lCons (e2 oAt (e2 oAt (eVar 1) (eVar 2)) (eVar 3)) lNil)) (lCons (e2 oAdd (eC (.int 1)) (eN fInt (lCons (eVar 4) lNil))) lNil)))
      [some d, some (.ref (s.length + 3)), some (.int a.1), some (.int a.2.1), some (.bl a.2.2)] (s ++ gridO s.length M)) P := by
  simp [(gridO_row (s := s) (M := M) hi).1, grid_get hi hj]
  have e : max (M a.1 a.2.1 : Int) (1 + if a.2.2 = true then 1 else 0) = ((max (M a.1 a.2.1) (1 + a.2.2.toNat) : Nat) : Int) := by
    cases a.2.2 <;> simp <;> omega
  rw [e, grid_put hi hj]
  exact hP
/-- where arcs come from: a tuple, a list -/
def ArcSrc (s : S) (d : D) (A : List Arc) : Prop := d = .tup (A.map aD) ∨ ∃ n, d = .ref n ∧ s[n]? = some (.lst (A.map aD))
theorem sp_grid {s : S} {d : D} {A : List Arc} {X : Xc} {Q : D → S → Prop} (hd : ArcSrc s d A) (hA : In3 A) (hQ : Q (.ref (s.length + 3)) (s ++ gridO s.length (foldG (fun _ _ => 0) A))) : wE (d_law_grid [d] s) Q X := by
  unfold d_law_grid
  refine (v_def (by rfl)).mpr ?_
  unfold b_law_grid
  simp
  have e0 : s ++ [O.lst [.int 0, .int 0, .int 0], .lst [.int 0, .int 0, .int 0], .lst [.int 0, .int 0, .int 0], .lst [.ref s.length, .ref (s.length + 1), .ref (s.length + 2)]] = s ++ gridO s.length (fun _ _ => 0) := rfl
  rw [e0]
  let I : List D → Fc.Env → S → Prop := fun ds σ s' => ∃ (B C : List Arc) (t u v : Option D), A = B ++ C ∧ ds = C.map aD ∧ σ = [some d, some (.ref (s.length + 3)), t, u, v] ∧ s' = s ++ gridO s.length (foldG (fun _ _ => 0) B)
  have start : I (A.map aD) [some d, some (.ref (s.length + 3)), none, none, none] (s ++ gridO s.length fun _ _ => 0) := ⟨[], A, none, none, none, rfl, rfl, rfl, rfl⟩
  have hs : ∀ (P : Pst) (d' : D) (r : List D) (σ : Fc.Env) (s' : S), I (d' :: r) σ s' → ∃ σ1, gTup 3 (gCons (gName 2) (gCons (gName 3) (gCons (gName 4) gNil))) d' σ s' = some σ1 ∧ wC (cSub (e2 oAt (eVar 1) (eVar 2)) (eVar 3) (eN fMax (lCons (eN fInt (lCons (e2 oAt (e2 oAt (eVar 1) (eVar 2)) (eVar 3)) lNil)) (lCons (e2 oAdd (eC (.int 1)) (eN fInt (lCons (eVar 4) lNil))) lNil))) σ1 s') { P with nx := fun e s => I r e s, ct := fun e s => I r e s, bk := P.nx } := by
    rintro P d' r σ s' ⟨B, C, t, u, v, e, ed, rfl, rfl⟩
    cases C with
    | nil => cases ed
    | cons a C =>
      cases ed
      have ha := hA a (by rw [e]; simp)
      refine ⟨_, rfl, st_grid ha.1 ha.2 ⟨B ++ [a], C, _, _, _, by simp [e], rfl, rfl, ?_⟩⟩
      simp [foldG]
  have fin : ∀ (P : Pst) (σ : Fc.Env) (s' : S), P.nx = (fun e s => onD e[1]? fun d => Q d s) → I [] σ s' → P.nx σ s' := by
    rintro P σ s' hP ⟨B, C, t, u, v, e, ed, rfl, rfl⟩
    cases C with
    | cons a C => cases ed
    | nil =>
      rw [hP]
      simp at e
      subst e
      exact hQ
  rcases hd with rfl | ⟨n, rfl, hn⟩
  · simp [srcOf]
    exact wC_forV I _ start (hs _) (fun σ s' => fin _ σ s' rfl)
  · have hn' := Pf.app (t := gridO s.length fun _ _ => 0) _ _ hn
    simp [srcOf, hn']
    refine wC_forL I ?_ (hs _) (fun σ s' => fin _ σ s' rfl) _ 0 (by simp) start
    rintro r σ s' ⟨B, C, t, u, v, e, ed, rfl, rfl⟩
    exact Pf.app _ _ hn
end P1
namespace P1
open PySem Fc
/-- in the midst of the drawing: the list at L holds A -/
structure Drw (s : S) (g p q : Nat) (s' : S) (A : List Arc) (B : Nat) : Prop where
  at_ : s'[s.length]? = some (.lst (A.map aD))
  fr : Fr g s s'
  gen : Gen s' g B
  bd : ∀ a ∈ A, a.1 < p ∧ a.2.1 < q
theorem Drw.mono {s : S} {g p q : Nat} {s' : S} {A : List Arc} {B B' : Nat} (h : Drw s g p q s' A B) (k : B' ≤ B) : Drw s g p q s' A B' := ⟨h.at_, h.fr, h.gen.mono k, h.bd⟩
theorem Drw.draw {s : S} {g p q : Nat} {s' : S} {A : List Arc} {B B' : Nat} {o : O} (h : Drw s g p q s' A B) (hg : g < s.length) (k : Gen (s'.set g o) g B') : Drw s g p q (s'.set g o) A B' :=
  ⟨by rw [set_ne (by omega)]; exact h.at_, h.fr.trans Fr.set, k, h.bd⟩
theorem Drw.put {s : S} {g p q : Nat} {s' : S} {A : List Arc} {B : Nat} {a : Arc} (h : Drw s g p q s' A B) (hg : g < s.length) (ha : a.1 < p ∧ a.2.1 < q) : Drw s g p q (s'.set s.length (.lst (A.map aD ++ [aD a]))) (A ++ [a]) B := by
  have hl := lt_of_get h.at_
  refine ⟨by rw [set_get hl]; simp, ⟨?_, fun n hn o e => ?_⟩, ?_, ?_⟩
  · simpa using h.fr.1
  · have := lt_of_get e
    rw [set_ne (by omega)]
    exact h.fr.2 n hn o e
  · obtain ⟨a0, b0, c0, e, r⟩ := h.gen
    exact ⟨a0, b0, c0, by rw [set_ne (by omega)]; exact e, r⟩
  · intro x hx
    rcases List.mem_append.mp hx with hx | hx
    · exact h.bd x hx
    · simp at hx; subst hx; exact ha
theorem shaped_list0 : SeqAt.shaped (.list []) = true := by decide
theorem dats_map {s : S} {n : Nat} (f : Arc → PyData) (h : ∀ a, dat s n (aD a) = some (f a)) : ∀ A : List Arc, dats s n (A.map aD) = some (A.map f)
  | [] => by simp
  | a :: A => dats_cons (h a) (dats_map f h A)
def arcP (a : Arc) : PyData := .tuple [.int a.1, .int a.2.1, .bool a.2.2]
theorem dat_arc {s : S} {n : Nat} (a : Arc) : dat s (n + 1) (aD a) = some (arcP a) := by
  unfold aD
  rw [dat_tup, dats_cons dat_int (dats_cons dat_int (dats_cons dat_bl dats_nil))]
  rfl
theorem arcP_ok (a : Arc) : (arcP a).canLay0 = true ∧ (arcP a).depth = 1 := by
  simp [arcP, PyData.canLay0, PyData.canLayAll0, PyData.depth, PyData.depthAll]
theorem arcsP_ok : ∀ A : List Arc, PyData.canLayAll0 (A.map arcP) = true ∧ PyData.depthAll (A.map arcP) ≤ 1
  | [] => by simp [PyData.canLayAll0, PyData.depthAll]
  | a :: A => by
    have h1 := arcP_ok a
    have h2 := arcsP_ok A
    simp [PyData.canLayAll0, PyData.depthAll, h1.1, h1.2, h2.1, h2.2]
theorem shaped_arcs (A : List Arc) : SeqAt.shaped (.list (A.map arcP)) = true := by
  have h := arcsP_ok A
  refine Bool.and_eq_true_iff.mpr ⟨by simp only [PyData.canLay0, h.1], decide_eq_true ?_⟩
  simp only [PyData.depth]
  omega
/-- a list of arcs against [] -/
theorem eq_nil {s : S} {n m : Nat} {A : List Arc} (h : s[n]? = some (.lst (A.map aD))) (h2 : s[m]? = some (.lst [])) : eqD s (.ref n) (.ref m) = some A.isEmpty := by
  have e1 : dat s 60 (.ref n) = some (.list (A.map arcP)) := by rw [dat_ref h, dats_map arcP (fun a => dat_arc a)]; rfl
  have e2 : dat s 60 (.ref m) = some (.list []) := by rw [dat_ref h2]; simp
  rw [eq_of e1 e2 (shaped_arcs A) shaped_list0]
  cases A <;> simp [PyData.eqv, PyData.eqvAll]
/-- one place -/
theorem st_arc {s : S} {g p q B : Nat} {dn : Int} {s' : S} {A : List Arc} {i j : Nat} {P : Pst} {e : Fc.Env} (hg : g < s.length) (hd : 0 < dn) (hd2 : dn < 2 ^ 1000) (h : Drw s g p q s' A (B + 80)) (hi : i < p) (hj : j < q) (hA : A.length < 16777216)
    (e1 : e = [some (.ref g), some (.int p), some (.int q), some (.int dn), some (.ref s.length), some (.int i), some (.int j)])
    (hP : ∀ s2 A2, Drw s g p q s2 A2 B → A2.length ≤ A.length + 1 → P.nx e s2) :
    wC (cIf (tB (e2 oEq (eCall d_law_random [] (lCons (eVar 0) (lCons (eVar 3) lNil))) (eC (.int 0))))
      (cExpr (eM mAppend (eVar 4) (lCons (eN mTup (lCons (eVar 5) (lCons (eVar 6) (lCons (e2 oEq (eCall d_law_random [] (lCons (eVar 0) (lCons (eC (.int 2)) lNil))) (eC (.int 0))) lNil)))) lNil)))
      cNil e s') P := by
  subst e1
  simp
  refine sp_random (B := B + 40) (h.gen.mono (by omega)) hd hd2 fun z o z0 z1 k => ?_
  have h2 := h.draw hg k
  simp [eqD_int]
  refine onT_by (fun _ => ?_) fun _ => ?_
  · simp [isLst, h2.at_]
    refine sp_random (B := B) h2.gen (by omega) (by omega) fun z' o' z0' z1' k' => ?_
    have h3 := h2.draw hg k'
    rw [List.set_set] at h3
    simp [eqD_int, lstAt_of h3.at_, hA]
    exact hP _ _ (h3.put hg (a := (i, j, z' == 0)) ⟨hi, hj⟩) (by simp)
  · exact hP _ _ (h2.mono (by omega)) (by omega)
/-- what is drawn: a list of arcs, somewhere -/
theorem sp_arcsF {s : S} {g p q B : Nat} {dn : Int} {X : Xc} {Q : D → S → Prop} (hgen : Gen s g (B + 1200)) (hp : p ≤ 3) (hq : q ≤ 3) (hd : 0 < dn) (hd2 : dn < 2 ^ 1000)
    (hQ : ∀ (n : Nat) (s' : S) (A : List Arc), Fr g s s' → Gen s' g B → s'[n]? = some (.lst (A.map aD)) → (∀ a ∈ A, a.1 < p ∧ a.2.1 < q) → A.length ≤ 10 → s.length ≤ n → Q (.ref n) s') : wE (d_law_arcs [.ref g, .int p, .int q, .int dn] s) Q X := by
  unfold d_law_arcs
  refine (v_def (by rfl)).mpr ?_
  unfold b_law_arcs
  have hg : g < s.length := by obtain ⟨_, _, _, e, _⟩ := hgen; exact lt_of_get e
  have sm : ∀ n : Nat, n ≤ 3 → small (n : Int) = true := fun n h => by unfold small; simp; omega
  simp [sm p hp]
  have rng : ∀ n : Nat, n ≤ 3 → (rangeL 0 (n : Int)).length ≤ 3 ∧ ∀ d ∈ rangeL 0 (n : Int), ∃ i : Nat, d = .int i ∧ i < n := fun n h => by
    refine ⟨by simp [rangeL]; omega, fun d hd => ?_⟩
    simp only [rangeL, List.mem_map, List.mem_range] at hd
    obtain ⟨i, h1, rfl⟩ := hd
    exact ⟨i, by simp, by omega⟩
  have start : Drw s g p q (s ++ [.lst []]) [] (B + 1200) := ⟨by simp, Pf.app.fr, Pf.app.gen hgen, by simp⟩
  refine wC_forV (fun (ds : List D) (σ : Fc.Env) (s' : S) => ds.length ≤ 3 ∧ (∀ d ∈ ds, ∃ i : Nat, d = .int i ∧ i < p) ∧ ∃ A t u, Drw s g p q s' A (B + 200 + 300 * ds.length) ∧ A.length + 3 * ds.length ≤ 9 ∧ σ = [some (.ref g), some (.int p), some (.int q), some (.int dn), some (.ref s.length), t, u]) _ ⟨(rng p hp).1, (rng p hp).2, [], none, none, start.mono (by have := (rng p hp).1; omega), by have := (rng p hp).1; simp; omega, rfl⟩ ?_ ?_
  · rintro d r σ s' ⟨l1, hm, A, t, u, h, hl, rfl⟩
    obtain ⟨i, rfl, hi⟩ := hm _ (List.mem_cons_self ..)
    have l1' : r.length + 1 ≤ 3 := l1
    have h : Drw s g p q s' A (B + 200 + 300 * (r.length + 1)) := h
    have hl : A.length + 3 * (r.length + 1) ≤ 9 := hl
    refine ⟨_, rfl, ?_⟩
    simp [sm q hq]
    refine wC_forV (fun (ds : List D) (σ : Fc.Env) (s' : S) => ds.length ≤ 3 ∧ (∀ d ∈ ds, ∃ i : Nat, d = .int i ∧ i < q) ∧ ∃ A u, Drw s g p q s' A (B + 200 + 300 * r.length + 80 * ds.length) ∧ A.length + 3 * r.length + ds.length ≤ 9 ∧ σ = [some (.ref g), some (.int p), some (.int q), some (.int dn), some (.ref s.length), some (.int i), u]) _ ⟨(rng q hq).1, (rng q hq).2, A, u, h.mono (by have := (rng q hq).1; omega), by have := (rng q hq).1; omega, rfl⟩ ?_ ?_
    · rintro d r' σ s' ⟨l2, hm', A, u, h, hl, rfl⟩
      obtain ⟨j, rfl, hj⟩ := hm' _ (List.mem_cons_self ..)
      have l2' : r'.length + 1 ≤ 3 := l2
      have h : Drw s g p q s' A (B + 200 + 300 * r.length + 80 * (r'.length + 1)) := h
      have hl : A.length + 3 * r.length + (r'.length + 1) ≤ 9 := hl
      refine ⟨_, rfl, st_arc (B := B + 200 + 300 * r.length + 80 * r'.length) hg hd hd2 (h.mono (by omega)) hi hj (by omega) rfl fun s2 A2 h2 hl2 => ?_⟩
      exact ⟨by omega, fun d hd => hm' d (List.mem_cons_of_mem _ hd), A2, _, h2, by omega, rfl⟩
    · rintro σ s' ⟨_, _, A, u, h, hl, rfl⟩
      exact ⟨by omega, fun d hd => hm d (List.mem_cons_of_mem _ hd), A, h.mono (by simp), by simpa using hl, _, _, rfl⟩
  · rintro σ s' ⟨_, _, A, t, u, h, hl, rfl⟩
    have h : Drw s g p q s' A (B + 200) := h
    have hl : A.length ≤ 9 := by simpa using hl
    have fin : ∀ (s2 : S) (A2 : List Arc), Drw s g p q s2 A2 (B + 40) → A2.length ≤ 10 → wC (cRet (e2 oAt (eN mLst (lCons (eVar 4) (lCons (e1 oRevL (eVar 4)) lNil))) (eCall d_law_random [] (lCons (eVar 0) (lCons (eC (.int 2)) lNil)))) [some (.ref g), some (.int p), some (.int q), some (.int dn), some (.ref s.length), t, u] s2) { nx := fun _ s' => Q .non s', rt := Q, xc := X } := by
      intro s2 A2 h2 hl2
      simp [lstAt_of h2.at_]
      have k1 : Pf s2 (s2 ++ [O.lst (A2.map aD).reverse, O.lst [D.ref s.length, D.ref s2.length]]) := Pf.app
      refine sp_random (B := B) (k1.gen h2.gen) (by omega) (by omega) fun z o z0 z1 k => ?_
      have hL := lt_of_get h2.at_
      have hlen := h2.fr.1
      have g0 : ∀ (m : Nat) (w : O), m ≠ g → (s2 ++ [O.lst (A2.map aD).reverse, O.lst [D.ref s.length, D.ref s2.length]])[m]? = some w → ((s2 ++ [O.lst (A2.map aD).reverse, O.lst [D.ref s.length, D.ref s2.length]]).set g o)[m]? = some w := fun m w hm hw => by rw [set_ne (Ne.symm hm)]; exact hw
      have e1 := g0 (s2.length + 1) _ (by omega) (by rw [List.getElem?_append_right (by omega)]; simp; rfl)
      have e2 := g0 s2.length _ (by omega) (by rw [List.getElem?_append_right (by omega)]; simp; rfl)
      have e3 := g0 s.length _ (by omega) (k1 _ _ h2.at_)
      have fr : Fr g s ((s2 ++ [O.lst (A2.map aD).reverse, O.lst [D.ref s.length, D.ref s2.length]]).set g o) := (h2.fr.trans k1.fr).trans Fr.set
      rw [at_ref e1]
      have hz : z = 0 ∨ z = 1 := by omega
      rcases hz with rfl | rfl
      · simp
        exact hQ _ _ A2 fr k e3 h2.bd hl2 (Nat.le_refl _)
      · simp
        refine hQ _ _ A2.reverse fr k (by rw [e2]; simp) (fun a ha => h2.bd a (by simpa using ha)) (by simpa using hl2) (by omega)
    have h1 : Drw s g p q (s' ++ [.lst []]) A (B + 200) := ⟨Pf.app _ _ h.at_, h.fr.trans Pf.app.fr, Pf.app.gen h.gen, h.bd⟩
    have en := eq_nil (s := s' ++ [.lst []]) h1.at_ (get_new (s := s') (o := .lst []))
    simp only [onD_some, List.getElem?_cons_succ, List.getElem?_cons_zero]
    rw [en]
    cases A with
    | nil =>
      simp only [List.isEmpty_nil, onO_some, Bool.not_true, onT_f]
      simpa using fin _ [] (h1.mono (by omega)) (by simp)
    | cons a A =>
      simp only [List.isEmpty_cons, onO_some, Bool.not_false, onT_t]
      refine sp_random (B := B + 160) (h1.gen.mono (by omega)) (by omega) (by omega) fun z o z0 z1 k => ?_
      have h2 := h1.draw hg k
      simp only [eqD_int, onO_some]
      refine onT_by (fun _ => ?_) fun _ => ?_
      · have ha := h2.bd a (List.mem_cons_self ..)
        have h3 := h2.put hg (a := (a.1, a.2.1, !a.2.2)) ha
        have e0 : atD ((s' ++ [O.lst []]).set g o) (.ref s.length) (.int 0) = some (aD a) := by rw [at_ref h2.at_]; simp
        have il : isLst ((s' ++ [O.lst []]).set g o) (.ref s.length) = true := by simp [isLst, h2.at_]
        rw [il, onT_t, e0]
        have f := fin _ _ (h3.mono (by omega)) (by simp at hl ⊢; omega)
        have hl' : ((a :: A).map aD).length < 16777216 := by simp at hl ⊢; omega
        have hd := decide_eq_true hl'
        simp [aD, cutL, HT.sIx]
        rw [e0]
        simp only [onO_some, aD]
        simp
        rw [lstAt_of h2.at_]
        simp only [onO_some]
        rw [hd, onT_t]
        simpa [aD] using f
      · simpa using fin _ _ (h2.mono (by omega)) (by simp at hl ⊢; omega)
theorem sp_arcs {s : S} {g p q B : Nat} {dn : Int} {X : Xc} {Q : D → S → Prop} (hgen : Gen s g (B + 1200)) (hp : p ≤ 3) (hq : q ≤ 3) (hd : 0 < dn) (hd2 : dn < 2 ^ 1000)
    (hQ : ∀ (n : Nat) (s' : S) (A : List Arc), Fr g s s' → Gen s' g B → s'[n]? = some (.lst (A.map aD)) → (∀ a ∈ A, a.1 < p ∧ a.2.1 < q) → A.length ≤ 10 → Q (.ref n) s') : wE (d_law_arcs [.ref g, .int p, .int q, .int dn] s) Q X :=
  sp_arcsF hgen hp hq hd hd2 fun n s' A h1 h2 h3 h4 h5 _ => hQ n s' A h1 h2 h3 h4 h5
def Bd2 (M : Mt) : Prop := ∀ i j, M i j ≤ 2
theorem bd_add {M : Mt} {a : Arc} (h : Bd2 M) : Bd2 (addG M a) := by
  intro i j
  unfold addG updM
  have := h a.1 a.2.1
  have := h i j
  cases a.2.2 <;> simp <;> split <;> omega
theorem bd_fold : ∀ {A : List Arc} {M : Mt}, Bd2 M → Bd2 (foldG M A)
  | [], _, h => h
  | a :: A, M, h => bd_fold (A := A) (bd_add h)
theorem Pf.app2 {s t u : S} : Pf s (s ++ t ++ u) := Pf.app.trans Pf.app
/-- a table is drawn -/
theorem sp_table {s : S} {g B : Nat} {b e : Str} {X : Xc} {Q : D → S → Prop} (hgen : Gen s g (B + 1300)) (hQ : ∀ (s' : S) (M : Mt), Fr g s s' → Gen s' g B → Bd2 M → Q (tabD b e M) s') : wE (d_law_table [.ref g, .str b, .str e] s) Q X := by
  unfold d_law_table
  refine (v_def (by rfl)).mpr ?_
  unfold b_law_table
  simp
  refine sp_random (B := B + 1250) (hgen.mono (by omega)) (by omega) (by omega) fun z o z0 z1 k => ?_
  simp
  refine sp_arcs (p := 3) (q := 3) (B := B) (k.mono (by omega)) (by omega) (by omega) (by omega) (by omega) fun n s' A fr gen hn bd hl => ?_
  refine sp_grid (A := A) (.inr ⟨n, rfl, hn⟩) bd ?_
  refine sp_listed gridO_at fun o' => ?_
  simp
  have k2 : Pf s' (s' ++ gridO s'.length (foldG (fun _ _ => 0) A) ++ [o']) := Pf.app2
  have h := hQ _ (foldG (fun _ _ => 0) A) ((Fr.set.trans fr).trans k2.fr) (k2.gen gen) (bd_fold fun _ _ => by omega)
  simpa [tabD] using h
end P1
open PySem
namespace Fc
/-- a comprehension over values: what each item gives, if anything -/
theorem w_lcP {s0 : S} {vs : List Nat} {g : G} {t : T} {e : E} {ds : List D} {σ : Fc.Env} {Q : D → S → Prop} {X : Xc} (f : D → Option D) (hl : ds.length < 16777216)
    (hs : ∀ d ∈ ds, ∀ s, Pf s0 s → ∃ σ1, g d (wipe σ vs) s = some σ1 ∧ wE (t σ1 s) (fun c s1 => Pf s s1 ∧ if c = true then wE (e σ1 s1) (fun y s2 => Pf s1 s2 ∧ f d = some y) (fun _ _ _ => False) else f d = none) (fun _ _ _ => False))
    (hQ : ∀ s', Pf s0 s' → s'[s0.length]? = some (.lst (ds.filterMap f)) → Q (.ref s0.length) s') : wE (lcNew s0 fun D0 s2 => lcV D0 vs g t e ds σ s2) Q X := by
  rw [w_lcNew]
  have pset : ∀ {s : S} {o : O}, Pf s0 s → Pf s0 (s.set s0.length o) := fun {s o} h n w hw => by
    have := lt_of_get hw
    rw [set_ne (by omega)]
    exact h n w hw
  obtain ⟨s', acc', h1, h2, bs, h3, h4, h5⟩ := w_lcV (D0 := s0.length) (vs := vs) (g := g) (t := t) (e := e) (σ := σ) (fun r acc s => ∃ bs, ds = bs ++ r ∧ acc = bs.filterMap f ∧ Pf s0 s) ds [] (s := s0 ++ [.lst []]) ⟨[], rfl, rfl, Pf.app⟩ get_new (by
    rintro d r acc s ⟨bs, e1, rfl, pf⟩ hD
    obtain ⟨σ1, g1, g2⟩ := hs d (by rw [e1]; simp) s pf
    refine ⟨σ1, g1, wE_mono g2 fun c s1 ⟨p1, h⟩ => ?_⟩
    cases c with
    | false =>
      simp only [Bool.false_eq_true, if_false] at h ⊢
      exact ⟨p1 _ _ hD, bs ++ [d], by simp [e1], by simp [h], pf.trans p1⟩
    | true =>
      simp only [if_true] at h ⊢
      refine wE_mono h fun y s2 ⟨p2, h⟩ => ⟨p2 _ _ (p1 _ _ hD), ?_, bs ++ [d], by simp [e1], by simp [h], pset ((pf.trans p1).trans p2)⟩
      have : (bs.filterMap f).length ≤ bs.length := List.length_filterMap_le ..
      have : bs.length ≤ ds.length := by rw [e1]; simp
      omega)
  refine ⟨s', h1, hQ s' h5 ?_⟩
  rw [h2, h4]
  simp at h3
  rw [h3]
end Fc
namespace P1
open PySem Fc
theorem sp_whole {s : S} {i : Int} {X : Xc} {Q : D → S → Prop} (hQ : Q (.bl true) s) : wE (d_is_whole [.int i] s) Q X := by
  unfold d_is_whole
  refine (v_def (by rfl)).mpr ?_
  unfold b_is_whole
  simp
  exact hQ
theorem sp_is_arc {s : S} {a : Arc} {X : Xc} {Q : D → S → Prop} (h1 : a.1 < 3) (h2 : a.2.1 < 3) (hQ : Q (.bl true) s) : wE (d_is_arc [aD a, .int 3, .int 3] s) Q X := by
  unfold d_is_arc
  refine (v_def (by rfl)).mpr ?_
  unfold b_is_arc
  simp [aD, eqD_int]
  refine sp_whole ?_
  simp
  refine sp_whole ?_
  have e1 : decide ((a.1 : Int) < 3) = true := decide_eq_true (by omega)
  have e2 : decide ((a.2.1 : Int) < 3) = true := decide_eq_true (by omega)
  simp [e1, e2]
  exact hQ
theorem fm_none {α β : Type} : ∀ l : List α, l.filterMap (fun _ => (none : Option β)) = []
  | [] => rfl
  | a :: l => by rw [List.filterMap_cons]; exact fm_none l
def letters : Str := "abcdefghijklmnopqrstuvwxyz"
/-- what is a name -/
def NameOk (x : Str) : Prop := 1 ≤ x.length ∧ x.length ≤ 12 ∧ ∀ c ∈ x.cps.toList, (Builtin.Str.occurrences letters ⟨#[c]⟩ 0 letters.length 1).isEmpty = false
theorem sp_is_name {s : S} {x : Str} {X : Xc} {Q : D → S → Prop} (h : NameOk x) (hQ : ∀ s', Pf s s' → Q (.bl true) s') : wE (d_is_name [.str x] s) Q X := by
  unfold d_is_name
  refine (v_def (by rfl)).mpr ?_
  unfold b_is_name
  obtain ⟨h1, h2, h3⟩ := h
  have hs : sz x.length = true := sz_lit (by omega)
  have e1 : decide (1 ≤ (x.length : Int)) = true := decide_eq_true (by omega)
  have e2 : decide ((x.length : Int) ≤ 12) = true := decide_eq_true (by omega)
  simp [lenD, hs, e1, e2, srcOf]
  have hlen : (signs x).length < 16777216 := by
    have : x.cps.size = x.length := rfl
    simp [signs]
    omega
  refine w_lcP (fun _ => none) hlen (fun d hd s' pf => ⟨_, rfl, ?_⟩) fun s' pf h => ?_
  · obtain ⟨c, hc, rfl⟩ := List.mem_map.mp hd
    have h4 := h3 c hc
    have e3 : isIn s' (.str ⟨#[c]⟩) (.str letters) = some true := by simp [isIn, h4]
    simp [Fc.wipe]
    rw [show (Str.ofString "abcdefghijklmnopqrstuvwxyz") = letters from rfl, e3]
    simp
    exact Pf.refl
  · have e4 : eqD (s' ++ [O.lst []]) (.ref s.length) (.ref s'.length) = some true := by
      have := eq_nil (s := s' ++ [.lst []]) (n := s.length) (m := s'.length) (A := []) (Pf.app _ _ (by rw [h, fm_none]; rfl)) get_new
      simpa using this
    rw [e4]
    exact hQ _ (pf.trans Pf.app)
theorem in3_cell {M : Mt} {i j : Nat} (hi : i < 3) (hj : j < 3) : In3 (cellA M i j) := by
  intro a ha
  unfold cellA at ha
  split at ha
  · simp at ha; subst ha; exact ⟨hi, hj⟩
  · simp at ha
theorem in3_arcs {M : Mt} : In3 (arcsA M) := by
  intro a ha
  simp only [arcsA, rowA, List.mem_flatMap] at ha
  obtain ⟨i, hi, j, hj, ha⟩ := ha
  simp at hi hj
  exact in3_cell (by omega) (by omega) a ha
/-- the places of arcs -/
def plc (a : Arc) : List Int := [(a.1 : Int), (a.2.1 : Int)]
def plD (a : Arc) : D := .tup [.int a.1, .int a.2.1]
def plP (a : Arc) : PyData := .tuple [.int a.1, .int a.2.1]
theorem tupI_plc : ∀ A : List Arc, tupI (A.map plD) = some (A.map plc)
  | [] => rfl
  | a :: A => by
    show (match intsD [.int a.1, .int a.2.1], tupI (A.map plD) with
      | some x, some xs => some (x :: xs)
      | _, _ => none) = _
    rw [tupI_plc A]
    rfl
theorem setOk_plc (A : List Arc) (h : A.length < 64) : setOk (A.map plc) = true := by
  unfold setOk
  rw [Bool.and_eq_true]
  refine ⟨decide_eq_true (by simpa using h), ?_⟩
  cases A with
  | nil => rfl
  | cons a A =>
    simp [plc]
theorem sortI_sorted : ∀ {l : List (List Int)}, l.Pairwise (fun a b => lexI a b = true) → sortI l = l
  | [], _ => rfl
  | x :: r, h => by
    obtain ⟨h1, h2⟩ := List.pairwise_cons.mp h
    unfold sortI
    rw [sortI_sorted h2]
    cases r with
    | nil => rfl
    | cons y r => simp [putI, h1 y (List.mem_cons_self ..)]
theorem sub_cell {M : Mt} {i j : Nat} : ((cellA M i j).map plc).Sublist [[(i : Int), (j : Int)]] := by
  unfold cellA; split <;> simp [plc]
theorem sub_row {M : Mt} {i : Nat} : ((rowA M i).map plc).Sublist [[(i : Int), 0], [(i : Int), 1], [(i : Int), 2]] := by
  have h := (sub_cell (M := M) (i := i) (j := 0)).append ((sub_cell (M := M) (i := i) (j := 1)).append (sub_cell (M := M) (i := i) (j := 2)))
  simpa [rowA] using h
theorem sub_arcs {M : Mt} : ((arcsA M).map plc).Sublist [[0, 0], [0, 1], [0, 2], [1, 0], [1, 1], [1, 2], [2, 0], [2, 1], [2, 2]] := by
  have h := (sub_row (M := M) (i := 0)).append ((sub_row (M := M) (i := 1)).append (sub_row (M := M) (i := 2)))
  simpa [arcsA] using h
theorem plc_srt {M : Mt} : ((arcsA M).map plc).Pairwise (fun a b => lexI a b = true) := List.Pairwise.sublist sub_arcs (by decide)
theorem plc_back : ∀ A : List Arc, (A.map plc).map (fun x => D.tup (x.map .int)) = A.map plD
  | [] => rfl
  | a :: A => by
    rw [List.map_cons, List.map_cons, plc_back A]
    rfl
theorem dat_pl {s : S} {n : Nat} (a : Arc) : dat s (n + 1) (plD a) = some (plP a) := by
  unfold plD
  rw [dat_tup, dats_cons dat_int (dats_cons dat_int dats_nil)]
  rfl
theorem datsG {s : S} {n : Nat} (g : Arc → D) (f : Arc → PyData) (h : ∀ a, dat s n (g a) = some (f a)) : ∀ A : List Arc, dats s n (A.map g) = some (A.map f)
  | [] => by simp
  | a :: A => dats_cons (h a) (datsG g f h A)
theorem plP_ok : ∀ A : List Arc, PyData.canLayAll0 (A.map plP) = true ∧ PyData.depthAll (A.map plP) ≤ 1 ∧ PyData.eqvAll (A.map plP) (A.map plP) = true
  | [] => by simp [PyData.canLayAll0, PyData.depthAll, PyData.eqvAll]
  | a :: A => by
    obtain ⟨h1, h2, h3⟩ := plP_ok A
    simp [plP, PyData.canLayAll0, PyData.canLay0, PyData.depthAll, PyData.depth, PyData.eqvAll, PyData.eqv] at h1 h2 h3 ⊢
    exact ⟨h1, by omega, h3⟩
/-- two lists of the same places -/
theorem eq_pl {s : S} {n m : Nat} {A : List Arc} (h : s[n]? = some (.lst (A.map plD))) (h2 : s[m]? = some (.lst (A.map plD))) : eqD s (.ref n) (.ref m) = some true := by
  obtain ⟨k1, k2, k3⟩ := plP_ok A
  have sh : SeqAt.shaped (.list (A.map plP)) = true := by
    refine Bool.and_eq_true_iff.mpr ⟨by simp only [PyData.canLay0, k1], decide_eq_true ?_⟩
    simp only [PyData.depth]
    omega
  have e1 : dat s 60 (.ref n) = some (.list (A.map plP)) := by rw [dat_ref h, datsG plD plP (fun a => dat_pl a)]; rfl
  have e2 : dat s 60 (.ref m) = some (.list (A.map plP)) := by rw [dat_ref h2, datsG plD plP (fun a => dat_pl a)]; rfl
  rw [eq_of e1 e2 sh sh]
  simp only [PyData.eqv, k3]
theorem fm_map {α β γ : Type} (g : α → β) (f : β → Option γ) (k : α → γ) (h : ∀ a, f (g a) = some (k a)) : ∀ l : List α, (l.map g).filterMap f = l.map k
  | [] => rfl
  | a :: l => by rw [List.map_cons, List.filterMap_cons, h a, List.map_cons, fm_map g f k h l]
/-- what (int(i), int(j)) is, of an arc -/
def plOf : D → Option D
  | .tup [.int i, .int j, _] => some (.tup [.int i, .int j])
  | _ => none
theorem sp_is_table {s : S} {b e : Str} {M : Mt} {X : Xc} {Q : D → S → Prop} (hb : NameOk b) (he : NameOk e) (hQ : ∀ s', Pf s s' → Q (.bl true) s') : wE (d_is_table [tabD b e M] s) Q X := by
  unfold d_is_table
  refine (v_def (by rfl)).mpr ?_
  unfold b_is_table
  have hal := arcs_len (M := M)
  simp [tabD, eqD_int]
  refine sp_is_name hb fun s1 p1 => ?_
  simp
  refine sp_is_name he fun s2 p2 => ?_
  simp [srcOf]
  refine w_lcP (fun _ => none) (by simp; omega) (fun d hd s' pf => ?_) fun s3 p3 h3 => ?_
  · obtain ⟨a, ha, rfl⟩ := List.mem_map.mp hd
    have h := in3_arcs a ha
    refine ⟨_, rfl, ?_⟩
    simp [Fc.wipe]
    refine sp_is_arc h.1 h.2 ?_
    simp
    exact Pf.refl
  · rw [fm_none] at h3
    have e4 : eqD (s3 ++ [O.lst []]) (.ref s2.length) (.ref s3.length) = some true := eq_nil (A := []) (Pf.app _ _ h3) get_new
    rw [e4]
    simp
    have p4 : Pf s2 (s3 ++ [O.lst []]) := p3.trans Pf.app
    refine w_lcP plOf (by simp; omega) (fun d hd s' pf => ?_) fun s5 p5 h5 => ?_
    · obtain ⟨a, ha, rfl⟩ := List.mem_map.mp hd
      refine ⟨_, rfl, ?_⟩
      simp [Fc.wipe, aD, plOf]
      exact Pf.refl
    · rw [fm_map aD plOf plD (fun a => rfl)] at h5
      have e5 : fSortSet [D.ref (List.length (s3 ++ [O.lst []]))] s5 = new (.lst ((arcsA M).map plD)) s5 := by
        unfold fSortSet
        simp only [h5, tupI_plc, setOk_plc _ (show (arcsA M).length < 64 by omega), if_true, sortI_sorted plc_srt, plc_back]
      rw [e5, v_new]
      rw [eq_pl (A := arcsA M) (Pf.app _ _ h5) get_new]
      exact hQ _ (p1.trans (p2.trans (p4.trans (p5.trans Pf.app))))
theorem sp_check_table {s : S} {b e : Str} {M : Mt} {X : Xc} {Q : D → S → Prop} (hb : NameOk b) (he : NameOk e) (hQ : ∀ s', Pf s s' → Q .non s') : wE (d_check_table [tabD b e M] s) Q X := by
  unfold d_check_table
  refine (v_def (by rfl)).mpr ?_
  unfold b_check_table
  simp
  refine sp_is_table hb he fun s' p => ?_
  simp
  exact hQ _ p
theorem name_f : NameOk "f" := by
  refine ⟨by decide, by decide, ?_⟩
  decide +kernel
theorem name_g : NameOk "g" := by
  refine ⟨by decide, by decide, ?_⟩
  decide +kernel
theorem name_hh : NameOk "hh" := by
  refine ⟨by decide, by decide, ?_⟩
  decide +kernel
end P1
namespace P1
open PySem Fc
abbrev Pr := Nat × Nat
def kD (p : Pr) : List L2.Key := [.inl (p.1 : Int), .inl (p.2 : Int)]
theorem kD_inj {p q : Pr} : kD p = kD q ↔ p = q := by
  unfold kD
  constructor
  · intro h
    obtain ⟨a, b⟩ := p
    obtain ⟨c, d⟩ := q
    simp at h
    obtain ⟨h1, h2⟩ := h
    have h1 : (a : Int) = c := by simpa using h1
    have h2 : (b : Int) = d := by simpa using h2
    have e1 : a = c := by omega
    have e2 : b = d := by omega
    rw [e1, e2]
  · rintro rfl; rfl
def kvO (F : Mt) (ps : List Pr) : List (List L2.Key × D) := ps.map fun p => (kD p, .bl (F p.1 p.2 == 2))
/-- ps are the places of F, each once -/
structure Pls (F : Mt) (ps : List Pr) : Prop where
  nd : ps.Nodup
  mem : ∀ p, p ∈ ps ↔ p.1 < 3 ∧ p.2 < 3 ∧ 0 < F p.1 p.2
theorem kget_kvO {F : Mt} {p : Pr} : ∀ {ps : List Pr}, kget (kvO F ps) (kD p) = if p ∈ ps then some (.bl (F p.1 p.2 == 2)) else none
  | [] => rfl
  | q :: ps => by
    have ih := kget_kvO (F := F) (p := p) (ps := ps)
    unfold kget kvO at ih ⊢
    by_cases h : kD q = kD p
    · have e := kD_inj.mp h
      subst e
      simp
    · have ne : ¬ p = q := fun z => h (by rw [z])
      simp only [List.map_cons, List.find?_cons, h, decide_false, List.mem_cons, ne, false_or]
      exact ih
theorem kput_kvO {F : Mt} {p : Pr} {w : Nat} {ps : List Pr} : kput (kvO F ps) (kD p) (.bl (w == 2)) = kvO (updM F p.1 p.2 w) (if p ∈ ps then ps else ps ++ [p]) := by
  have any : ((kvO F ps).any fun kv => decide (kv.1 = kD p)) = true ↔ p ∈ ps := by
    simp [kvO, kD_inj]
  have upd : ∀ q : Pr, updM F p.1 p.2 w q.1 q.2 = if q = p then w else F q.1 q.2 := fun q => by
    unfold updM
    by_cases h : q = p
    · subst h; simp
    · rw [if_neg h, if_neg]
      rintro ⟨h1, h2⟩
      exact h (Prod.ext h1 h2)
  unfold kput
  by_cases h : p ∈ ps
  · rw [if_pos (any.mpr h), if_pos h]
    unfold kvO
    rw [List.map_map]
    refine List.map_congr_left fun q hq => ?_
    simp only [Function.comp, kD_inj, upd]
    by_cases e : q = p
    · simp [e]
    · simp [e]
  · rw [if_neg (fun z => h (any.mp z)), if_neg h]
    unfold kvO
    rw [List.map_append]
    congr 1
    · refine List.map_congr_left fun q hq => ?_
      have e : ¬ q = p := fun z => h (z ▸ hq)
      simp [upd, e]
    · simp [upd]
theorem Pls.put {F : Mt} {ps : List Pr} {p : Pr} {w : Nat} (h : Pls F ps) (h1 : p.1 < 3) (h2 : p.2 < 3) (hw : 0 < w) : Pls (updM F p.1 p.2 w) (if p ∈ ps then ps else ps ++ [p]) := by
  have upd : ∀ q : Pr, updM F p.1 p.2 w q.1 q.2 = if q = p then w else F q.1 q.2 := fun q => by
    unfold updM
    by_cases h : q = p
    · subst h; simp
    · rw [if_neg h, if_neg]
      rintro ⟨h1, h2⟩
      exact h (Prod.ext h1 h2)
  by_cases hp : p ∈ ps
  · rw [if_pos hp]
    refine ⟨h.nd, fun q => ?_⟩
    rw [h.mem, upd]
    by_cases e : q = p
    · subst e
      have := (h.mem q).mp hp
      simp [hw, this]
    · simp [e]
  · rw [if_neg hp]
    refine ⟨?_, fun q => ?_⟩
    · rw [List.nodup_append]
      refine ⟨h.nd, by simp, fun a ha b hb e => ?_⟩
      simp at hb
      subst hb; subst e
      exact hp ha
    · rw [List.mem_append, h.mem, upd]
      by_cases e : q = p
      · subst e; simp [hw, h1, h2]
      · simp [e]
theorem nodup_le {α : Type} [DecidableEq α] : ∀ {l m : List α}, l.Nodup → l ⊆ m → l.length ≤ m.length
  | [], _, _, _ => Nat.zero_le _
  | a :: l, m, h, hs => by
    obtain ⟨h1, h2⟩ := List.nodup_cons.mp h
    have ha : a ∈ m := hs (List.mem_cons_self ..)
    have hl : l ⊆ m.erase a := fun x hx => (List.mem_erase_of_ne (fun z => h1 (by rw [← z]; exact hx))).mpr (hs (List.mem_cons_of_mem _ hx))
    have := nodup_le h2 hl
    have e := List.length_erase_of_mem ha
    have : 0 < m.length := List.length_pos_of_mem ha
    simp only [List.length_cons]
    omega
theorem Pls.len {F : Mt} {ps : List Pr} (h : Pls F ps) : ps.length ≤ 9 := by
  have : ps ⊆ [(0, 0), (0, 1), (0, 2), (1, 0), (1, 1), (1, 2), (2, 0), (2, 1), (2, 2)] := fun p hp => by
    have := (h.mem p).mp hp
    obtain ⟨a, b⟩ := p
    obtain ⟨h1, h2, _⟩ := this
    simp only at h1 h2
    match a, b, h1, h2 with
    | 0, 0, _, _ => simp
    | 0, 1, _, _ => simp
    | 0, 2, _, _ => simp
    | 1, 0, _, _ => simp
    | 1, 1, _, _ => simp
    | 1, 2, _, _ => simp
    | 2, 0, _, _ => simp
    | 2, 1, _, _ => simp
    | 2, 2, _, _ => simp
  have k := nodup_le h.nd this
  simpa using k
/-- found[i, j] = found.get((i, j), False) or falls or more -/
theorem st_join {s : S} {n : Nat} {F : Mt} {ps : List Pr} {d1 d2 : D} {i k j k' : Nat} {f m : Bool} {P : Pst} (hn : s[n]? = some (.dT (kvO F ps))) (hp : Pls F ps) (hi : i < 3) (hj : j < 3) (hF : Bd2 F) (hf0 : ∀ a b, (a, b) ∉ ps → F a b = 0)
    (h1 : ¬ k' = k → P.nx [some d1, some d2, some (.ref n), some (.int i), some (.int k), some (.bl f), some (.int k'), some (.int j), some (.bl m)] s)
    (h2 : k' = k → ∀ ps', Pls (updM F i j (max (F i j) (1 + (f || m).toNat))) ps' → P.nx [some d1, some d2, some (.ref n), some (.int i), some (.int k), some (.bl f), some (.int k'), some (.int j), some (.bl m)] (s.set n (.dT (kvO (updM F i j (max (F i j) (1 + (f || m).toNat))) ps')))) :
    wC (cIf (tB (e2 oEq (eVar 6) (eVar 4)))
      (cSub (eVar 2) (eN mTup (lCons (eVar 3) (lCons (eVar 7) lNil))) (eOr (eGet2 (eVar 2) (eN mTup (lCons (eVar 3) (lCons (eVar 7) lNil))) (eC (.bl false))) (eOr (eVar 5) (eVar 8))))
      cNil [some d1, some d2, some (.ref n), some (.int i), some (.int k), some (.bl f), some (.int k'), some (.int j), some (.bl m)] s) P := by
  have hl := hp.len
  have g : dgetAt s (.ref n) (.tup [.int i, .int j]) = some (kget (kvO F ps) (kD (i, j))) := by
    unfold dgetAt rd
    simp [hn, unl, dget, keysOf, keyOf]
    rfl
  have isd : isDict s (.ref n) = true := by simp [isDict, rd, hn, unl]
  have key : ∀ w : Nat, 0 < w → Fc.putAt s (.ref n) (.tup [.int i, .int j]) (.bl (w == 2)) = some (s.set n (.dT (kvO (updM F i j w) (if (i, j) ∈ ps then ps else ps ++ [(i, j)])))) := fun w hw => by
    unfold Fc.putAt
    dsimp only
    rw [hn]
    dsimp only
    have hlen : (kvO F ps).length < 16777216 := by simp [kvO]; omega
    have e := kput_kvO (F := F) (p := (i, j)) (w := w) (ps := ps)
    unfold dput
    dsimp only
    rw [if_pos hlen]
    simp [keysOf, keyOf]
    unfold kD at e
    rw [e]
  have kgf : (kget (kvO F ps) (kD (i, j))).getD (.bl false) = .bl (F i j == 2) := by
    rw [kget_kvO]
    by_cases h : (i, j) ∈ ps
    · rw [if_pos h]; rfl
    · rw [if_neg h, hf0 i j h]; rfl
  simp [eqD_int]
  refine onT_by (fun h => ?_) fun h => ?_
  · have h : k' = k := by
      have : (k' : Int) = k := by simpa using h
      omega
    rw [isd, onT_t, g]
    simp only [onO_some]
    rw [kgf]
    simp
    have hb := hF i j
    have fin : ∀ c : Bool, c = (max (F i j) (1 + (f || m).toNat) == 2) → onO (Fc.putAt s (.ref n) (.tup [.int i, .int j]) (.bl c)) fun s4 => P.nx [some d1, some d2, some (.ref n), some (.int i), some (.int k), some (.bl f), some (.int k'), some (.int j), some (.bl m)] s4 := by
      rintro c rfl
      rw [key _ (by omega)]
      exact h2 h _ (hp.put (p := (i, j)) hi hj (by omega))
    refine onT_by (fun hc => ?_) fun hc => ?_
    · have hc : F i j = 2 := by simpa using hc
      rw [hc]
      refine fin _ ?_
      rw [hc]
      cases f <;> cases m <;> rfl
    · have hc : ¬ F i j = 2 := by simpa using hc
      have hv : F i j = 0 ∨ F i j = 1 := by omega
      cases f with
      | true =>
        simp
        refine fin _ ?_
        rcases hv with e | e <;> rw [e] <;> cases m <;> rfl
      | false =>
        simp
        refine fin _ ?_
        rcases hv with e | e <;> rw [e] <;> cases m <;> rfl
  · have h : ¬ k' = k := by
      have : ¬ (k' : Int) = k := by simpa using h
      omega
    simpa using h1 h
def leP (p q : Pr) : Bool := decide (p.1 < q.1 ∨ (p.1 = q.1 ∧ p.2 ≤ q.2))
def a2 (a : Arc) : Pr := (a.1, a.2.1)
theorem mem_arcs {F : Mt} {a : Arc} : a ∈ arcsA F ↔ a.1 < 3 ∧ a.2.1 < 3 ∧ 0 < F a.1 a.2.1 ∧ a.2.2 = (F a.1 a.2.1 == 2) := by
  simp only [arcsA, rowA, List.mem_flatMap, cellA]
  constructor
  · rintro ⟨i, hi, j, hj, h⟩
    split at h
    · rename_i hF
      simp at h
      subst h
      simp at hi hj
      exact ⟨by simp; omega, by simp; omega, hF, rfl⟩
    · simp at h
  · rintro ⟨h1, h2, h3, h4⟩
    refine ⟨a.1, by simp; omega, a.2.1, by simp; omega, ?_⟩
    rw [if_pos h3]
    obtain ⟨i, j, f⟩ := a
    simp at h4 ⊢
    exact h4
theorem pairs_srt {F : Mt} : ((arcsA F).map a2).Pairwise (fun p q => p.1 < q.1 ∨ (p.1 = q.1 ∧ p.2 < q.2)) := by
  have sc : ∀ i j : Nat, ((cellA F i j).map a2).Sublist [(i, j)] := fun i j => by unfold cellA; split <;> simp [a2]
  have sr : ∀ i : Nat, ((rowA F i).map a2).Sublist [(i, 0), (i, 1), (i, 2)] := fun i => by
    have h := (sc i 0).append ((sc i 1).append (sc i 2))
    simpa [rowA] using h
  have h := (sr 0).append ((sr 1).append (sr 2))
  refine List.Pairwise.sublist (l₂ := [(0, 0), (0, 1), (0, 2), (1, 0), (1, 1), (1, 2), (2, 0), (2, 1), (2, 2)]) (by simpa [arcsA] using h) (by decide)
theorem sort_ps {F : Mt} {ps : List Pr} (h : Pls F ps) : ps.mergeSort leP = (arcsA F).map a2 := by
  have hs := pairs_srt (F := F)
  have nd : ((arcsA F).map a2).Nodup := hs.imp fun {a b} h e => by subst e; omega
  refine List.Perm.eq_of_pairwise (le := fun p q => leP p q = true) (fun a b _ _ h1 h2 => ?_) (List.pairwise_mergeSort (fun a b c h1 h2 => ?_) (fun a b => ?_) ps) (hs.imp fun {a b} h => ?_) ((List.mergeSort_perm ps leP).trans ((List.perm_ext_iff_of_nodup h.nd nd).mpr fun p => ?_))
  · simp only [leP, decide_eq_true_eq] at h1 h2
    exact Prod.ext (by omega) (by omega)
  · simp only [leP, decide_eq_true_eq] at h1 h2 ⊢
    omega
  · simp only [leP, Bool.or_eq_true, decide_eq_true_eq]
    omega
  · simp only [leP, decide_eq_true_eq]
    omega
  · rw [h.mem, List.mem_map]
    constructor
    · rintro ⟨h1, h2, h3⟩
      exact ⟨(p.1, p.2, F p.1 p.2 == 2), mem_arcs.mpr ⟨h1, h2, h3, rfl⟩, rfl⟩
    · rintro ⟨a, ha, rfl⟩
      obtain ⟨h1, h2, h3, _⟩ := mem_arcs.mp ha
      exact ⟨h1, h2, h3⟩
def pQ (p : Pr) : D := .tup [.int p.1, .int p.2]
def pP (p : Pr) : PyData := .tuple [.int p.1, .int p.2]
theorem dat_pQ {s : S} {n : Nat} (p : Pr) : dat s (n + 1) (pQ p) = some (pP p) := by
  unfold pQ
  rw [dat_tup, dats_cons dat_int (dats_cons dat_int dats_nil)]
  rfl
theorem enc_pQ {s : S} (p : Pr) : enc s (pQ p) = pP p := by unfold enc; rw [dat_pQ]; rfl
theorem datsP {s : S} {n : Nat} : ∀ ps : List Pr, dats s (n + 1) (ps.map pQ) = some (ps.map pP)
  | [] => by simp
  | p :: ps => dats_cons (dat_pQ p) (datsP ps)
theorem sortOk_ps {s : S} {ps : List Pr} (h : ps.length ≤ 9) : sortOk s (ps.map pQ) = true := by
  unfold sortOk
  have e : (ps.map pQ).map (enc s) = ps.map pP := by
    rw [List.map_map]
    exact List.map_congr_left fun p _ => enc_pQ p
  rw [datsP, e]
  have h1 : sz (ps.map pQ).length = true := sz_lit (by simp; omega)
  rw [h1]
  simp [List.all_map, sortKind, pP, PySem.W.alike, PySem.W.alikeAll]
theorem sortD_ps {s : S} {ps : List Pr} : sortD s (ps.map pQ) = (ps.mergeSort leP).map pQ := by
  unfold sortD
  refine (List.map_mergeSort fun a _ b _ => ?_).symm
  have e := congrFun (congrFun (PySem.W.dataLe_ii (β := Pr) (fun p => (p.1 : Int)) (fun p => (p.2 : Int))) a) b
  have e2 : PySem.W.dataLe false (enc s) (pQ a) (pQ b) = PySem.W.dataLe false (fun p : Pr => .tuple [.int (p.1 : Int), .int (p.2 : Int)]) a b := by
    simp only [PySem.W.dataLe_eq, enc_pQ, pP]
  rw [e2, e]
  unfold leP
  by_cases h : a.1 < b.1 ∨ (a.1 = b.1 ∧ a.2 ≤ b.2)
  · rw [decide_eq_true h, decide_eq_true (by omega)]
  · rw [decide_eq_false h, decide_eq_false (by omega)]
end P1
namespace Fc
open PySem
theorem w_lcL {D0 n : Nat} {dsA : List D} {vs : List Nat} {g : G} {t : T} {e : E} {σ : Fc.Env} (I : List D → List D → S → Prop) (hk : ∀ r acc s, I r acc s → s[n]? = some (.lst dsA)) : ∀ (k i : Nat) (acc : List D) {s : S}, dsA.length = i + k → I (dsA.drop i) acc s → s[D0]? = some (.lst acc) →
    (∀ d r acc s, I (d :: r) acc s → s[D0]? = some (.lst acc) → ∃ σ1, g d (wipe σ vs) s = some σ1 ∧ wE (t σ1 s) (fun c s1 => if c = true then wE (e σ1 s1) (fun y s2 => s2[D0]? = some (.lst acc) ∧ acc.length < 16777216 ∧ I r (acc ++ [y]) (s2.set D0 (.lst (acc ++ [y])))) (fun _ _ _ => False) else s1[D0]? = some (.lst acc) ∧ I r acc s1) (fun _ _ _ => False)) →
    ∃ s' acc', lcL D0 n vs g t e k i σ s = some s' ∧ s'[D0]? = some (.lst acc') ∧ I [] acc' s'
  | 0, i, acc, s, hl, h, hD, _ => by
    have e1 := hk _ _ _ h
    rw [List.drop_eq_nil_of_le (by omega)] at h
    refine ⟨s, acc, ?_, hD, h⟩
    unfold lcL lstAt
    rw [e1]
    simp [hl]
  | k + 1, i, acc, s, hl, h, hD, hs => by
    with_unfolding_all
      have e1 := hk _ _ _ h
      have hi : i < dsA.length := by omega
      rw [List.drop_eq_getElem_cons hi] at h
      obtain ⟨σ1, h1, h2⟩ := hs _ _ acc s h hD
      unfold lcL lstAt
      rw [e1]
      dsimp only
      rw [if_pos (by omega), List.getElem?_eq_getElem hi]
      dsimp only
      rw [h1]
      dsimp only
      cases ht : t σ1 s with
      | none => rw [ht] at h2; exact h2.elim
      | some q =>
        rw [ht] at h2
        cases q with
        | exc c fs s' => exact h2.elim
        | ok c s1 =>
          cases c with
          | false =>
            simp only [w_some, Bool.false_eq_true, if_false] at h2
            exact w_lcL I hk k (i + 1) acc (by omega) h2.2 h2.1 hs
          | true =>
            simp only [w_some, if_true] at h2
            dsimp only
            cases he : e σ1 s1 with
            | none => rw [he] at h2; exact h2.elim
            | some q =>
              rw [he] at h2
              cases q with
              | exc c fs s' => exact h2.elim
              | ok y s2 =>
                obtain ⟨h3, h4, h5⟩ := w_some.mp h2
                have hl' : D0 < s2.length := (List.getElem?_eq_some_iff.mp h3).1
                dsimp only
                unfold lcStep
                rw [h3]
                dsimp only
                rw [if_pos h4]
                exact w_lcL I hk k (i + 1) (acc ++ [y]) (by omega) h5 (by rw [List.getElem?_set_self hl']) hs
/-- a comprehension over a list -/
theorem w_lcPL {s0 : S} {n : Nat} {vs : List Nat} {g : G} {t : T} {e : E} {ds : List D} {σ : Fc.Env} {Q : D → S → Prop} {X : Xc} (f : D → Option D) (hn : s0[n]? = some (.lst ds)) (hl : ds.length < 16777216)
    (hs : ∀ d ∈ ds, ∀ s, Pf s0 s → ∃ σ1, g d (wipe σ vs) s = some σ1 ∧ wE (t σ1 s) (fun c s1 => Pf s s1 ∧ if c = true then wE (e σ1 s1) (fun y s2 => Pf s1 s2 ∧ f d = some y) (fun _ _ _ => False) else f d = none) (fun _ _ _ => False))
    (hQ : ∀ s', Pf s0 s' → s'[s0.length]? = some (.lst (ds.filterMap f)) → Q (.ref s0.length) s') : wE (lcNew s0 fun D0 s2 => lcL D0 n vs g t e ds.length 0 σ s2) Q X := by
  rw [w_lcNew]
  have pset : ∀ {s : S} {o : O}, Pf s0 s → Pf s0 (s.set s0.length o) := fun {s o} h n w hw => by
    have := lt_of_get hw
    rw [set_ne (by omega)]
    exact h n w hw
  obtain ⟨s', acc', h1, h2, bs, h3, h4, h5⟩ := w_lcL (D0 := s0.length) (n := n) (dsA := ds) (vs := vs) (g := g) (t := t) (e := e) (σ := σ) (fun r acc s => ∃ bs, ds = bs ++ r ∧ acc = bs.filterMap f ∧ Pf s0 s) (fun r acc s ⟨_, _, _, pf⟩ => pf _ _ hn) ds.length 0 [] (s := s0 ++ [.lst []]) (by omega) ⟨[], rfl, rfl, Pf.app⟩ get_new (by
    rintro d r acc s ⟨bs, e1, rfl, pf⟩ hD
    obtain ⟨σ1, g1, g2⟩ := hs d (by rw [e1]; simp) s pf
    refine ⟨σ1, g1, wE_mono g2 fun c s1 ⟨p1, h⟩ => ?_⟩
    cases c with
    | false =>
      simp only [Bool.false_eq_true, if_false] at h ⊢
      exact ⟨p1 _ _ hD, bs ++ [d], by simp [e1], by simp [h], pf.trans p1⟩
    | true =>
      simp only [if_true] at h ⊢
      refine wE_mono h fun y s2 ⟨p2, h⟩ => ⟨p2 _ _ (p1 _ _ hD), ?_, bs ++ [d], by simp [e1], by simp [h], pset ((pf.trans p1).trans p2)⟩
      have : (bs.filterMap f).length ≤ bs.length := List.length_filterMap_le ..
      have : bs.length ≤ ds.length := by rw [e1]; simp
      omega)
  refine ⟨s', h1, hQ s' h5 ?_⟩
  rw [h2, h4]
  simp at h3
  rw [h3]
/-- over a dict: locked meanwhile -/
theorem w_lcDict {s : S} {n : Nat} {o : O} {f : S → Option (Res D)} {Q : D → S → Prop} {X : Xc} (h : s[n]? = some o) (hn : ∀ o', o ≠ .lck o') : wE (lcDict n s f) Q X ↔ wE (f (s.set n (.lck o))) (fun d s' => Q d (s'.set n o)) X := by
  with_unfolding_all
    unfold lcDict
    rw [h]
    cases o with
    | lck o' => exact absurd rfl (hn o')
    | _ =>
      dsimp only
      split
      · rename_i e; rw [e]; rfl
      · rename_i r e
        cases hr : f (s.set n _) with
        | none => rfl
        | some q =>
          cases q with
          | ok d s' => exact absurd hr (e d s')
          | exc c fs s' => rfl
/-- a dict locked, something made, the dict open again -/
theorem Pf.unlock {s s' : S} {n : Nat} {o o' : O} (h : s[n]? = some o) (p : Pf (s.set n o') s') : Pf s (s'.set n o) := fun m w hw => by
  have hl : n < s.length := lt_of_get h
  by_cases e : n = m
  · subst e
    rw [h] at hw; cases hw
    have : n < s'.length := by have := p.len; simp at this; omega
    rw [set_get this]
  · rw [set_ne e]
    exact p _ _ (by rw [set_ne e]; exact hw)
end Fc
namespace P1
open PySem Fc
def pOf : D → Option D
  | .tup [.int i, .int j] => some (.tup [.int i, .int j])
  | _ => none
theorem fm_map2 {α β γ : Type} (g : α → β) (f : β → Option γ) (k : α → γ) : ∀ l : List α, (∀ a ∈ l, f (g a) = some (k a)) → (l.map g).filterMap f = l.map k
  | [], _ => rfl
  | a :: l, h => by rw [List.map_cons, List.filterMap_cons, h a (List.mem_cons_self ..), List.map_cons, fm_map2 g f k l fun b hb => h b (List.mem_cons_of_mem _ hb)]
/-- the arcs of a dict of places -/
theorem sp_arcs_of {s : S} {n : Nat} {F : Mt} {ps : List Pr} {X : Xc} {Q : D → S → Prop} (hn : s[n]? = some (.dT (kvO F ps))) (hp : Pls F ps) (hQ : ∀ s', Pf s s' → Q (.tup ((arcsA F).map aD)) s') : wE (d_arcs_of [.ref n] s) Q X := by
  unfold d_arcs_of
  refine (v_def (by rfl)).mpr ?_
  unfold b_arcs_of
  have hl := hp.len
  have hal := arcs_len (M := F)
  have src1 : srcOf .seq (.ref n) s = some (.dict n (ps.map pQ)) := by
    simp [srcOf, hn, unl, dSrc, kvO, List.map_map]
    intro a b _
    simp [kD, dOf, pQ]
  simp
  rw [src1]
  simp only [onO_some]
  rw [w_lcDict hn (fun o' z => by cases z)]
  refine w_lcP pOf (by simp; omega) (fun d hd s' pf => ?_) fun s1 p1 h1 => ?_
  · obtain ⟨p, hp', rfl⟩ := List.mem_map.mp hd
    refine ⟨_, rfl, ?_⟩
    simp [Fc.wipe, pQ, pOf]
    exact Pf.refl
  · rw [fm_map pQ pOf pQ (fun p => rfl)] at h1
    have hlt := lt_of_get hn
    have q1 : Pf s (s1.set n (.dT (kvO F ps))) := Pf.unlock hn p1
    have g1 : (s1.set n (.dT (kvO F ps)))[(s.set n (.lck (.dT (kvO F ps)))).length]? = some (.lst (ps.map pQ)) := by
      rw [set_ne (by simp; omega)]; exact h1
    generalize s1.set n (.dT (kvO F ps)) = s2 at q1 g1
    generalize (s.set n (.lck (.dT (kvO F ps)))).length = m at g1
    have e5 : fSorted [.ref m] s2 = new (.lst (((arcsA F).map a2).map pQ)) s2 := by
      unfold fSorted
      simp only [g1, sortOk_ps hl, if_true, sortD_ps, sort_ps hp]
    rw [e5, v_new]
    generalize hL : ((arcsA F).map a2).map pQ = L
    have hLl : L.length < 16777216 := by rw [← hL]; simp; omega
    have src2 : srcOf .seq (.ref s2.length) (s2 ++ [.lst L]) = some (.list s2.length L.length) := by simp [srcOf]
    rw [src2]
    simp only [onO_some]
    let f : D → Option D := fun d => match d with
      | .tup [.int i, .int j] => some (.tup [.int i, .int j, .bl (F i.toNat j.toNat == 2)])
      | _ => none
    refine w_lcPL (n := s2.length) (ds := L) f get_new hLl (fun d hd s' pf => ?_) fun s3 p3 h3 => ?_
    · rw [← hL] at hd
      obtain ⟨p, hp', rfl⟩ := List.mem_map.mp hd
      obtain ⟨a, ha, rfl⟩ := List.mem_map.mp hp'
      obtain ⟨k1, k2, k3, k4⟩ := mem_arcs.mp ha
      have en := pf _ _ (Pf.app (t := [.lst L]) _ _ (q1 _ _ hn))
      have e6 : atD s' (.ref n) (.tup [.int a.1, .int a.2.1]) = some (.bl (F a.1 a.2.1 == 2)) := by
        have g := kget_kvO (F := F) (p := (a.1, a.2.1)) (ps := ps)
        rw [if_pos ((hp.mem _).mpr ⟨k1, k2, k3⟩)] at g
        unfold kD at g
        simp [atD, en, unl, dget, keysOf, keyOf]
        rw [g]
      refine ⟨_, rfl, ?_⟩
      simp [Fc.wipe, pQ, a2]
      refine ⟨Pf.refl, ?_⟩
      rw [e6]
      simp [f]
      exact Pf.refl
    · have ef : L.filterMap f = (arcsA F).map aD := by
        rw [← hL, List.map_map]
        refine fm_map2 _ f aD _ fun a ha => ?_
        obtain ⟨k1, k2, k3, k4⟩ := mem_arcs.mp ha
        simp [f, pQ, a2, aD, k4]
      rw [ef] at h3
      rw [o_tuple_l, lstAt_of h3]
      exact hQ _ (q1.trans (Pf.app.trans p3))
end P1
namespace P1
open PySem Fc
def stepJ (a b : Arc) (F : Mt) : Mt := if b.1 = a.2.1 then updM F a.1 b.2.1 (max (F a.1 b.2.1) (1 + (a.2.2 || b.2.2).toNat)) else F
def inJ (F : Mt) (a : Arc) (Bs : List Arc) : Mt := Bs.foldl (fun F b => stepJ a b F) F
def outJ (F : Mt) (As Bs : List Arc) : Mt := As.foldl (fun F a => inJ F a Bs) F
/-- the dict in the midst: F, its places -/
structure DJ (F : Mt) (ps : List Pr) : Prop where
  pl : Pls F ps
  bd : Bd2 F
  z : ∀ a b, ¬ (a < 3 ∧ b < 3) → F a b = 0
theorem DJ.out {F : Mt} {ps : List Pr} (h : DJ F ps) : ∀ a b, (a, b) ∉ ps → F a b = 0 := fun a b hn => by
  by_cases k : a < 3 ∧ b < 3
  · have : ¬ 0 < F a b := fun w => hn ((h.pl.mem (a, b)).mpr ⟨k.1, k.2, w⟩)
    omega
  · exact h.z a b k
theorem DJ.put {F : Mt} {ps ps' : List Pr} {i j : Nat} {f : Bool} (h : DJ F ps) (hi : i < 3) (hj : j < 3) (k : Pls (updM F i j (max (F i j) (1 + f.toNat))) ps') : DJ (updM F i j (max (F i j) (1 + f.toNat))) ps' := by
  refine ⟨k, fun a b => ?_, fun a b hab => ?_⟩
  · unfold updM
    have := h.bd i j
    have := h.bd a b
    cases f <;> simp <;> split <;> omega
  · unfold updM
    rw [if_neg (by rintro ⟨rfl, rfl⟩; exact hab ⟨hi, hj⟩)]
    exact h.z a b hab
theorem sp_joined {s : S} {b1 e1 b2 e2 : Str} {M N : Mt} {X : Xc} {Q : D → S → Prop} (hQ : ∀ s', Pf s s' → Q (tabD b1 e2 (outJ (fun _ _ => 0) (arcsA M) (arcsA N))) s') : wE (d_joined [tabD b1 e1 M, tabD b2 e2 N] s) Q X := by
  unfold d_joined
  refine (v_def (by rfl)).mpr ?_
  unfold b_joined
  have hM := in3_arcs (M := M)
  have hN := in3_arcs (M := N)
  have eM : tabD b1 e1 M = .tup [.str b1, .str e1, .tup ((arcsA M).map aD)] := rfl
  have eN' : tabD b2 e2 N = .tup [.str b2, .str e2, .tup ((arcsA N).map aD)] := rfl
  generalize hdM : tabD b1 e1 M = dM at *
  generalize hdN : tabD b2 e2 N = dN at *
  generalize hA : arcsA M = As at *
  generalize hB : arcsA N = Bs at *
  have z0 : DJ (fun _ _ => 0) [] := ⟨⟨List.nodup_nil, fun p => by simp⟩, fun _ _ => by omega, fun _ _ _ => rfl⟩
  have at1 : ∀ s', atD s' dM (.int 2) = some (.tup (As.map aD)) := fun s' => by rw [eM]; simp
  have at2 : ∀ s', atD s' dN (.int 2) = some (.tup (Bs.map aD)) := fun s' => by rw [eN']; simp
  simp
  rw [at1]
  simp [srcOf]
  refine wC_forV (fun (ds : List D) (σ : Fc.Env) (s' : S) => ∃ (A1 A2 : List Arc) (F : Mt) (ps : List Pr) (t1 t2 t3 t4 t5 t6 : Option D), As = A1 ++ A2 ∧ ds = A2.map aD ∧ σ = [some dM, some dN, some (.ref s.length), t1, t2, t3, t4, t5, t6] ∧ s' = s ++ [.dT (kvO F ps)] ∧ DJ F ps ∧ F = outJ (fun _ _ => 0) A1 Bs) _ ⟨[], As, _, [], none, none, none, none, none, none, rfl, rfl, rfl, rfl, z0, rfl⟩ ?_ ?_
  · rintro d r σ s' ⟨A1, A2, F, ps, t1, t2, t3, t4, t5, t6, ea, ed, rfl, rfl, dj, eF⟩
    cases A2 with
    | nil => cases ed
    | cons a A2 =>
      cases ed
      have ha := hM a (by rw [ea]; simp)
      refine ⟨_, rfl, ?_⟩
      simp
      rw [at2]
      simp [srcOf]
      refine wC_forV (fun (ds : List D) (σ : Fc.Env) (s' : S) => ∃ (B1 B2 : List Arc) (F' : Mt) (ps : List Pr) (t4 t5 t6 : Option D), Bs = B1 ++ B2 ∧ ds = B2.map aD ∧ σ = [some dM, some dN, some (.ref s.length), some (.int a.1), some (.int a.2.1), some (.bl a.2.2), t4, t5, t6] ∧ s' = s ++ [.dT (kvO F' ps)] ∧ DJ F' ps ∧ F' = inJ F a B1) _ ⟨[], Bs, F, ps, t4, t5, t6, rfl, rfl, rfl, rfl, dj, rfl⟩ ?_ ?_
      · rintro d r' σ s' ⟨B1, B2, F', ps', t4, t5, t6, eb, ed, rfl, rfl, dj', eF'⟩
        cases B2 with
        | nil => cases ed
        | cons b B2 =>
          cases ed
          have hb := hN b (by rw [eb]; simp)
          refine ⟨_, rfl, st_join (F := F') (ps := ps') get_new dj'.pl ha.1 hb.2 dj'.bd dj'.out (fun h => ?_) fun h ps2 k => ?_⟩
          · refine ⟨B1 ++ [b], B2, F', ps', _, _, _, by simp [eb], rfl, rfl, rfl, dj', ?_⟩
            rw [eF']
            simp only [inJ, List.foldl_append, List.foldl_cons, List.foldl_nil]
            exact (if_neg h).symm
          · refine ⟨B1 ++ [b], B2, _, ps2, _, _, _, by simp [eb], rfl, rfl, by simp, dj'.put ha.1 hb.2 k, ?_⟩
            rw [eF']
            simp only [inJ, List.foldl_append, List.foldl_cons, List.foldl_nil]
            exact (if_pos h).symm
      · rintro σ s' ⟨B1, B2, F', ps', t4, t5, t6, eb, ed, rfl, rfl, dj', eF'⟩
        cases B2 with
        | cons b B2 => cases ed
        | nil =>
          simp at eb
          subst eb
          refine ⟨A1 ++ [a], A2, by simp [ea], rfl, ?_⟩
          refine ⟨⟨_, _, _, _, _, _, rfl⟩, F', ps', rfl, dj', ?_⟩
          rw [eF', eF]
          simp [outJ]
  · rintro σ s' ⟨A1, A2, F, ps, t1, t2, t3, t4, t5, t6, ea, ed, rfl, rfl, dj, eF⟩
    cases A2 with
    | cons a A2 => cases ed
    | nil =>
      simp at ea
      subst ea
      have g0 : ∀ s', atD s' dM (.int 0) = some (.str b1) := fun s' => by rw [eM]; simp
      have g1 : ∀ s', atD s' dN (.int 1) = some (.str e2) := fun s' => by rw [eN']; simp
      simp
      rw [g0]
      simp
      rw [g1]
      simp
      refine sp_arcs_of get_new dj.pl fun s2 p2 => ?_
      have h := hQ s2 (Pf.app.trans p2)
      rw [← eF] at h
      exact h
theorem eqD_str {s : S} {x y : Str} (h1 : PyData.strOk x = true) (h2 : PyData.strOk y = true) : eqD s (.str x) (.str y) = some (x == y) := by
  rw [eq_of (dat_str) (dat_str) (by simp [SeqAt.shaped, PyData.canLay0, PyData.depth, h1]) (by simp [SeqAt.shaped, PyData.canLay0, PyData.depth, h2])]
  simp [PyData.eqv]
def mulJ (M N : Mt) : Mt := outJ (fun _ _ => 0) (arcsA M) (arcsA N)
theorem tab_0 {s : S} {b e : Str} {M : Mt} : atD s (tabD b e M) (.int 0) = some (.str b) := by simp [tabD]
theorem tab_1 {s : S} {b e : Str} {M : Mt} : atD s (tabD b e M) (.int 1) = some (.str e) := by simp [tabD]
theorem sp_product {s : S} {b m e : Str} {M N : Mt} {X : Xc} {Q : D → S → Prop} (hb : NameOk b) (hm : NameOk m) (he : NameOk e) (ho : PyData.strOk m = true) (hQ : ∀ s', Pf s s' → Q (tabD b e (mulJ M N)) s') : wE (d_product [tabD b m M, tabD m e N] s) Q X := by
  unfold d_product
  refine (v_def (by rfl)).mpr ?_
  unfold b_product
  generalize hM : tabD b m M = dM
  generalize hN : tabD m e N = dN
  simp
  rw [← hM]
  refine sp_check_table hb hm fun s1 p1 => ?_
  rw [← hN]
  refine sp_check_table hm he fun s2 p2 => ?_
  rw [tab_1]
  simp only [onO_some]
  rw [tab_0]
  simp only [onO_some]
  rw [eqD_str ho ho]
  simp
  refine sp_joined fun s3 p3 => hQ _ (p1.trans (p2.trans p3))
end P1
namespace P1
open PySem Fc
def sup : List Nat → Nat
  | [] => 0
  | a :: r => max a (sup r)
theorem sup_app : ∀ l m : List Nat, sup (l ++ m) = max (sup l) (sup m)
  | [], m => by simp [sup]
  | a :: l, m => by
    simp only [List.cons_append, sup, sup_app l m]
    omega
def vl (a b : Arc) (i j : Nat) : Nat := if b.1 = a.2.1 ∧ a.1 = i ∧ b.2.1 = j then 1 + (a.2.2 || b.2.2).toNat else 0
theorem stepJ_at {a b : Arc} {F : Mt} {i j : Nat} : stepJ a b F i j = max (F i j) (vl a b i j) := by
  unfold stepJ vl
  by_cases h : b.1 = a.2.1
  · rw [if_pos h]
    unfold updM
    by_cases h2 : i = a.1 ∧ j = b.2.1
    · obtain ⟨rfl, rfl⟩ := h2
      simp [h]
    · rw [if_neg h2, if_neg (fun z => h2 ⟨z.2.1.symm, z.2.2.symm⟩)]
      omega
  · rw [if_neg h, if_neg (fun z => h z.1)]
    omega
theorem inJ_at {a : Arc} {i j : Nat} : ∀ {Bs : List Arc} {F : Mt}, inJ F a Bs i j = max (F i j) (sup (Bs.map fun b => vl a b i j))
  | [], F => by simp [inJ, sup]
  | b :: Bs, F => by
    have ih := inJ_at (a := a) (i := i) (j := j) (Bs := Bs) (F := stepJ a b F)
    show inJ (stepJ a b F) a Bs i j = _
    rw [ih, stepJ_at]
    simp only [List.map_cons, sup]
    omega
theorem outJ_at {i j : Nat} {Bs : List Arc} : ∀ {As : List Arc} {F : Mt}, outJ F As Bs i j = max (F i j) (sup (As.map fun a => sup (Bs.map fun b => vl a b i j)))
  | [], F => by simp [outJ, sup]
  | a :: As, F => by
    have ih := outJ_at (i := i) (j := j) (Bs := Bs) (As := As) (F := inJ F a Bs)
    show outJ (inJ F a Bs) As Bs i j = _
    rw [ih, inJ_at]
    simp only [List.map_cons, sup]
    omega
def cel (M : Mt) (g : Arc → Nat) (i k : Nat) : Nat := if 0 < M i k then g (i, k, M i k == 2) else 0
theorem sup_cell {M : Mt} {g : Arc → Nat} {i k : Nat} : sup ((cellA M i k).map g) = cel M g i k := by
  unfold cellA cel
  split <;> simp [sup]
theorem sup_row {M : Mt} {g : Arc → Nat} {i : Nat} : sup ((rowA M i).map g) = max (cel M g i 0) (max (cel M g i 1) (cel M g i 2)) := by
  simp only [rowA, List.flatMap_cons, List.flatMap_nil, List.append_nil, List.map_append, sup_app, sup_cell]
theorem sup_arcs {M : Mt} {g : Arc → Nat} : sup ((arcsA M).map g) = max (max (cel M g 0 0) (max (cel M g 0 1) (cel M g 0 2))) (max (max (cel M g 1 0) (max (cel M g 1 1) (cel M g 1 2))) (max (cel M g 2 0) (max (cel M g 2 1) (cel M g 2 2)))) := by
  simp only [arcsA, List.flatMap_cons, List.flatMap_nil, List.append_nil, List.map_append, sup_app, sup_row]
def tm (x y : Nat) : Nat := if 0 < x ∧ 0 < y then max x y else 0
def mulM (M N : Mt) : Mt := fun i j => if i < 3 ∧ j < 3 then max (tm (M i 0) (N 0 j)) (max (tm (M i 1) (N 1 j)) (tm (M i 2) (N 2 j))) else 0
theorem vl_tm {x y : Nat} (hx : x ≤ 2) (hy : y ≤ 2) : (if 0 < x then (if 0 < y then 1 + ((x == 2) || (y == 2)).toNat else 0) else 0) = tm x y := by
  match x, y, hx, hy with
  | 0, _, _, _ => simp [tm]
  | 1, 0, _, _ => rfl
  | 1, 1, _, _ => rfl
  | 1, 2, _, _ => rfl
  | 2, 0, _, _ => rfl
  | 2, 1, _, _ => rfl
  | 2, 2, _, _ => rfl
theorem mulJ_eq {M N : Mt} (hM : Bd2 M) (hN : Bd2 N) : mulJ M N = mulM M N := by
  funext i j
  unfold mulJ
  rw [outJ_at, sup_arcs]
  simp only [sup_arcs]
  have t : ∀ k, (if 0 < M i k then (if 0 < N k j then 1 + ((M i k == 2) || (N k j == 2)).toNat else 0) else 0) = tm (M i k) (N k j) := fun k => vl_tm (hM i k) (hN k j)
  unfold mulM
  have hi : i = 0 ∨ i = 1 ∨ i = 2 ∨ ¬ i < 3 := by omega
  have hj : j = 0 ∨ j = 1 ∨ j = 2 ∨ ¬ j < 3 := by omega
  have t0 := t 0
  have t1 := t 1
  have t2 := t 2
  rcases hi with rfl | rfl | rfl | hi <;> rcases hj with rfl | rfl | rfl | hj
  all_goals first
    | (rw [if_pos (by omega), ← t0, ← t1, ← t2]; simp [cel, vl]; done)
    | (rw [if_neg (by omega)]
       have a0 : ¬ 0 = j := by omega
       have a1 : ¬ 1 = j := by omega
       have a2 : ¬ 2 = j := by omega
       simp [cel, vl, a0, a1, a2]; done)
    | (rw [if_neg (by omega)]
       have a0 : ¬ 0 = i := by omega
       have a1 : ¬ 1 = i := by omega
       have a2 : ¬ 2 = i := by omega
       simp [cel, vl, a0, a1, a2]; done)
end P1
namespace P1
open PySem Fc
theorem tm_assoc (x y z : Nat) : tm (tm x y) z = tm x (tm y z) := by
  unfold tm
  (repeat' split) <;> omega
theorem tm_comm (x y : Nat) : tm x y = tm y x := by
  unfold tm
  (repeat' split) <;> omega
theorem tm_maxl (x y z : Nat) : tm (max x y) z = max (tm x z) (tm y z) := by
  unfold tm
  (repeat' split) <;> omega
theorem tm_maxr (x y z : Nat) : tm z (max x y) = max (tm z x) (tm z y) := by
  rw [tm_comm, tm_maxl, tm_comm x, tm_comm y]
theorem tm_le {x y x' y' : Nat} (h1 : x ≤ x') (h2 : y ≤ y') : tm x y ≤ tm x' y' := by
  unfold tm
  (repeat' split) <;> omega
theorem tm_bd {x y n : Nat} (h1 : x ≤ n) (h2 : y ≤ n) : tm x y ≤ n := by
  unfold tm
  split <;> omega
theorem mul_at {M N : Mt} {i j : Nat} (hi : i < 3) (hj : j < 3) : mulM M N i j = max (tm (M i 0) (N 0 j)) (max (tm (M i 1) (N 1 j)) (tm (M i 2) (N 2 j))) := if_pos ⟨hi, hj⟩
theorem mul_out {M N : Mt} {i j : Nat} (h : ¬ (i < 3 ∧ j < 3)) : mulM M N i j = 0 := if_neg h
theorem mul_assoc (M N P : Mt) : mulM (mulM M N) P = mulM M (mulM N P) := by
  funext i j
  by_cases h : i < 3 ∧ j < 3
  · obtain ⟨hi, hj⟩ := h
    rw [mul_at hi hj, mul_at hi hj]
    rw [mul_at hi (show 0 < 3 by omega), mul_at hi (show 1 < 3 by omega), mul_at hi (show 2 < 3 by omega), mul_at (show 0 < 3 by omega) hj, mul_at (show 1 < 3 by omega) hj, mul_at (show 2 < 3 by omega) hj]
    simp only [tm_maxl, tm_maxr, tm_assoc]
    ac_rfl
  · rw [mul_out h, mul_out h]
theorem mul_bd {M N : Mt} (hM : Bd2 M) (hN : Bd2 N) : Bd2 (mulM M N) := by
  intro i j
  by_cases h : i < 3 ∧ j < 3
  · rw [mul_at h.1 h.2]
    have := tm_bd (hM i 0) (hN 0 j)
    have := tm_bd (hM i 1) (hN 1 j)
    have := tm_bd (hM i 2) (hN 2 j)
    omega
  · rw [mul_out h]; omega
/-- pw M n: M by itself n + 1 times -/
def pw (M : Mt) : Nat → Mt
  | 0 => M
  | n + 1 => mulM (pw M n) M
theorem pw_add (M : Mt) (m : Nat) : ∀ n, mulM (pw M m) (pw M n) = pw M (m + n + 1)
  | 0 => rfl
  | n + 1 => by
    show mulM (pw M m) (mulM (pw M n) M) = mulM (pw M (m + n + 1)) M
    rw [← mul_assoc, pw_add M m n]
theorem pw_bd {M : Mt} (h : Bd2 M) : ∀ n, Bd2 (pw M n)
  | 0 => h
  | n + 1 => mul_bd (pw_bd h n) h
end P1
namespace P1
open PySem Fc
def dg (M : Mt) : Bool := M 0 0 == 2 || M 1 1 == 2 || M 2 2 == 2
def hf (M : Mt) : Bool := dg M || (dg (pw M 1) || dg (pw M 2))
theorem dg_iff {M : Mt} : dg M = true ↔ ∃ i, i < 3 ∧ M i i = 2 := by
  unfold dg
  simp only [Bool.or_eq_true, beq_iff_eq]
  constructor
  · rintro ((h | h) | h)
    · exact ⟨0, by omega, h⟩
    · exact ⟨1, by omega, h⟩
    · exact ⟨2, by omega, h⟩
  · rintro ⟨i, hi, h⟩
    match i, hi with
    | 0, _ => exact .inl (.inl h)
    | 1, _ => exact .inl (.inr h)
    | 2, _ => exact .inr h
theorem tm_pos {x y : Nat} : 0 < tm x y ↔ 0 < x ∧ 0 < y := by
  unfold tm
  split
  · omega
  · omega
theorem tm_2 {x y : Nat} (h : tm x y = 2) : 0 < x ∧ 0 < y ∧ (x = 2 ∨ y = 2) := by
  unfold tm at h
  split at h
  · omega
  · omega
theorem tm_le_mul {M N : Mt} {i j k : Nat} (hi : i < 3) (hj : j < 3) (hk : k < 3) : tm (M i k) (N k j) ≤ mulM M N i j := by
  rw [mul_at hi hj]
  match k, hk with
  | 0, _ => omega
  | 1, _ => omega
  | 2, _ => omega
theorem mul_ex {M N : Mt} {i j : Nat} (hi : i < 3) (hj : j < 3) : ∃ k, k < 3 ∧ mulM M N i j = tm (M i k) (N k j) := by
  rw [mul_at hi hj]
  by_cases h0 : tm (M i 1) (N 1 j) ≤ tm (M i 0) (N 0 j) ∧ tm (M i 2) (N 2 j) ≤ tm (M i 0) (N 0 j)
  · exact ⟨0, by omega, by omega⟩
  · by_cases h1 : tm (M i 2) (N 2 j) ≤ tm (M i 1) (N 1 j)
    · exact ⟨1, by omega, by omega⟩
    · exact ⟨2, by omega, by omega⟩
def reach (M : Mt) (i j : Nat) : Prop := i = j ∨ ∃ m, 0 < pw M m i j
theorem reach_step {M : Mt} {i j k : Nat} (hi : i < 3) (hj : j < 3) (hk : k < 3) (h : reach M i j) (e : 0 < M j k) : reach M i k := by
  rcases h with rfl | ⟨m, h⟩
  · exact .inr ⟨0, e⟩
  · refine .inr ⟨m + 1, ?_⟩
    have := tm_le_mul (M := pw M m) (N := M) hi hk hj
    have := tm_pos.mpr ⟨h, e⟩
    show 0 < mulM (pw M m) M i k
    omega
theorem reach_trans {M : Mt} {i j k : Nat} (hi : i < 3) (hj : j < 3) (hk : k < 3) (h : reach M i j) (e : reach M j k) : reach M i k := by
  rcases h with rfl | ⟨m, h⟩
  · exact e
  · rcases e with rfl | ⟨n, e⟩
    · exact .inr ⟨m, h⟩
    · refine .inr ⟨m + n + 1, ?_⟩
      rw [← pw_add]
      have := tm_le_mul (M := pw M m) (N := pw M n) hi hk hj
      have := tm_pos.mpr ⟨h, e⟩
      omega
/-- a fall on a way -/
theorem pw_fall {M : Mt} : ∀ (n : Nat) {i j : Nat}, i < 3 → j < 3 → pw M n i j = 2 → ∃ a b, a < 3 ∧ b < 3 ∧ M a b = 2 ∧ reach M i a ∧ reach M b j
  | 0, i, j, hi, hj, h => ⟨i, j, hi, hj, h, .inl rfl, .inl rfl⟩
  | n + 1, i, j, hi, hj, h => by
    obtain ⟨k, hk, e⟩ := mul_ex (M := pw M n) (N := M) hi hj
    have h' : tm (pw M n i k) (M k j) = 2 := by rw [← e]; exact h
    obtain ⟨p1, p2, p3⟩ := tm_2 h'
    rcases p3 with p3 | p3
    · obtain ⟨a, b, ha, hb, e1, e2, e3⟩ := pw_fall n hi hk p3
      exact ⟨a, b, ha, hb, e1, e2, reach_step hb hk hj e3 p2⟩
    · exact ⟨k, j, hk, hj, p3, .inr ⟨n, p1⟩, .inl rfl⟩
theorem reach_short {M : Mt} : ∀ (m : Nat) {i j : Nat}, i < 3 → j < 3 → 0 < pw M m i j → i = j ∨ 0 < M i j ∨ ∃ k, k < 3 ∧ 0 < M i k ∧ 0 < M k j
  | 0, i, j, _, _, h => .inr (.inl h)
  | m + 1, i, j, hi, hj, h => by
    obtain ⟨k, hk, e⟩ := mul_ex (M := pw M m) (N := M) hi hj
    have h' : 0 < tm (pw M m i k) (M k j) := by rw [← e]; exact h
    obtain ⟨p1, p2⟩ := tm_pos.mp h'
    rcases reach_short m hi hk p1 with rfl | q | ⟨l, hl, q1, q2⟩
    · exact .inr (.inl p2)
    · exact .inr (.inr ⟨k, hk, q, p2⟩)
    · by_cases e1 : i = j
      · exact .inl e1
      · by_cases e2 : l = j
        · subst e2; exact .inr (.inl q1)
        · by_cases e3 : l = i
          · subst e3; exact .inr (.inr ⟨k, hk, q2, p2⟩)
          · by_cases e4 : k = i
            · subst e4; exact .inr (.inl p2)
            · by_cases e5 : k = l
              · subst e5; exact .inr (.inr ⟨k, hk, q1, p2⟩)
              · have : k = j := by omega
                subst this; exact .inr (.inr ⟨l, hl, q1, q2⟩)
theorem tm_l2 {x : Nat} (h : 0 < x) (h2 : x ≤ 2) : tm 2 x = 2 := by
  unfold tm; rw [if_pos (by omega)]; omega
theorem hf_iff {M : Mt} (hM : Bd2 M) : hf M = true ↔ ∃ n i, i < 3 ∧ pw M n i i = 2 := by
  constructor
  · intro h
    unfold hf at h
    simp only [Bool.or_eq_true, dg_iff] at h
    rcases h with ⟨i, hi, h⟩ | ⟨i, hi, h⟩ | ⟨i, hi, h⟩
    · exact ⟨0, i, hi, h⟩
    · exact ⟨1, i, hi, h⟩
    · exact ⟨2, i, hi, h⟩
  · rintro ⟨n, i, hi, h⟩
    obtain ⟨a, b, ha, hb, e, r1, r2⟩ := pw_fall n hi hi h
    have r := reach_trans hb hi ha r2 r1
    have s : b = a ∨ 0 < M b a ∨ ∃ k, k < 3 ∧ 0 < M b k ∧ 0 < M k a := by
      rcases r with r | ⟨m, r⟩
      · exact .inl r
      · exact reach_short m hb ha r
    unfold hf
    simp only [Bool.or_eq_true, dg_iff]
    rcases s with rfl | s | ⟨k, hk, s1, s2⟩
    · exact .inl ⟨b, hb, e⟩
    · refine .inr (.inl ⟨a, ha, ?_⟩)
      have h1 := tm_le_mul (M := M) (N := M) ha ha hb
      rw [e, tm_l2 s (hM b a)] at h1
      have h2 := pw_bd hM 1 a a
      have e1 : pw M 1 a a = mulM M M a a := rfl
      omega
    · refine .inr (.inr ⟨a, ha, ?_⟩)
      have h1 := tm_le_mul (M := M) (N := M) ha hk hb
      rw [e, tm_l2 s1 (hM b k)] at h1
      have h3 := pw_bd hM 1 a k
      have e1 : pw M 1 a k = mulM M M a k := rfl
      have e2 : pw M 1 a k = 2 := by omega
      have h4 := tm_le_mul (M := pw M 1) (N := M) ha ha hk
      rw [e2, tm_l2 s2 (hM k a)] at h4
      have h5 := pw_bd hM 2 a a
      have e3 : pw M 2 a a = mulM (pw M 1) M a a := rfl
      omega
theorem fold_at {i j : Nat} : ∀ {A : List Arc} {F : Mt}, foldG F A i j = max (F i j) (sup (A.map fun a => if a.1 = i ∧ a.2.1 = j then 1 + a.2.2.toNat else 0))
  | [], F => by simp [foldG, sup]
  | a :: A, F => by
    have ih := fold_at (i := i) (j := j) (A := A) (F := addG F a)
    show foldG (addG F a) A i j = _
    rw [ih]
    simp only [List.map_cons, sup]
    have : addG F a i j = max (F i j) (if a.1 = i ∧ a.2.1 = j then 1 + a.2.2.toNat else 0) := by
      unfold addG updM
      by_cases h : a.1 = i ∧ a.2.1 = j
      · rw [if_pos h, if_pos ⟨h.1.symm, h.2.symm⟩, h.1, h.2]
      · rw [if_neg h, if_neg (fun z => h ⟨z.1.symm, z.2.symm⟩)]
        omega
    omega
theorem fold_arcs {M : Mt} (hM : Bd2 M) {i j : Nat} (hi : i < 3) (hj : j < 3) : foldG (fun _ _ => 0) (arcsA M) i j = M i j := by
  rw [fold_at, sup_arcs]
  have t : ∀ k l, (if 0 < M k l then 1 + (M k l == 2).toNat else 0) = M k l := fun k l => by
    have := hM k l
    match h : M k l, this with
    | 0, _ => rfl
    | 1, _ => rfl
    | 2, _ => rfl
  have tt := t i j
  match i, hi, j, hj with
  | 0, _, 0, _ => simp [cel]; exact tt
  | 0, _, 1, _ => simp [cel]; exact tt
  | 0, _, 2, _ => simp [cel]; exact tt
  | 1, _, 0, _ => simp [cel]; exact tt
  | 1, _, 1, _ => simp [cel]; exact tt
  | 1, _, 2, _ => simp [cel]; exact tt
  | 2, _, 0, _ => simp [cel]; exact tt
  | 2, _, 1, _ => simp [cel]; exact tt
  | 2, _, 2, _ => simp [cel]; exact tt
end P1
namespace P1
open PySem Fc
theorem arcs_eqv : ∀ A : List Arc, PyData.eqvAll (A.map arcP) (A.map arcP) = true
  | [] => by simp [PyData.eqvAll]
  | a :: A => by
    have h := arcs_eqv A
    simp [arcP, PyData.eqvAll, PyData.eqv] at h ⊢
    exact h
/-- a table is equal to itself -/
theorem eq_tab {s : S} {b e : Str} {M : Mt} (hb : PyData.strOk b = true) (he : PyData.strOk e = true) : eqD s (tabD b e M) (tabD b e M) = some true := by
  have e1 : dat s 60 (tabD b e M) = some (.tuple [.str b, .str e, .tuple ((arcsA M).map arcP)]) := by
    unfold tabD
    rw [dat_tup, dats_cons dat_str (dats_cons dat_str (dats_cons (x := .tuple ((arcsA M).map arcP)) (xs := []) (by rw [dat_tup, dats_map arcP (fun a => dat_arc a)]; rfl) dats_nil))]
    rfl
  have sh := shaped_arcs (arcsA M)
  have k : PyData.canLayAll0 ((arcsA M).map arcP) = true ∧ PyData.depthAll ((arcsA M).map arcP) ≤ 1 := arcsP_ok (arcsA M)
  have sh2 : SeqAt.shaped (.tuple [.str b, .str e, .tuple ((arcsA M).map arcP)]) = true := by
    refine Bool.and_eq_true_iff.mpr ⟨by simp [PyData.canLay0, PyData.canLayAll0, k.1, hb, he], decide_eq_true ?_⟩
    simp only [PyData.depth, PyData.depthAll]
    have := k.2
    omega
  rw [eq_of e1 e1 sh2 sh2]
  simp [PyData.eqv, PyData.eqvAll, arcs_eqv]
def fallOf : D → Option D
  | .tup [.int i, .int j, .bl c] => if i = j ∧ c = true then some (.tup [.int i, .int j, .bl c]) else none
  | _ => none
def fallA (a : Arc) : Bool := (a.1 == a.2.1) && a.2.2
theorem fall_map : ∀ A : List Arc, (A.map aD).filterMap fallOf = (A.filter fallA).map aD
  | [] => rfl
  | a :: A => by
    rw [List.map_cons, List.filterMap_cons, fall_map A, List.filter_cons]
    by_cases h : a.1 = a.2.1 ∧ a.2.2 = true
    · have e : fallOf (aD a) = some (aD a) := by
        unfold aD fallOf
        dsimp only
        rw [if_pos ⟨by rw [h.1], h.2⟩]
      have e2 : fallA a = true := by simp [fallA, h.1, h.2]
      rw [e, if_pos e2]
      rfl
    · have e : fallOf (aD a) = none := by
        unfold aD fallOf
        dsimp only
        rw [if_neg]
        rintro ⟨z1, z2⟩
        exact h ⟨by omega, z2⟩
      have e2 : ¬ fallA a = true := by
        simp [fallA]
        intro z
        simpa [z] using h
      rw [e, if_neg e2]
theorem fall_dg {M : Mt} : ((arcsA M).filter fallA).isEmpty = !dg M := by
  by_cases h : dg M = true
  · obtain ⟨i, hi, e⟩ := dg_iff.mp h
    have m : ((i, i, true) : Arc) ∈ (arcsA M).filter fallA := List.mem_filter.mpr ⟨mem_arcs.mpr ⟨hi, hi, by simp [e], by simp [e]⟩, by simp [fallA]⟩
    rw [h]
    cases q : (arcsA M).filter fallA with
    | nil => rw [q] at m; cases m
    | cons => rfl
  · cases q : (arcsA M).filter fallA with
    | nil => simp [h]
    | cons a l =>
      exfalso
      have m : a ∈ (arcsA M).filter fallA := by rw [q]; simp
      obtain ⟨m1, m2⟩ := List.mem_filter.mp m
      obtain ⟨h1, h2, h3, h4⟩ := mem_arcs.mp m1
      simp [fallA] at m2
      refine h (dg_iff.mpr ⟨a.1, h1, ?_⟩)
      rw [m2.2, ← m2.1] at h4
      simpa using h4.symm
theorem tab_2 {s : S} {b e : Str} {M : Mt} : atD s (tabD b e M) (.int 2) = some (.tup ((arcsA M).map aD)) := by simp [tabD]
/-- one turn of falls_around -/
theorem st_fall {s : S} {b e : Str} {M N : Mt} {t1 t2 : Option D} {P : Pst} (hN : Bd2 N) (hM : Bd2 M)
    (h1 : dg N = true → ∀ s', Pf s s' → P.rt (.bl true) s')
    (h2 : dg N = false → ∀ s', Pf s s' → P.nx [some (tabD b e M), some (tabD b e (mulM N M)), t1, t2] s') :
    wC ((cSeq (cIf (tB (e2 oNe (eLc [3] (iSrc .seq (e2 oAt (eVar 1) (eC (.int 2)))) (gName 3) (tAnd (tB (e2 oEq (e2 oAt (eVar 3) (eC (.int 0))) (e2 oAt (eVar 3) (eC (.int 1))))) (tE (e2 oAt (eVar 3) (eC (.int 2))))) (eVar 3)) (eN mLst lNil)))
 (cRet (eC (.bl true)))
 cNil)
 (cSet (eCall d_joined [] (lCons (eVar 1) (lCons (eVar 0) lNil))) (gName 1))) [some (tabD b e M), some (tabD b e N), t1, t2] s) P := by
  have hal := arcs_len (M := N)
  generalize hdN : tabD b e N = dN
  generalize hdM : tabD b e M = dM
  simp
  rw [← hdN, tab_2]
  simp [srcOf]
  refine w_lcP fallOf (by simp; omega) (fun d hd s' pf => ?_) fun s3 p3 h3 => ?_
  · obtain ⟨a, ha, rfl⟩ := List.mem_map.mp hd
    refine ⟨_, rfl, ?_⟩
    simp [Fc.wipe, aD, eqD_int]
    refine onT_by (fun z => ?_) fun z => ?_
    · have z : a.1 = a.2.1 := by
        have : (a.1 : Int) = a.2.1 := by simpa using z
        omega
      simp [fallOf, z]
      cases a.2.2 <;> simp [Pf.refl]
    · have z : ¬ a.1 = a.2.1 := by
        have : ¬ (a.1 : Int) = a.2.1 := by simpa using z
        omega
      simp [fallOf, z, Pf.refl]
      omega
  · rw [fall_map] at h3
    have e4 := eq_nil (s := s3 ++ [O.lst []]) (n := s.length) (m := s3.length) (Pf.app _ _ h3) get_new
    rw [fall_dg] at e4
    rw [e4]
    simp
    refine onT_by (fun z => ?_) fun z => ?_
    · exact h1 z _ (p3.trans Pf.app)
    · rw [← hdM]
      refine sp_joined fun s4 p4 => ?_
      have h := h2 z s4 (p3.trans (Pf.app.trans p4))
      have e : tabD b e (outJ (fun _ _ => 0) (arcsA N) (arcsA M)) = tabD b e (mulM N M) := by
        rw [← mulJ_eq hN hM]; rfl
      rw [e, hdM]
      rw [hdM] at h
      exact h
theorem sp_falls {s : S} {b e : Str} {M : Mt} {X : Xc} {Q : D → S → Prop} (hM : Bd2 M) (hQ : ∀ s', Pf s s' → Q (.bl (hf M)) s') : wE (d_falls_around [tabD b e M] s) Q X := by
  unfold d_falls_around
  refine (v_def (by rfl)).mpr ?_
  unfold b_falls_around
  generalize hdM : tabD b e M = dM
  simp
  rw [← hdM]
  have hf' : ∀ c, hf M = c → ∀ s', Pf s s' → Q (.bl c) s' := fun c h => by rw [← h]; exact hQ
  have e1 : pw M 1 = mulM M M := rfl
  have e2 : pw M 2 = mulM (mulM M M) M := rfl
  refine wC_forV_cons.mpr ⟨_, rfl, ?_⟩
  refine st_fall hM hM (fun z s1 p1 => ?_) fun z s1 p1 => ?_
  · exact hf' true (by simp [hf, z]) _ p1
  refine wC_forV_cons.mpr ⟨_, rfl, ?_⟩
  refine st_fall (mul_bd hM hM) hM (fun z2 s2 p2 => ?_) fun z2 s2 p2 => ?_
  · exact hf' true (by simp [hf, e1, z2]) _ (p1.trans p2)
  refine wC_forV_cons.mpr ⟨_, rfl, ?_⟩
  refine st_fall (mul_bd (mul_bd hM hM) hM) hM (fun z3 s3 p3 => ?_) fun z3 s3 p3 => ?_
  · exact hf' true (by simp [hf, e2, z3]) _ (p1.trans (p2.trans p3))
  refine wC_forV_nil.mpr ?_
  simp
  exact hf' false (by simp [hf, e1, e2, z, z2, z3]) _ (p1.trans (p2.trans p3))
theorem sp_has_fall {s : S} {b : Str} {M : Mt} {X : Xc} {Q : D → S → Prop} (hb : NameOk b) (ho : PyData.strOk b = true) (hM : Bd2 M) (hQ : ∀ s', Pf s s' → Q (.bl (hf M)) s') : wE (d_has_fall [tabD b b M] s) Q X := by
  unfold d_has_fall
  refine (v_def (by rfl)).mpr ?_
  unfold b_has_fall
  generalize hdM : tabD b b M = dM
  simp
  rw [← hdM]
  refine sp_check_table hb hb fun s1 p1 => ?_
  rw [tab_0]
  simp only [onO_some]
  rw [tab_1]
  simp only [onO_some]
  rw [eqD_str ho ho]
  simp
  exact sp_falls hM fun s2 p2 => hQ _ (p1.trans p2)
theorem sp_check_whole {s : S} {i : Int} {X : Xc} {Q : D → S → Prop} (hi : 1 ≤ i) (hQ : Q .non s) : wE (d_check_whole [.int i, .int 1, .non] s) Q X := by
  unfold d_check_whole
  refine (v_def (by rfl)).mpr ?_
  unfold b_check_whole
  simp
  refine sp_whole ?_
  have e : decide (i < 1) = false := decide_eq_false (by omega)
  simp [e]
  exact hQ
/-- what power has found -/
def pwD (b : Str) (M : Mt) : Option Nat → D
  | none => .non
  | some q => tabD b b (pw M q)
theorem sp_power {s : S} {b : Str} {M : Mt} {k : Nat} {X : Xc} {Q : D → S → Prop} (hb : NameOk b) (ho : PyData.strOk b = true) (hM : Bd2 M) (hQ : ∀ s', Pf s s' → Q (tabD b b (pw M k)) s') : wE (d_power [tabD b b M, .int ((k : Int) + 1)] s) Q X := by
  unfold d_power
  refine (v_def (by rfl)).mpr ?_
  unfold b_power
  generalize hdM : tabD b b M = dM
  simp
  rw [← hdM]
  refine sp_check_table hb hb fun s1 p1 => ?_
  rw [tab_0]
  simp only [onO_some]
  rw [tab_1]
  simp only [onO_some]
  rw [eqD_str ho ho]
  simp
  refine sp_check_whole (by omega) ?_
  have e2 : decide (bits 2 < 8000) = true := by decide +kernel
  refine wC_while (fun n σ s' => Pf s s' ∧ ∃ (l p : Nat) (f : Option Nat), σ = [some (tabD b b M), some (.int ((k : Int) + 1)), some (pwD b M f), some (tabD b b (pw M p)), some (.int (l : Int))] ∧ l ≤ n ∧ (match f with | none => l * (p + 1) = k + 1 | some q => q + 1 + l * (p + 1) = k + 1)) (k + 1) ⟨p1, k + 1, 0, none, ?_, Nat.le_refl _, by simp⟩ ?_
  · simp [pwD, pw]
  · rintro n σ s2 ⟨p2, l, p, f, rfl, hl, inv⟩
    generalize hdM : tabD b b M = dM
    generalize hdf : pwD b M f = df
    generalize hdp : tabD b b (pw M p) = dp
    simp
    by_cases h0 : l = 0
    · subst h0
      simp
      cases f with
      | none => simp at inv
      | some q =>
        simp at inv
        subst inv
        rw [← hdf]
        exact hQ _ p2
    · have hl0 : decide (0 < l) = true := decide_eq_true (by omega)
      rw [if_pos (by omega)]
      refine ⟨n - 1, by omega, ?_⟩
      simp [eqD_int, e2]
      have ebp : Bd2 (pw M p) := pw_bd hM p
      have hh : l * (p + 1) = 2 * (l / 2 * (p + 1)) + (l % 2) * (p + 1) := by
        have e := Nat.div_add_mod l 2
        have e2 : l * (p + 1) = (2 * (l / 2) + l % 2) * (p + 1) := by rw [e]
        rw [e2, Nat.add_mul, Nat.mul_assoc]
      have hq : l / 2 * (p + p + 1 + 1) = 2 * (l / 2 * (p + 1)) := by
        rw [show p + p + 1 + 1 = 2 * (p + 1) by omega, Nat.mul_left_comm]
      have fin : ∀ (f' : Option Nat) (w : D) (s3 : S), w = pwD b M f' → Pf s2 s3 → (match f' with | none => (l / 2) * (p + p + 1 + 1) = k + 1 | some q => q + 1 + (l / 2) * (p + p + 1 + 1) = k + 1) →
          wE (d_joined [dp, dp] s3) (fun x s1 => Pf s s1 ∧ ∃ (l1 p1 : Nat) (f1 : Option Nat), (w = pwD b M f1 ∧ x = tabD b b (pw M p1) ∧ (l : Int) / 2 = (l1 : Int)) ∧ l1 ≤ n - 1 ∧ (match f1 with | none => l1 * (p1 + 1) = k + 1 | some q => q + 1 + l1 * (p1 + 1) = k + 1)) X := by
        intro f' w s3 hw p3 inv'
        rw [← hdp]
        refine sp_joined fun s4 p4 => ?_
        refine ⟨p2.trans (p3.trans p4), l / 2, p + p + 1, f', ⟨hw, ?_, by simp⟩, by omega, inv'⟩
        have e : tabD b b (outJ (fun _ _ => 0) (arcsA (pw M p)) (arcsA (pw M p))) = tabD b b (pw M (p + p + 1)) := by
          rw [← pw_add, ← mulJ_eq ebp ebp]; rfl
        exact e
      refine onT_by (fun z => ?_) fun z => ?_
      · have z : l % 2 = 1 := by
          have : (l : Int) % 2 = 1 := by simpa using z
          omega
        rw [z] at hh
        cases f with
        | none =>
          rw [← hdf]
          simp only [pwD, isNon_non, onT_t]
          simp only at inv
          refine fin (some p) dp s2 hdp.symm Pf.refl ?_
          show p + 1 + l / 2 * (p + p + 1 + 1) = k + 1
          omega
        | some q =>
          rw [← hdf]
          have e0 : isNon (pwD b M (some q)) = false := rfl
          rw [e0, onT_f]
          simp only at inv
          show wE (d_joined [tabD b b (pw M q), dp] s2) _ _
          have ep : dp = tabD b b (pw M p) := hdp.symm
          rw [ep]
          refine sp_joined fun s3 p3 => ?_
          rw [← ep]
          refine fin (some (q + p + 1)) _ s3 ?_ p3 ?_
          · have e : tabD b b (outJ (fun _ _ => 0) (arcsA (pw M q)) (arcsA (pw M p))) = tabD b b (pw M (q + p + 1)) := by
              rw [← pw_add, ← mulJ_eq (pw_bd hM q) ebp]; rfl
            exact e
          · show q + p + 1 + 1 + l / 2 * (p + p + 1 + 1) = k + 1
            omega
      · have z : l % 2 = 0 := by
          have : ¬ (l : Int) % 2 = 1 := by simpa using z
          omega
        rw [z] at hh
        refine fin f df s2 hdf.symm Pf.refl ?_
        cases f with
        | none =>
          simp only at inv ⊢
          omega
        | some q =>
          simp only at inv ⊢
          omega
end P1
namespace P1
open PySem Fc
theorem sp_product2 {s : S} {b m e : Str} {M N : Mt} {X : Xc} {Q : D → S → Prop} (hb : NameOk b) (hm : NameOk m) (he : NameOk e) (ho : PyData.strOk m = true) (hM : Bd2 M) (hN : Bd2 N) (hQ : ∀ s', Pf s s' → Q (tabD b e (mulM M N)) s') : wE (d_product [tabD b m M, tabD m e N] s) Q X :=
  sp_product hb hm he ho fun s' p => by rw [mulJ_eq hM hN]; exact hQ s' p
theorem sp_power2 {s : S} {b : Str} {M : Mt} {i : Int} (k : Nat) {X : Xc} {Q : D → S → Prop} (hi : i = (k : Int) + 1) (hb : NameOk b) (ho : PyData.strOk b = true) (hM : Bd2 M) (hQ : ∀ s', Pf s s' → Q (tabD b b (pw M k)) s') : wE (d_power [tabD b b M, .int i] s) Q X := by
  subst hi
  exact sp_power hb ho hM hQ
namespace K23
def b_law_more : C :=
 (cSeq (cSet (eCall d_law_grid [] (lCons (e2 oAt (eVar 1) (eC (.int 2))) lNil)) (gName 2))
 (cSeq (cFor (iRange (eC (.int 0)) (e2 oAdd (eC (.int 1)) (eCall d_law_random [] (lCons (eVar 0) (lCons (eC (.int 4)) lNil))))) (gName 3)
 (cSeq (cPar 4 5 (lCons (eCall d_law_random [] (lCons (eVar 0) (lCons (eC (.int 3)) lNil))) (lCons (eCall d_law_random [] (lCons (eVar 0) (lCons (eC (.int 3)) lNil))) lNil)))
 (cSub (e2 oAt (eVar 2) (eVar 4)) (eVar 5) (eN fMax (lCons (eN fInt (lCons (e2 oAt (e2 oAt (eVar 2) (eVar 4)) (eVar 5)) lNil)) (lCons (e2 oAdd (eC (.int 1)) (eCall d_law_random [] (lCons (eVar 0) (lCons (eC (.int 2)) lNil)))) lNil))))))
 (cRet (eN mTup (lCons (e2 oAt (eVar 1) (eC (.int 0))) (lCons (e2 oAt (eVar 1) (eC (.int 1))) (lCons (eCall d_law_listed [] (lCons (eVar 2) lNil)) lNil)))))))
def d_law_more : F := defF 2 6 b_law_more
def b_law_at_least : C :=
 (cSeq (cSet (eN mTup (lCons (eCall d_law_grid [] (lCons (e2 oAt (eVar 0) (eC (.int 2))) lNil)) (lCons (eCall d_law_grid [] (lCons (e2 oAt (eVar 1) (eC (.int 2))) lNil)) lNil))) (gTup 2 (gCons (gName 2) (gCons (gName 3) gNil))))
 (cSeq (cFor (iRange (eC (.int 0)) (eC (.int 3))) (gName 4)
 (cIf (tB (e2 oNe (eLc [5] (iRange (eC (.int 0)) (eC (.int 3))) (gName 5) (tB (e2 oLt (e2 oAt (e2 oAt (eVar 2) (eVar 4)) (eVar 5)) (e2 oAt (e2 oAt (eVar 3) (eVar 4)) (eVar 5)))) (eVar 5)) (eN mLst lNil)))
 (cRet (eC (.bl false)))
 cNil))
 (cRet (eC (.bl true)))))
def d_law_at_least : F := defF 2 6 b_law_at_least
end K23
open K23
end P1
namespace Fc
open PySem
def okS (x : Str) : Prop := ∀ c ∈ x.cps.toList, c < 1114112
theorem okS_iff {x : Str} : PyData.strOk x = true ↔ okS x := by
  unfold PyData.strOk okS
  rw [← Array.all_toList, List.all_eq_true]
  simp
theorem okS_of {x : String} : okS (Str.ofString x) := by
  intro c hc
  have e : (Str.ofString x).cps.toList = x.toList.map Char.toNat := PyProof.Rows.signs_ofString x
  rw [e] at hc
  obtain ⟨d, _, rfl⟩ := List.mem_map.mp hc
  have h := d.valid
  show d.val.toNat < 1114112
  rcases h with h | ⟨_, h⟩
  · have h : d.val.toNat < 55296 := h
    omega
  · have h : d.val.toNat < 1114112 := h
    exact h
theorem okS_app {x y : Str} (h1 : okS x) (h2 : okS y) : okS (x ++ y) := by
  intro c hc
  have e : (x ++ y).cps.toList = x.cps.toList ++ y.cps.toList := by
    show (x.cps ++ y.cps).toList = _
    simp
  rw [e, List.mem_append] at hc
  exact hc.elim (h1 c) (h2 c)
theorem ok_digit (w c : Nat) : ∀ d ∈ (List.replicate (w - ((Nat.toDigits 16 c).map Char.toNat).length) 48 ++ (Nat.toDigits 16 c).map Char.toNat), d < 1114112 := by
  intro d hd
  rcases List.mem_append.mp hd with h | h
  · have := (List.mem_replicate.mp h).2
    omega
  · obtain ⟨k, _, rfl⟩ := List.mem_map.mp h
    have h := k.valid
    show k.val.toNat < 1114112
    rcases h with h | ⟨_, h⟩
    · have h : k.val.toNat < 55296 := h
      omega
    · have h : k.val.toNat < 1114112 := h
      exact h
theorem ok_reprChar {q c : Nat} (hc : c < 1114112) : ∀ d ∈ Builtin.Str.reprChar q c, d < 1114112 := by
  intro d hd
  unfold Builtin.Str.reprChar at hd
  simp only at hd
  repeat' split at hd
  all_goals first
    | (simp only [List.mem_cons, List.not_mem_nil, or_false] at hd; omega)
    | (rcases List.mem_append.mp hd with h | h
       · simp only [List.mem_cons, List.not_mem_nil, or_false] at h; omega
       · exact ok_digit _ _ d h)
theorem ok_fold {q : Nat} : ∀ (l : List Nat) (acc : Array Nat), (∀ c ∈ l, c < 1114112) → (∀ c ∈ acc.toList, c < 1114112) → ∀ c ∈ (l.foldl (fun out c => out ++ (Builtin.Str.reprChar q c).toArray) acc).toList, c < 1114112
  | [], acc, _, h => h
  | a :: l, acc, hl, h => by
    refine ok_fold l _ (fun c hc => hl c (List.mem_cons_of_mem _ hc)) ?_
    intro c hc
    rw [Array.toList_append, List.mem_append] at hc
    rcases hc with hc | hc
    · exact h c hc
    · exact ok_reprChar (hl a (List.mem_cons_self ..)) c hc
theorem okS_repr {x : Str} (h : okS x) : okS (reprText x) := by
  have hq : reprQuote x < 1114112 := by
    unfold reprQuote
    split <;> omega
  intro c hc
  unfold reprText at hc
  rw [← Array.foldl_toList] at hc
  simp only [Array.toList_push, List.mem_append, List.mem_cons, List.not_mem_nil, or_false] at hc
  rcases hc with hc | rfl
  · exact ok_fold x.cps.toList _ h (fun c hc => by simp at hc; omega) c hc
  · exact hq
theorem okS_textFrom : ∀ (ts : List Str) (k : Nat) (acc : Str), okS acc → (∀ t ∈ ts, okS t) → okS (textFrom k acc ts)
  | [], k, acc, h, _ => h
  | t :: r, k, acc, h, ht => by
    refine okS_textFrom r (k + 1) _ (okS_app (okS_app h ?_) (ht t (List.mem_cons_self ..))) fun u hu => ht u (List.mem_cons_of_mem _ hu)
    split <;> exact okS_of
theorem okS_list {ts : List Str} (h : ∀ t ∈ ts, okS t) : okS (listText ts) := okS_app (okS_textFrom ts 0 _ okS_of h) okS_of
theorem okS_join {sep : Str} {ts : List Str} (hs : okS sep) (h : ∀ t ∈ ts, okS t) : okS (Str.join sep ts) := by
  intro c hc
  rcases (PyProof.Rows.mem_join sep c ts).mp hc with ⟨t, ht, hc⟩ | ⟨_, hc⟩
  · exact h t ht c hc
  · exact hs c hc
theorem okS_tuple {ts : List Str} (h : ∀ t ∈ ts, okS t) : okS (tupleText ts) := by
  unfold tupleText
  refine okS_app (okS_app okS_of (okS_join okS_of h)) ?_
  split <;> exact okS_of
mutual
theorem okS_shown : ∀ d : PyData, d.canLay0 = true → okS d.shown
  | .none, _ => by simp only [PyData.shown]; exact okS_of
  | .bool b, _ => by
    simp only [PyData.shown]
    split <;> exact okS_of
  | .int i, _ => by simp only [PyData.shown]; exact okS_of
  | .str x, h => by
    simp only [PyData.shown]
    simp only [PyData.canLay0] at h
    exact okS_repr (okS_iff.mp h)
  | .list xs, h => by
    simp only [PyData.shown]
    simp only [PyData.canLay0] at h
    exact okS_list (okS_shownAll xs h)
  | .tuple xs, h => by
    simp only [PyData.shown]
    simp only [PyData.canLay0] at h
    exact okS_tuple (okS_shownAll xs h)
  | .dict kvs, h => by simp [PyData.canLay0] at h
theorem okS_shownAll : ∀ xs : List PyData, PyData.canLayAll0 xs = true → ∀ t ∈ PyData.shownAll xs, okS t
  | [], _, t, h => by simp only [PyData.shownAll, List.not_mem_nil] at h
  | x :: xs, h, t, ht => by
    simp only [PyData.canLayAll0, Bool.and_eq_true] at h
    simp only [PyData.shownAll, List.mem_cons] at ht
    rcases ht with rfl | ht
    · exact okS_shown x h.1
    · exact okS_shownAll xs h.2 t ht
end
theorem strOk_shown {d : PyData} (h : d.canLay0 = true) : PyData.strOk d.shown = true := okS_iff.mpr (okS_shown d h)
/-- repr of what is read, if it's not too long -/
theorem o_repr {s : S} {d : D} {x : PyData} {X : Xc} {Q : D → S → Prop} (h : dat s 60 d = some x) (h1 : x.showable = true) (h2 : x.leavesShort 13 = true) (h3 : x.bulk ≤ 1048576) : wE (fRepr [d] s) Q X ↔ Q (.str x.shown) s := by
  have e : sz x.shown.length = true := by
    have := PyData.shown_fits_bulk (B := 13) (by decide) (by decide) h2 h3
    exact decide_eq_true (by rw [sizeLine_eq] at this; omega)
  unfold fRepr
  simp [h, h1, e]
end Fc
namespace P1
open PySem Fc
def tabP (b e : Str) (M : Mt) : PyData := .tuple [.str b, .str e, .tuple ((arcsA M).map arcP)]
theorem dat_tab {s : S} {n : Nat} {b e : Str} {M : Mt} : dat s (n + 3) (tabD b e M) = some (tabP b e M) := by
  unfold tabD
  rw [dat_tup, dats_cons dat_str (dats_cons dat_str (dats_cons (x := .tuple ((arcsA M).map arcP)) (xs := []) (by rw [dat_tup, dats_map arcP (fun a => dat_arc a)]; rfl) dats_nil))]
  rfl
theorem arcs_show : ∀ {A : List Arc}, In3 A → PyData.showableAll (A.map arcP) = true ∧ PyData.leavesShortAll 13 (A.map arcP) = true ∧ PyData.bulkAll (A.map arcP) = 4 * A.length
  | [], _ => by simp [PyData.showableAll, PyData.leavesShortAll, PyData.bulkAll]
  | a :: A, h => by
    obtain ⟨h1, h2, h3⟩ := arcs_show (A := A) fun x hx => h x (List.mem_cons_of_mem _ hx)
    obtain ⟨k1, k2⟩ := h a (List.mem_cons_self ..)
    have si : ∀ n : Nat, n < 3 → PyData.showable (.int n) = true := fun n hn => by
      match n, hn with
      | 0, _ => decide
      | 1, _ => decide
      | 2, _ => decide
    have li : ∀ n : Nat, n < 3 → PyData.leavesShort 13 (.int n) = true := fun n hn => by
      match n, hn with
      | 0, _ => decide +kernel
      | 1, _ => decide +kernel
      | 2, _ => decide +kernel
    refine ⟨?_, ?_, ?_⟩
    · simp only [List.map_cons, PyData.showableAll, arcP, PyData.showable, h1, Bool.and_true]
      have e1 := si _ k1
      have e2 := si _ k2
      simp only [PyData.showable] at e1 e2
      simp at e1 e2 ⊢
      exact ⟨e1, e2⟩
    · simp only [List.map_cons, PyData.leavesShortAll, arcP, h2, Bool.and_true]
      have e1 := li _ k1
      have e2 := li _ k2
      unfold PyData.leavesShort
      simp only [PyData.leavesShortAll, e1, e2, Bool.true_and, Bool.and_true]
      rfl
    · simp only [List.map_cons, PyData.bulkAll, arcP, PyData.bulk, h3, List.length_cons]
      omega
theorem o_repr_tab {s : S} {b e : Str} {M : Mt} {X : Xc} {Q : D → S → Prop} (hb : NameOk b) (he : NameOk e) (ob : PyData.strOk b = true) (oe : PyData.strOk e = true) : wE (fRepr [tabD b e M] s) Q X ↔ Q (.str (tabP b e M).shown) s := by
  obtain ⟨h1, h2, h3⟩ := arcs_show (in3_arcs (M := M))
  have hl := arcs_len (M := M)
  have sg : ∀ {x : Str}, PyData.strOk x = true → PyData.leavesShort 13 (.str x) = true := fun {x} h => by
    simp only [PyData.leavesShort, List.all_eq_true, decide_eq_true_eq]
    intro c hc
    have := okS_iff.mp h c hc
    omega
  refine o_repr dat_tab ?_ ?_ ?_
  · simp [tabP, PyData.showable, PyData.showableAll, h1]
  · unfold tabP PyData.leavesShort
    simp only [PyData.leavesShortAll, sg ob, sg oe, Bool.true_and, Bool.and_true]
    unfold PyData.leavesShort
    exact h2
  · have l1 : b.cps.size ≤ 12 := hb.2.1
    have l2 : e.cps.size ≤ 12 := he.2.1
    simp only [tabP, PyData.bulk, PyData.bulkAll, h3]
    omega
theorem tabP_ok {b e : Str} {M : Mt} (ob : PyData.strOk b = true) (oe : PyData.strOk e = true) : (tabP b e M).canLay0 = true := by
  have k := arcsP_ok (arcsA M)
  simp [tabP, PyData.canLay0, PyData.canLayAll0, k.1, ob, oe]
theorem eqD_self {s : S} {x : Str} (h : PyData.strOk x = true) : eqD s (.str x) (.str x) = some true := by
  rw [eqD_str h h]
  simp
theorem eq_shown {s : S} {b e : Str} {M : Mt} (ob : PyData.strOk b = true) (oe : PyData.strOk e = true) : eqD s (.str (tabP b e M).shown) (.str (tabP b e M).shown) = some true := eqD_self (strOk_shown (tabP_ok ob oe))
theorem o_repr_bl {s : S} {c : Bool} {X : Xc} {Q : D → S → Prop} : wE (fRepr [.bl c] s) Q X ↔ Q (.str (PyData.bool c).shown) s :=
  o_repr dat_bl (by simp [PyData.showable]) (by simp [PyData.leavesShort]) (by simp [PyData.bulk])
namespace K22
noncomputable section
def b_law_times : C :=
 (cSeq (cSet (eN mLst (lCons (eN mLst (lCons (eC (.int 0)) (lCons (eC (.int 0)) (lCons (eC (.int 0)) lNil)))) (lCons (eN mLst (lCons (eC (.int 0)) (lCons (eC (.int 0)) (lCons (eC (.int 0)) lNil)))) (lCons (eN mLst (lCons (eC (.int 0)) (lCons (eC (.int 0)) (lCons (eC (.int 0)) lNil)))) lNil)))) (gName 2))
 (cSeq (cFor (iRange (eC (.int 0)) (eC (.int 3))) (gName 3)
 (cFor (iRange (eC (.int 0)) (eC (.int 3))) (gName 4)
 (cFor (iRange (eC (.int 0)) (eC (.int 3))) (gName 5)
 (cSeq (cSet (eN mLst (lCons (eN fInt (lCons (e2 oAt (e2 oAt (eVar 0) (eVar 3)) (eVar 5)) lNil)) (lCons (eN fInt (lCons (e2 oAt (e2 oAt (eVar 1) (eVar 5)) (eVar 4)) lNil)) lNil))) (gName 6))
 (cIf (tB (e2 oGt (eN fMin (lCons (eLc [7] (iSrc .seq (eVar 6)) (gName 7) tYes (eN fInt (lCons (eVar 7) lNil))) lNil)) (eC (.int 0))))
 (cSub (e2 oAt (eVar 2) (eVar 3)) (eVar 4) (eN fMax (lCons (eN fInt (lCons (e2 oAt (e2 oAt (eVar 2) (eVar 3)) (eVar 4)) lNil)) (lCons (eN fMax (lCons (eLc [7] (iSrc .seq (eVar 6)) (gName 7) tYes (eN fInt (lCons (eVar 7) lNil))) lNil)) lNil))))
 cNil)))))
 (cRet (eVar 2))))
def d_law_times : F := defF 2 8 b_law_times
end
end K22
open K22
/-- a grid at L, all below L as in s -/
structure GX (s : S) (L : Nat) (s' : S) (F : Mt) : Prop where
  g : GridAt s' (L + 3) L (L + 1) (L + 2) F
  lo : ∀ (n : Nat) (o : O), n < L → s[n]? = some o → s'[n]? = some o
theorem GX.pf {s s' s2 : S} {L : Nat} {F : Mt} (h : GX s L s' F) (p : Pf s' s2) : GX s L s2 F := ⟨h.g.pf p, fun n o hn e => p _ _ (h.lo n o hn e)⟩
theorem GX.row {s s' : S} {L : Nat} {F : Mt} (h : GX s L s' F) {i : Nat} (hi : i < 3) : atD s' (.ref (L + 3)) (.int i) = some (.ref (L + i)) ∧ s'[L + i]? = some (.lst (rw3 (F i))) := by
  refine ⟨?_, ?_⟩
  · rw [at_ref h.g.at_, atI_nat]
    match i, hi with
    | 0, _ => rfl
    | 1, _ => rfl
    | 2, _ => rfl
  · match i, hi with
    | 0, _ => exact h.g.h0
    | 1, _ => exact h.g.h1
    | 2, _ => exact h.g.h2
theorem GX.get {s s' : S} {L : Nat} {F : Mt} (h : GX s L s' F) {i j : Nat} (hi : i < 3) (hj : j < 3) : atD s' (.ref (L + i)) (.int j) = some (.int (F i j)) := by
  rw [at_ref (h.row hi).2, atI_nat, rw3_at hj]
theorem GX.put {s s' : S} {L : Nat} {F : Mt} (h : GX s L s' F) {i j v : Nat} (hi : i < 3) (hj : j < 3) : ∃ s2, Fc.putAt s' (.ref (L + i)) (.int j) (.int v) = some s2 ∧ GX s L s2 (updM F i j v) := by
  have hr := (h.row hi).2
  refine ⟨s'.set (L + i) (.lst ((rw3 (F i)).set j (.int v))), ?_, ⟨?_, fun n o hn e => ?_⟩⟩
  · unfold Fc.putAt
    dsimp only
    rw [hr]
    dsimp only
    have : L2.ixN (rw3 (F i)).length (j : Int) = some j := by
      unfold L2.ixN
      rw [if_pos (by omega), if_pos (by simp [rw3]; omega)]
      simp
    rw [this]
    rfl
  · have hl := lt_of_get hr
    have ok : ∀ k, k < 3 → (s'.set (L + i) (.lst ((rw3 (F i)).set j (.int v))))[L + k]? = some (.lst (rw3 (updM F i j v k))) := fun k hk => by
      by_cases e : k = i
      · subst e
        rw [set_get hl]
        have : (rw3 (F k)).set j (.int v) = rw3 (updM F k j v k) := by
          match j, hj with
          | 0, _ => simp [rw3, updM]
          | 1, _ => simp [rw3, updM]
          | 2, _ => simp [rw3, updM]
        rw [this]
      · rw [set_ne (by omega), (h.row hk).2]
        have : F k = updM F i j v k := by
          funext x
          simp [updM, e]
        rw [this]
    refine ⟨?_, ok 0 (by omega), ok 1 (by omega), ok 2 (by omega)⟩
    rw [set_ne (by omega)]
    exact h.g.at_
  · rw [set_ne (by omega)]
    exact h.lo n o hn e
def intOf : D → Option D
  | .int i => some (.int i)
  | _ => none
theorem o_min_ref {n : Nat} {a b : Int} {s : S} {X : Xc} {Q : D → S → Prop} (h : s[n]? = some (.lst [.int a, .int b])) : wE (fMin [.ref n] s) Q X ↔ Q (.int (min a b)) s := by
  have e : minI a [b] = min a b := by
    simp only [minI]; split <;> omega
  unfold fMin mm
  simp [lstAt, h, intsD, e]
theorem o_max_ref {n : Nat} {a b : Int} {s : S} {X : Xc} {Q : D → S → Prop} (h : s[n]? = some (.lst [.int a, .int b])) : wE (fMax [.ref n] s) Q X ↔ Q (.int (max a b)) s := by
  have e : maxI a [b] = max a b := by
    simp only [maxI]; split <;> omega
  unfold fMax mm
  simp [lstAt, h, intsD, e]
theorem w_pair {s : S} {n : Nat} {a b : Int} {σ : Fc.Env} {X : Xc} {Q : D → S → Prop} (h : s[n]? = some (.lst [.int a, .int b])) (hl : σ.length = 8) (hQ : ∀ s', Pf s s' → s'[s.length]? = some (.lst [.int a, .int b]) → Q (.ref s.length) s') :
    wE (lcNew s fun D0 s2 => lcL D0 n [7] (gName 7) tYes (eN fInt (lCons (eVar 7) lNil)) 2 0 σ s2) Q X := by
  refine w_lcPL (n := n) (ds := [.int a, .int b]) intOf h (by simp) (fun d hd s' pf => ⟨_, rfl, ?_⟩) fun s' pf h' => hQ s' pf h'
  have hd : ∃ i : Int, d = .int i := by
    simp at hd
    rcases hd with rfl | rfl
    · exact ⟨a, rfl⟩
    · exact ⟨b, rfl⟩
  obtain ⟨i, rfl⟩ := hd
  simp [Fc.wipe, hl, intOf, Pf.refl]
/-- one place of one middle -/
theorem st_times {s : S} {n m q0 q1 q2 u0 u1 u2 i j k L : Nat} {M N F : Mt} {s' : S} {t6 t7 : Option D} {P : Pst} (hM : GridAt s n q0 q1 q2 M) (hN : GridAt s m u0 u1 u2 N) (hL : L = s.length) (h : GX s L s' F) (hi : i < 3) (hj : j < 3) (hk : k < 3)
    (hP : ∀ s2 d6 d7, GX s L s2 (updM F i j (max (F i j) (tm (M i k) (N k j)))) → P.nx [some (.ref n), some (.ref m), some (.ref (L + 3)), some (.int i), some (.int j), some (.int k), d6, d7] s2) :
    wC (cSeq (cSet (eN mLst (lCons (eN fInt (lCons (e2 oAt (e2 oAt (eVar 0) (eVar 3)) (eVar 5)) lNil)) (lCons (eN fInt (lCons (e2 oAt (e2 oAt (eVar 1) (eVar 5)) (eVar 4)) lNil)) lNil))) (gName 6))
 (cIf (tB (e2 oGt (eN fMin (lCons (eLc [7] (iSrc .seq (eVar 6)) (gName 7) tYes (eN fInt (lCons (eVar 7) lNil))) lNil)) (eC (.int 0))))
 (cSub (e2 oAt (eVar 2) (eVar 3)) (eVar 4) (eN fMax (lCons (eN fInt (lCons (e2 oAt (e2 oAt (eVar 2) (eVar 3)) (eVar 4)) lNil)) (lCons (eN fMax (lCons (eLc [7] (iSrc .seq (eVar 6)) (gName 7) tYes (eN fInt (lCons (eVar 7) lNil))) lNil)) lNil))))
 cNil) [some (.ref n), some (.ref m), some (.ref (L + 3)), some (.int i), some (.int j), some (.int k), t6, t7] s') P := by
  have gM : GridAt s' n q0 q1 q2 M := by
    have lo : ∀ {n o}, s[n]? = some o → s'[n]? = some o := fun {n o} e => h.lo n o (by rw [hL]; exact lt_of_get e) e
    exact ⟨lo hM.at_, lo hM.h0, lo hM.h1, lo hM.h2⟩
  have gN : GridAt s' m u0 u1 u2 N := by
    have lo : ∀ {n o}, s[n]? = some o → s'[n]? = some o := fun {n o} e => h.lo n o (by rw [hL]; exact lt_of_get e) e
    exact ⟨lo hN.at_, lo hN.h0, lo hN.h1, lo hN.h2⟩
  obtain ⟨r, a1, a2⟩ := gM.get hi hk
  obtain ⟨u, b1, b2⟩ := gN.get hk hj
  simp [a1, a2, b1, b2, srcOf]
  refine w_pair get_new rfl fun s3 p3 e3 => ?_
  have p3' : Pf s' s3 := Pf.app.trans p3
  rw [o_min_ref e3]
  simp
  have z : updM F i j (F i j) = F := by
    funext a b
    unfold updM
    split
    · rename_i h; rw [h.1, h.2]
    · rfl
  have h3 := h.pf p3'
  have nop : tm (M i k) (N k j) = 0 → P.nx [some (.ref n), some (.ref m), some (.ref (L + 3)), some (.int i), some (.int j), some (.int k), some (.ref s'.length), t7] s3 := fun e => by
    refine hP _ _ _ ?_
    rw [e, Nat.max_eq_left (Nat.zero_le _), z]
    exact h3
  refine onT_by (fun c => ?_) fun c => ?_
  · have c : 0 < M i k ∧ 0 < N k j := by
      have := of_decide_eq_true c
      omega
    have ht : tm (M i k) (N k j) = max (M i k) (N k j) := if_pos c
    rw [(h3.row hi).1]
    simp
    rw [h3.get hi hj]
    simp
    have e5 := p3 _ _ (get_new (s := s') (o := .lst [.int (M i k), .int (N k j)]))
    simp [srcOf, e5]
    refine w_pair e5 rfl fun s4 p4 e4 => ?_
    rw [o_max_ref e4]
    simp
    have h4 := h3.pf p4
    rw [(h4.row hi).1]
    simp
    have ev : max (F i j : Int) (max (M i k : Int) (N k j : Int)) = ((max (F i j) (tm (M i k) (N k j)) : Nat) : Int) := by
      rw [ht]; omega
    rw [ev]
    obtain ⟨s5, q1, q2⟩ := h4.put (v := max (F i j) (tm (M i k) (N k j))) hi hj
    rw [q1]
    exact hP _ _ _ q2
  · have c : ¬ (0 < M i k ∧ 0 < N k j) := by
      have := of_decide_eq_false c
      omega
    exact nop (if_neg c)
end P1
namespace P1
open PySem Fc
open K22
def upk (F : Mt) (i j v : Nat) : Mt := updM F i j (max (F i j) v)
theorem upk2 {F : Mt} {i j a b : Nat} : upk (upk F i j a) i j b = upk F i j (max a b) := by
  funext x y
  unfold upk updM
  by_cases h : x = i ∧ y = j
  · simp [h]
  · simp [h]
theorem grid_cg {s : S} {n r0 r1 r2 : Nat} {M N : Mt} (h : GridAt s n r0 r1 r2 M) (e : ∀ i j, i < 3 → j < 3 → M i j = N i j) : GridAt s n r0 r1 r2 N := by
  have rw' : ∀ (r i : Nat), i < 3 → Row s r (M i) → Row s r (N i) := fun r i hi h => by
    unfold Row at h ⊢
    rw [h, e i 0 hi (by omega), e i 1 hi (by omega), e i 2 hi (by omega)]
  exact ⟨h.at_, rw' _ 0 (by omega) h.h0, rw' _ 1 (by omega) h.h1, rw' _ 2 (by omega) h.h2⟩
theorem sp_times {s : S} {n m q0 q1 q2 u0 u1 u2 : Nat} {M N : Mt} {X : Xc} {Q : D → S → Prop} (hM : GridAt s n q0 q1 q2 M) (hN : GridAt s m u0 u1 u2 N)
    (hQ : ∀ s' n' r0 r1 r2, Pf s s' → GridAt s' n' r0 r1 r2 (mulM M N) → Q (.ref n') s') : wE (d_law_times [.ref n, .ref m] s) Q X := by
  unfold d_law_times
  refine (v_def (by rfl)).mpr ?_
  unfold b_law_times
  simp
  have e0 : s ++ [O.lst [.int 0, .int 0, .int 0], .lst [.int 0, .int 0, .int 0], .lst [.int 0, .int 0, .int 0], .lst [.ref s.length, .ref (s.length + 1), .ref (s.length + 2)]] = s ++ gridO s.length (fun _ _ => 0) := rfl
  rw [e0]
  have g0 : GX s s.length (s ++ gridO s.length (fun _ _ => 0)) (fun _ _ => 0) := ⟨gridO_at, fun _ _ _ e => Pf.app _ _ e⟩
  generalize s ++ gridO s.length (fun _ _ => 0) = s0 at g0
  have kloop : ∀ (i j : Nat) (hi : i < 3) (hj : j < 3) (F : Mt) (s' : S) (t5 t6 t7 : Option D) (P : Pst), GX s s.length s' F →
      (∀ s2 d5 d6 d7, GX s s.length s2 (upk F i j (mulM M N i j)) → P.nx [some (.ref n), some (.ref m), some (.ref (s.length + 3)), some (.int i), some (.int j), d5, d6, d7] s2) →
      wC (forV (gName 5) (cSeq (cSet (eN mLst (lCons (eN fInt (lCons (e2 oAt (e2 oAt (eVar 0) (eVar 3)) (eVar 5)) lNil)) (lCons (eN fInt (lCons (e2 oAt (e2 oAt (eVar 1) (eVar 5)) (eVar 4)) lNil)) lNil))) (gName 6))
 (cIf (tB (e2 oGt (eN fMin (lCons (eLc [7] (iSrc .seq (eVar 6)) (gName 7) tYes (eN fInt (lCons (eVar 7) lNil))) lNil)) (eC (.int 0))))
 (cSub (e2 oAt (eVar 2) (eVar 3)) (eVar 4) (eN fMax (lCons (eN fInt (lCons (e2 oAt (e2 oAt (eVar 2) (eVar 3)) (eVar 4)) lNil)) (lCons (eN fMax (lCons (eLc [7] (iSrc .seq (eVar 6)) (gName 7) tYes (eN fInt (lCons (eVar 7) lNil))) lNil)) lNil))))
 cNil)) [.int (0 : Nat), .int (1 : Nat), .int (2 : Nat)] [some (.ref n), some (.ref m), some (.ref (s.length + 3)), some (.int i), some (.int j), t5, t6, t7] s') P := by
    intro i j hi hj F s' t5 t6 t7 P h hP
    refine wC_forV_cons.mpr ⟨_, rfl, ?_⟩
    refine st_times hM hN rfl h hi hj (k := 0) (by omega) fun s2 d6 d7 h2 => ?_
    refine wC_forV_cons.mpr ⟨_, rfl, ?_⟩
    refine st_times hM hN rfl h2 hi hj (k := 1) (by omega) fun s3 d6 d7 h3 => ?_
    refine wC_forV_cons.mpr ⟨_, rfl, ?_⟩
    refine st_times hM hN rfl h3 hi hj (k := 2) (by omega) fun s4 d6 d7 h4 => ?_
    refine wC_forV_nil.mpr ?_
    refine hP s4 _ d6 d7 ?_
    have e : upk (upk (upk F i j (tm (M i 0) (N 0 j))) i j (tm (M i 1) (N 1 j))) i j (tm (M i 2) (N 2 j)) = upk F i j (mulM M N i j) := by
      rw [upk2, upk2, mul_at hi hj]
    rw [← e]
    exact h4
  have jloop : ∀ (i : Nat) (hi : i < 3) (F : Mt) (s' : S) (t4 t5 t6 t7 : Option D) (P : Pst), GX s s.length s' F →
      (∀ s2 d4 d5 d6 d7, GX s s.length s2 (upk (upk (upk F i 0 (mulM M N i 0)) i 1 (mulM M N i 1)) i 2 (mulM M N i 2)) → P.nx [some (.ref n), some (.ref m), some (.ref (s.length + 3)), some (.int i), d4, d5, d6, d7] s2) →
      wC (cFor (iRange (eC (.int 0)) (eC (.int 3))) (gName 4) (cFor (iRange (eC (.int 0)) (eC (.int 3))) (gName 5) (cSeq (cSet (eN mLst (lCons (eN fInt (lCons (e2 oAt (e2 oAt (eVar 0) (eVar 3)) (eVar 5)) lNil)) (lCons (eN fInt (lCons (e2 oAt (e2 oAt (eVar 1) (eVar 5)) (eVar 4)) lNil)) lNil))) (gName 6))
 (cIf (tB (e2 oGt (eN fMin (lCons (eLc [7] (iSrc .seq (eVar 6)) (gName 7) tYes (eN fInt (lCons (eVar 7) lNil))) lNil)) (eC (.int 0))))
 (cSub (e2 oAt (eVar 2) (eVar 3)) (eVar 4) (eN fMax (lCons (eN fInt (lCons (e2 oAt (e2 oAt (eVar 2) (eVar 3)) (eVar 4)) lNil)) (lCons (eN fMax (lCons (eLc [7] (iSrc .seq (eVar 6)) (gName 7) tYes (eN fInt (lCons (eVar 7) lNil))) lNil)) lNil))))
 cNil))) [some (.ref n), some (.ref m), some (.ref (s.length + 3)), some (.int i), t4, t5, t6, t7] s') P := by
    intro i hi F s' t4 t5 t6 t7 P h hP
    have one : ∀ (j : Nat) (hj : j < 3) (F : Mt) (s' : S) (t5 t6 t7 : Option D) (P : Pst), GX s s.length s' F →
      (∀ s2 d5 d6 d7, GX s s.length s2 (upk F i j (mulM M N i j)) → P.nx [some (.ref n), some (.ref m), some (.ref (s.length + 3)), some (.int i), some (.int j), d5, d6, d7] s2) → wC (cFor (iRange (eC (.int 0)) (eC (.int 3))) (gName 5) (cSeq (cSet (eN mLst (lCons (eN fInt (lCons (e2 oAt (e2 oAt (eVar 0) (eVar 3)) (eVar 5)) lNil)) (lCons (eN fInt (lCons (e2 oAt (e2 oAt (eVar 1) (eVar 5)) (eVar 4)) lNil)) lNil))) (gName 6))
 (cIf (tB (e2 oGt (eN fMin (lCons (eLc [7] (iSrc .seq (eVar 6)) (gName 7) tYes (eN fInt (lCons (eVar 7) lNil))) lNil)) (eC (.int 0))))
 (cSub (e2 oAt (eVar 2) (eVar 3)) (eVar 4) (eN fMax (lCons (eN fInt (lCons (e2 oAt (e2 oAt (eVar 2) (eVar 3)) (eVar 4)) lNil)) (lCons (eN fMax (lCons (eLc [7] (iSrc .seq (eVar 6)) (gName 7) tYes (eN fInt (lCons (eVar 7) lNil))) lNil)) lNil))))
 cNil)) [some (.ref n), some (.ref m), some (.ref (s.length + 3)), some (.int i), some (.int j), t5, t6, t7] s') P := by
      intro j hj F s' t5 t6 t7 P h hP
      rw [v_for, v_iRange]
      simp only [v_c, onI_int, small0, small3, Bool.and_self, onT_t]
      exact kloop i j hi hj F s' t5 t6 t7 P h hP
    rw [v_for, v_iRange]
    simp only [v_c, onI_int, small0, small3, Bool.and_self, onT_t]
    refine wC_forV_cons.mpr ⟨_, rfl, ?_⟩
    refine one 0 (by omega) F s' _ _ _ _ h fun s2 d5 d6 d7 h2 => ?_
    refine wC_forV_cons.mpr ⟨_, rfl, ?_⟩
    refine one 1 (by omega) _ _ _ _ _ _ h2 fun s3 d5 d6 d7 h3 => ?_
    refine wC_forV_cons.mpr ⟨_, rfl, ?_⟩
    refine one 2 (by omega) _ _ _ _ _ _ h3 fun s4 d5 d6 d7 h4 => ?_
    refine wC_forV_nil.mpr ?_
    exact hP _ _ _ _ _ h4
  refine wC_forV_cons.mpr ⟨_, rfl, ?_⟩
  refine jloop 0 (by omega) _ _ _ _ _ _ _ g0 fun s2 d4 d5 d6 d7 h2 => ?_
  refine wC_forV_cons.mpr ⟨_, rfl, ?_⟩
  refine jloop 1 (by omega) _ _ _ _ _ _ _ h2 fun s3 d4 d5 d6 d7 h3 => ?_
  refine wC_forV_cons.mpr ⟨_, rfl, ?_⟩
  refine jloop 2 (by omega) _ _ _ _ _ _ _ h3 fun s4 d4 d5 d6 d7 h4 => ?_
  refine wC_forV_nil.mpr ?_
  simp
  refine hQ s4 _ _ _ _ (fun k o e => h4.lo k o (lt_of_get e) e) (grid_cg h4.g fun i j hi hj => ?_)
  match i, hi, j, hj with
  | 0, _, 0, _ => simp [upk, updM]
  | 0, _, 1, _ => simp [upk, updM]
  | 0, _, 2, _ => simp [upk, updM]
  | 1, _, 0, _ => simp [upk, updM]
  | 1, _, 1, _ => simp [upk, updM]
  | 1, _, 2, _ => simp [upk, updM]
  | 2, _, 0, _ => simp [upk, updM]
  | 2, _, 1, _ => simp [upk, updM]
  | 2, _, 2, _ => simp [upk, updM]
end P1
namespace P1
open PySem Fc
theorem beqN (x y : Nat) : ((x : Int) == (y : Int)) = (x == y) := by
  by_cases h : x = y
  · simp [h]
  · have : ¬ (x : Int) = y := by omega
    rw [beq_eq_false_iff_ne.mpr h, beq_eq_false_iff_ne.mpr this]
def hit1 (a : Arc) : Bool := (a.1 == a.2.1) && a.2.2
def hit2 (a b : Arc) : Bool := (b.1 == a.2.1) && ((b.2.1 == a.1) && (a.2.2 || b.2.2))
def hit3 (a b c : Arc) : Bool := (b.1 == a.2.1) && ((c.1 == b.2.1) && ((c.2.1 == a.1) && (a.2.2 || (b.2.2 || c.2.2))))
theorem arc_val {M : Mt} (hM : Bd2 M) {a : Arc} (h : a ∈ arcsA M) : a.1 < 3 ∧ a.2.1 < 3 ∧ M a.1 a.2.1 = 1 + a.2.2.toNat := by
  obtain ⟨h1, h2, h3, h4⟩ := mem_arcs.mp h
  refine ⟨h1, h2, ?_⟩
  rw [h4]
  have := hM a.1 a.2.1
  match hv : M a.1 a.2.1, this with
  | 0, _ => omega
  | 1, _ => rfl
  | 2, _ => rfl
theorem hf_of {M : Mt} (hM : Bd2 M) {n i : Nat} (hi : i < 3) (h : pw M n i i = 2) : hf M = true := (hf_iff hM).mpr ⟨n, i, hi, h⟩
theorem hf_hit1 {M : Mt} (hM : Bd2 M) {a : Arc} (ha : a ∈ arcsA M) (h : hit1 a = true) : hf M = true := by
  obtain ⟨h1, h2, h3⟩ := arc_val hM ha
  simp [hit1] at h
  refine hf_of hM (n := 0) h1 ?_
  show M a.1 a.1 = 2
  rw [← h.1] at h3
  rw [h3, h.2]
  rfl
theorem hf_hit2 {M : Mt} (hM : Bd2 M) {a b : Arc} (ha : a ∈ arcsA M) (hb : b ∈ arcsA M) (h : hit2 a b = true) : hf M = true := by
  obtain ⟨h1, h2, h3⟩ := arc_val hM ha
  obtain ⟨k1, k2, k3⟩ := arc_val hM hb
  simp [hit2] at h
  obtain ⟨e1, e2, e3⟩ := h
  rw [e1, e2] at k3
  refine hf_of hM (n := 1) h1 ?_
  have h4 := tm_le_mul (M := M) (N := M) h1 h1 h2
  have h5 := mul_bd hM hM a.1 a.1
  have h6 : tm (M a.1 a.2.1) (M a.2.1 a.1) = 2 := by
    rw [h3, k3]
    unfold tm
    rcases e3 with e | e <;> rw [e]
    · cases b.2.2 <;> rfl
    · cases a.2.2 <;> rfl
  show mulM M M a.1 a.1 = 2
  omega
theorem hf_hit3 {M : Mt} (hM : Bd2 M) {a b c : Arc} (ha : a ∈ arcsA M) (hb : b ∈ arcsA M) (hc : c ∈ arcsA M) (h : hit3 a b c = true) : hf M = true := by
  obtain ⟨h1, h2, h3⟩ := arc_val hM ha
  obtain ⟨k1, k2, k3⟩ := arc_val hM hb
  obtain ⟨l1, l2, l3⟩ := arc_val hM hc
  simp [hit3] at h
  obtain ⟨e1, e2, e3, e4⟩ := h
  rw [e1] at k3
  rw [e2, e3] at l3
  refine hf_of hM (n := 2) h1 ?_
  have h4 := tm_le_mul (M := M) (N := M) h1 k2 h2
  have h5 := mul_bd hM hM a.1 b.2.1
  have h6 := tm_le_mul (M := mulM M M) (N := M) h1 h1 k2
  have h7 := mul_bd (mul_bd hM hM) hM a.1 a.1
  have h8 : tm (tm (M a.1 a.2.1) (M a.2.1 b.2.1)) (M b.2.1 a.1) = 2 := by
    rw [h3, k3, l3]
    unfold tm
    rcases e4 with e | e | e <;> rw [e]
    · cases b.2.2 <;> cases c.2.2 <;> rfl
    · cases a.2.2 <;> cases c.2.2 <;> rfl
    · cases a.2.2 <;> cases b.2.2 <;> rfl
  have h9 := tm_le h4 (Nat.le_refl (M b.2.1 a.1))
  show mulM (mulM M M) M a.1 a.1 = 2
  omega
theorem arc_of {M : Mt} (hM : Bd2 M) {i j : Nat} (hi : i < 3) (hj : j < 3) (h : 0 < M i j) : (i, j, M i j == 2) ∈ arcsA M := mem_arcs.mpr ⟨hi, hj, h, rfl⟩
theorem hf_none {M : Mt} (hM : Bd2 M) (h1 : ∀ a ∈ arcsA M, hit1 a = false) (h2 : ∀ a ∈ arcsA M, ∀ b ∈ arcsA M, hit2 a b = false) (h3 : ∀ a ∈ arcsA M, ∀ b ∈ arcsA M, ∀ c ∈ arcsA M, hit3 a b c = false) : hf M = false := by
  refine Bool.eq_false_iff.mpr fun h => ?_
  unfold hf at h
  simp only [Bool.or_eq_true, dg_iff] at h
  rcases h with ⟨i, hi, h⟩ | ⟨i, hi, h⟩ | ⟨i, hi, h⟩
  · have := h1 _ (arc_of hM hi hi (by omega))
    simp [hit1, h] at this
  · obtain ⟨k, hk, e⟩ := mul_ex (M := M) (N := M) hi hi
    have h' : tm (M i k) (M k i) = 2 := by rw [← e]; exact h
    obtain ⟨p1, p2, p3⟩ := tm_2 h'
    have := h2 _ (arc_of hM hi hk p1) _ (arc_of hM hk hi p2)
    simp [hit2] at this
    omega
  · obtain ⟨k, hk, e⟩ := mul_ex (M := mulM M M) (N := M) hi hi
    have h' : tm (mulM M M i k) (M k i) = 2 := by rw [← e]; exact h
    obtain ⟨p1, p2, p3⟩ := tm_2 h'
    obtain ⟨l, hl, e2⟩ := mul_ex (M := M) (N := M) hi hk
    have hq : 0 < tm (M i l) (M l k) := by rw [← e2]; exact p1
    obtain ⟨q1, q2⟩ := tm_pos.mp hq
    have := h3 _ (arc_of hM hi hl q1) _ (arc_of hM hl hk q2) _ (arc_of hM hk hi p2)
    simp [hit3] at this
    rcases p3 with p3 | p3
    · rw [e2] at p3
      obtain ⟨_, _, r⟩ := tm_2 p3
      omega
    · omega
namespace K22
noncomputable section
def b_law_around : C :=
 (cSeq (cFor (iSrc .seq (eVar 0)) (gTup 3 (gCons (gName 1) (gCons (gName 2) (gCons (gName 3) gNil))))
 (cSeq (cIf (tAnd (tB (e2 oEq (eVar 1) (eVar 2))) (tE (eVar 3)))
 (cRet (eC (.bl true)))
 cNil)
 (cFor (iSrc .seq (eVar 0)) (gTup 3 (gCons (gName 4) (gCons (gName 5) (gCons (gName 6) gNil))))
 (cSeq (cIf (tAnd (tB (e2 oEq (eVar 4) (eVar 2))) (tAnd (tB (e2 oEq (eVar 5) (eVar 1))) (tOr (tE (eVar 3)) (tE (eVar 6)))))
 (cRet (eC (.bl true)))
 cNil)
 (cFor (iSrc .seq (eVar 0)) (gTup 3 (gCons (gName 7) (gCons (gName 8) (gCons (gName 9) gNil))))
 (cIf (tAnd (tB (e2 oEq (eVar 4) (eVar 2))) (tAnd (tB (e2 oEq (eVar 7) (eVar 5))) (tAnd (tB (e2 oEq (eVar 8) (eVar 1))) (tOr (tE (eVar 3)) (tOr (tE (eVar 6)) (tE (eVar 9)))))))
 (cRet (eC (.bl true)))
 cNil))))))
 (cRet (eC (.bl false))))
def d_law_around : F := defF 1 10 b_law_around
end
end K22
open K22
namespace K22
noncomputable section
def B3 : C := (cIf (tAnd (tB (e2 oEq (eVar 4) (eVar 2))) (tAnd (tB (e2 oEq (eVar 7) (eVar 5))) (tAnd (tB (e2 oEq (eVar 8) (eVar 1))) (tOr (tE (eVar 3)) (tOr (tE (eVar 6)) (tE (eVar 9)))))))
 (cRet (eC (.bl true)))
 cNil)
def C3 : C := (cFor (iSrc .seq (eVar 0)) (gTup 3 (gCons (gName 7) (gCons (gName 8) (gCons (gName 9) gNil)))) B3)
def B2 : C := (cSeq (cIf (tAnd (tB (e2 oEq (eVar 4) (eVar 2))) (tAnd (tB (e2 oEq (eVar 5) (eVar 1))) (tOr (tE (eVar 3)) (tE (eVar 6)))))
 (cRet (eC (.bl true)))
 cNil) C3)
def C2 : C := (cFor (iSrc .seq (eVar 0)) (gTup 3 (gCons (gName 4) (gCons (gName 5) (gCons (gName 6) gNil)))) B2)
def B1 : C := (cSeq (cIf (tAnd (tB (e2 oEq (eVar 1) (eVar 2))) (tE (eVar 3)))
 (cRet (eC (.bl true)))
 cNil) C2)
theorem around_eq : b_law_around = cSeq (cFor (iSrc .seq (eVar 0)) (gTup 3 (gCons (gName 1) (gCons (gName 2) (gCons (gName 3) gNil)))) B1) (cRet (eC (.bl false))) := rfl
end
end K22
section
variable {s : S} {As : List Arc} {P : Pst} {a b c : Arc} {dT : D} {t1 t2 t3 t4 t5 t6 t7 t8 t9 : Option D}
/-- a loop over arcs: each a hit, or none -/
theorem wC_hits {g : G} {bd : C} {σ : Fc.Env} (hit : Arc → Prop) (Sh : Fc.Env → Prop) (h0 : Sh σ)
    (hs : ∀ a ∈ As, ∀ σ, Sh σ → ∃ σ1, g (aD a) σ s = some σ1 ∧ ∀ P' : Pst, P'.rt = P.rt → (¬ hit a → ∀ σ2, Sh σ2 → P'.nx σ2 s) → wC (bd σ1 s) P')
    (hn : (∀ a ∈ As, ¬ hit a) → ∀ σ, Sh σ → P.nx σ s) : wC (forV g bd (As.map aD) σ s) P := by
  refine wC_forV (fun (ds : List D) (σ : Fc.Env) (s' : S) => ∃ A1 A2, As = A1 ++ A2 ∧ ds = A2.map aD ∧ s' = s ∧ Sh σ ∧ ∀ a ∈ A1, ¬ hit a) _ ⟨[], As, rfl, rfl, rfl, h0, by simp⟩ ?_ ?_
  · rintro d r σ s' ⟨A1, A2, ea, ed, rfl, sh, no⟩
    cases A2 with
    | nil => cases ed
    | cons a A2 =>
      cases ed
      have ha : a ∈ As := by rw [ea]; simp
      obtain ⟨σ1, h1, h2⟩ := hs a ha σ sh
      refine ⟨σ1, h1, h2 _ rfl fun e σ2 sh2 => ⟨A1 ++ [a], A2, by simp [ea], rfl, rfl, sh2, ?_⟩⟩
      intro x hx
      rcases List.mem_append.mp hx with hx | hx
      · exact no x hx
      · simp at hx; subst hx; exact e
  · rintro σ s' ⟨A1, A2, ea, ed, rfl, sh, no⟩
    cases A2 with
    | cons a A2 => cases ed
    | nil =>
      simp at ea
      subst ea
      exact hn no σ sh
theorem st_B3 (hy : hit3 a b c = true → P.rt (.bl true) s) (hn : hit3 a b c = false → P.nx [some dT, some (.int a.1), some (.int a.2.1), some (.bl a.2.2), some (.int b.1), some (.int b.2.1), some (.bl b.2.2), some (.int c.1), some (.int c.2.1), some (.bl c.2.2)] s) :
    wC (B3 [some dT, some (.int a.1), some (.int a.2.1), some (.bl a.2.2), some (.int b.1), some (.int b.2.1), some (.bl b.2.2), some (.int c.1), some (.int c.2.1), some (.bl c.2.2)] s) P := by
  unfold B3
  unfold hit3 at hy hn
  simp [eqD_int, beqN]
  generalize (b.1 == a.2.1) = x1 at *
  generalize (c.1 == b.2.1) = x2 at *
  generalize (c.2.1 == a.1) = x3 at *
  obtain ⟨i, j, d1⟩ := a
  obtain ⟨k, l, d2⟩ := b
  obtain ⟨m, n, d3⟩ := c
  simp only at hy hn ⊢
  cases x1 <;> cases x2 <;> cases x3 <;> cases d1 <;> cases d2 <;> cases d3 <;> first | exact hn rfl | exact hy rfl
theorem st_C3 (src : srcOf .seq dT s = some (.vals (As.map aD))) (hy : ∀ c ∈ As, hit3 a b c = true → P.rt (.bl true) s) (hn : (∀ c ∈ As, hit3 a b c = false) → ∀ t7 t8 t9, P.nx [some dT, some (.int a.1), some (.int a.2.1), some (.bl a.2.2), some (.int b.1), some (.int b.2.1), some (.bl b.2.2), t7, t8, t9] s) :
    wC (C3 [some dT, some (.int a.1), some (.int a.2.1), some (.bl a.2.2), some (.int b.1), some (.int b.2.1), some (.bl b.2.2), t7, t8, t9] s) P := by
  unfold C3
  generalize hB : B3 = Bd
  simp
  rw [src, onO_some]
  dsimp only
  refine wC_hits (fun c => hit3 a b c = true) (fun σ => ∃ t7 t8 t9, σ = [some dT, some (.int a.1), some (.int a.2.1), some (.bl a.2.2), some (.int b.1), some (.int b.2.1), some (.bl b.2.2), t7, t8, t9]) ⟨_, _, _, rfl⟩ ?_ ?_
  · rintro c hc σ ⟨t7, t8, t9, rfl⟩
    refine ⟨[some dT, some (.int a.1), some (.int a.2.1), some (.bl a.2.2), some (.int b.1), some (.int b.2.1), some (.bl b.2.2), some (.int c.1), some (.int c.2.1), some (.bl c.2.2)], rfl, fun P' er hx => ?_⟩
    rw [← hB]
    exact st_B3 (fun h => by rw [er]; exact hy c hc h) fun h => hx (by rw [h]; simp) _ ⟨_, _, _, rfl⟩
  · rintro no σ ⟨t7, t8, t9, rfl⟩
    exact hn (fun c hc => by simpa using no c hc) _ _ _
theorem st_C2 (src : srcOf .seq dT s = some (.vals (As.map aD))) (hy : ∀ b ∈ As, (hit2 a b = true → P.rt (.bl true) s) ∧ ∀ c ∈ As, hit3 a b c = true → P.rt (.bl true) s) (hn : (∀ b ∈ As, hit2 a b = false ∧ ∀ c ∈ As, hit3 a b c = false) → ∀ t4 t5 t6 t7 t8 t9, P.nx [some dT, some (.int a.1), some (.int a.2.1), some (.bl a.2.2), t4, t5, t6, t7, t8, t9] s) :
    wC (C2 [some dT, some (.int a.1), some (.int a.2.1), some (.bl a.2.2), t4, t5, t6, t7, t8, t9] s) P := by
  unfold C2
  generalize hB : B2 = Bd
  simp
  rw [src, onO_some]
  dsimp only
  refine wC_hits (fun b => ¬ (hit2 a b = false ∧ ∀ c ∈ As, hit3 a b c = false)) (fun σ => ∃ t4 t5 t6 t7 t8 t9, σ = [some dT, some (.int a.1), some (.int a.2.1), some (.bl a.2.2), t4, t5, t6, t7, t8, t9]) ⟨_, _, _, _, _, _, rfl⟩ ?_ ?_
  · rintro b hb σ ⟨t4, t5, t6, t7, t8, t9, rfl⟩
    refine ⟨[some dT, some (.int a.1), some (.int a.2.1), some (.bl a.2.2), some (.int b.1), some (.int b.2.1), some (.bl b.2.2), t7, t8, t9], rfl, fun P' er hx => ?_⟩
    rw [← hB]
    obtain ⟨h2, h3⟩ := hy b hb
    rw [← er] at h2
    have h3' : ∀ c ∈ As, hit3 a b c = true → P'.rt (.bl true) s := fun c hc h => by rw [er]; exact h3 c hc h
    have last : hit2 a b = false → wC (C3 [some dT, some (.int a.1), some (.int a.2.1), some (.bl a.2.2), some (.int b.1), some (.int b.2.1), some (.bl b.2.2), t7, t8, t9] s) P' := fun h => st_C3 src h3' fun h0 u7 u8 u9 => hx (fun z => z ⟨h, h0⟩) _ ⟨_, _, _, _, _, _, rfl⟩
    unfold B2
    generalize C3 = R3 at *
    unfold hit2 at h2 last
    simp [eqD_int, beqN]
    generalize (b.1 == a.2.1) = x1 at *
    generalize (b.2.1 == a.1) = x2 at *
    obtain ⟨i, j, d1⟩ := a
    obtain ⟨k, l, d2⟩ := b
    simp only at h2 last ⊢
    cases x1 <;> cases x2 <;> cases d1 <;> cases d2 <;> first | exact last rfl | exact h2 rfl
  · rintro no σ ⟨t4, t5, t6, t7, t8, t9, rfl⟩
    exact hn (fun b hb => Classical.byContradiction fun z => no b hb z) _ _ _ _ _ _
theorem sp_around22 {M : Mt} {X : Xc} {Q : D → S → Prop} (hM : Bd2 M) (hQ : Q (.bl (hf M)) s) : wE (d_law_around [.tup ((arcsA M).map aD)] s) Q X := by
  unfold d_law_around
  refine (v_def (by rfl)).mpr ?_
  rw [around_eq]
  have yes : hf M = true → Q (.bl true) s := fun h => by rw [h] at hQ; exact hQ
  generalize hdT : D.tup ((arcsA M).map aD) = dT
  have src : srcOf .seq dT s = some (.vals ((arcsA M).map aD)) := by rw [← hdT]; rfl
  generalize hB : B1 = Bd
  simp
  rw [src, onO_some]
  dsimp only
  refine wC_hits (fun a => ¬ (hit1 a = false ∧ ∀ b ∈ arcsA M, hit2 a b = false ∧ ∀ c ∈ arcsA M, hit3 a b c = false)) (fun σ => ∃ t1 t2 t3 t4 t5 t6 t7 t8 t9 : Option D, σ = [some dT, t1, t2, t3, t4, t5, t6, t7, t8, t9]) ⟨_, _, _, _, _, _, _, _, _, rfl⟩ ?_ ?_
  · rintro a ha σ ⟨t1, t2, t3, t4, t5, t6, t7, t8, t9, rfl⟩
    refine ⟨[some dT, some (.int a.1), some (.int a.2.1), some (.bl a.2.2), t4, t5, t6, t7, t8, t9], rfl, fun P' er hx => ?_⟩
    rw [← hB]
    have y1 : hit1 a = true → P'.rt (.bl true) s := fun h => by rw [er]; exact yes (hf_hit1 hM ha h)
    have y2 : ∀ b ∈ arcsA M, (hit2 a b = true → P'.rt (.bl true) s) ∧ ∀ c ∈ arcsA M, hit3 a b c = true → P'.rt (.bl true) s := fun b hb => by
      rw [er]
      exact ⟨fun h => yes (hf_hit2 hM ha hb h), fun c hc h => yes (hf_hit3 hM ha hb hc h)⟩
    have last : hit1 a = false → wC (C2 [some dT, some (.int a.1), some (.int a.2.1), some (.bl a.2.2), t4, t5, t6, t7, t8, t9] s) P' := fun h => st_C2 src y2 fun h0 u4 u5 u6 u7 u8 u9 => hx (fun z => z ⟨h, h0⟩) _ ⟨_, _, _, _, _, _, _, _, _, rfl⟩
    unfold B1
    generalize C2 = R2 at *
    unfold hit1 at y1 last
    simp [eqD_int, beqN]
    generalize (a.1 == a.2.1) = x1 at *
    obtain ⟨i, j, d1⟩ := a
    simp only at y1 last ⊢
    cases x1 <;> cases d1 <;> first | exact last rfl | exact y1 rfl
  · rintro no σ ⟨t1, t2, t3, t4, t5, t6, t7, t8, t9, rfl⟩
    have no' : ∀ a ∈ arcsA M, hit1 a = false ∧ ∀ b ∈ arcsA M, hit2 a b = false ∧ ∀ c ∈ arcsA M, hit3 a b c = false := fun a ha => Classical.byContradiction fun z => no a ha z
    have e := hf_none hM (fun a ha => (no' a ha).1) (fun a ha b hb => ((no' a ha).2 b hb).1) fun a ha b hb c hc => ((no' a ha).2 b hb).2 c hc
    rw [e] at hQ
    simp
    exact hQ
end
end P1
namespace P1
open PySem Fc
namespace K22
noncomputable section
def b_law_power : C :=
 (cSeq (cPar 2 3 (lCons (eC .non) (lCons (eVar 0) lNil)))
 (cSeq (cWhile (tB (e2 oGt (eVar 1) (eC (.int 0))))
 (cSeq (cIf (tB (e2 oEq (e2 oMod (eN fInt (lCons (eVar 1) lNil)) (eC (.int 2))) (eC (.int 1))))
 (cSet (eIf (tB (e1 oIsN (eVar 2))) (eVar 3) (eCall d_law_times [] (lCons (eVar 2) (lCons (eVar 3) lNil)))) (gName 2))
 cNil)
 (cPar 3 1 (lCons (eCall d_law_times [] (lCons (eVar 3) (lCons (eVar 3) lNil))) (lCons (e2 oDiv (eVar 1) (eC (.int 2))) lNil)))))
 (cRet (eVar 2))))
def d_law_power : F := defF 2 4 b_law_power
end
end K22
open K22
section
variable {s s' : S} {X : Xc} {Q : D → S → Prop} {M N : Mt} {n m : Nat}
def Gr (s : S) (n : Nat) (M : Mt) : Prop := ∃ r0 r1 r2, GridAt s n r0 r1 r2 M
theorem Gr.pf (h : Gr s n M) (p : Pf s s') : Gr s' n M := by
  obtain ⟨r0, r1, r2, g⟩ := h
  exact ⟨r0, r1, r2, g.pf p⟩
theorem sp_timesG (hM : Gr s n M) (hN : Gr s m N) (hQ : ∀ s' n', Pf s s' → Gr s' n' (mulM M N) → Q (.ref n') s') : wE (d_law_times [.ref n, .ref m] s) Q X := by
  obtain ⟨_, _, _, g⟩ := hM
  obtain ⟨_, _, _, h⟩ := hN
  exact sp_times g h fun s' n' r0 r1 r2 p k => hQ s' n' p ⟨_, _, _, k⟩
/-- what is found so far -/
def Fnd (s : S) (M : Mt) (d : D) : Option Nat → Prop
  | none => d = .non
  | some q => ∃ n, d = .ref n ∧ Gr s n (pw M q)
theorem Fnd.pf {d : D} : ∀ {f : Option Nat}, Fnd s M d f → Pf s s' → Fnd s' M d f
  | none, h, _ => h
  | some q, ⟨n, e, h⟩, p => ⟨n, e, h.pf p⟩
theorem sp_law_power {k : Nat} (hM : Gr s n M) (hQ : ∀ s' n', Pf s s' → Gr s' n' (pw M k) → Q (.ref n') s') : wE (d_law_power [.ref n, .int ((k : Int) + 1)] s) Q X := by
  unfold d_law_power
  refine (v_def (by rfl)).mpr ?_
  unfold b_law_power
  generalize hW : cWhile _ _ = Wh
  simp
  rw [← hW]
  have e2 : decide (bits 2 < 8000) = true := by decide +kernel
  refine wC_while (fun n' σ s' => Pf s s' ∧ ∃ (l p b : Nat) (f : Option Nat) (d : D), σ = [some (.ref n), some (.int (l : Int)), some d, some (.ref b)] ∧ Fnd s' M d f ∧ Gr s' b (pw M p) ∧ l ≤ n' ∧ (match f with | none => l * (p + 1) = k + 1 | some q => q + 1 + l * (p + 1) = k + 1)) (k + 1) ⟨Pf.refl, k + 1, 0, n, none, .non, ?_, rfl, hM, Nat.le_refl _, by simp⟩ ?_
  · simp
  · rintro n' σ s2 ⟨p2, l, p, b, f, d, rfl, hf, hb, hl, inv⟩
    simp
    by_cases h0 : l = 0
    · subst h0
      simp
      cases f with
      | none => simp at inv
      | some q =>
        simp at inv
        subst inv
        obtain ⟨m, rfl, hm⟩ := hf
        exact hQ _ m p2 hm
    · have hl0 : decide (0 < l) = true := decide_eq_true (by omega)
      rw [if_pos (by omega)]
      refine ⟨n' - 1, by omega, ?_⟩
      simp [eqD_int, e2]
      have hh : l * (p + 1) = 2 * (l / 2 * (p + 1)) + (l % 2) * (p + 1) := by
        have e := Nat.div_add_mod l 2
        have e2 : l * (p + 1) = (2 * (l / 2) + l % 2) * (p + 1) := by rw [e]
        rw [e2, Nat.add_mul, Nat.mul_assoc]
      have hq : l / 2 * (p + p + 1 + 1) = 2 * (l / 2 * (p + 1)) := by
        rw [show p + p + 1 + 1 = 2 * (p + 1) by omega, Nat.mul_left_comm]
      have fin : ∀ (f' : Option Nat) (w : D) (s3 : S), Fnd s3 M w f' → Pf s2 s3 → (match f' with | none => (l / 2) * (p + p + 1 + 1) = k + 1 | some q => q + 1 + (l / 2) * (p + p + 1 + 1) = k + 1) →
          wE (d_law_times [.ref b, .ref b] s3) (fun x s1 => Pf s s1 ∧ ∃ (l1 p1 b1 : Nat) (f1 : Option Nat) (d1 : D), ((l : Int) / 2 = (l1 : Int) ∧ w = d1 ∧ x = .ref b1) ∧ Fnd s1 M d1 f1 ∧ Gr s1 b1 (pw M p1) ∧ l1 ≤ n' - 1 ∧ (match f1 with | none => l1 * (p1 + 1) = k + 1 | some q => q + 1 + l1 * (p1 + 1) = k + 1)) X := by
        intro f' w s3 hw p3 inv'
        refine sp_timesG (hb.pf p3) (hb.pf p3) fun s4 b4 p4 h4 => ?_
        rw [pw_add] at h4
        exact ⟨p2.trans (p3.trans p4), l / 2, p + p + 1, b4, f', w, ⟨by simp, rfl, rfl⟩, hw.pf p4, h4, by omega, inv'⟩
      refine onT_by (fun z => ?_) fun z => ?_
      · have z : l % 2 = 1 := by
          have : (l : Int) % 2 = 1 := by simpa using z
          omega
        rw [z] at hh
        cases f with
        | none =>
          have hf : d = .non := hf
          subst hf
          have e0 : isNon D.non = true := rfl
          rw [e0, onT_t]
          simp only at inv
          refine fin (some p) (.ref b) s2 ⟨b, rfl, hb⟩ Pf.refl ?_
          show p + 1 + l / 2 * (p + p + 1 + 1) = k + 1
          omega
        | some q =>
          obtain ⟨m, rfl, hm⟩ := hf
          have e0 : isNon (D.ref m) = false := rfl
          rw [e0, onT_f]
          simp only at inv
          refine sp_timesG hm hb fun s3 m3 p3 h3 => ?_
          rw [pw_add] at h3
          refine fin (some (q + p + 1)) _ s3 ⟨m3, rfl, h3⟩ p3 ?_
          show q + p + 1 + 1 + l / 2 * (p + p + 1 + 1) = k + 1
          omega
      · have z : l % 2 = 0 := by
          have : ¬ (l : Int) % 2 = 1 := by simpa using z
          omega
        rw [z] at hh
        refine fin f d s2 hf Pf.refl ?_
        cases f with
        | none =>
          simp only at inv ⊢
          omega
        | some q =>
          simp only at inv ⊢
          omega
end
end P1
namespace P1
open PySem Fc
namespace K23
noncomputable section
def b_law_around_right : C :=
 (cSeq (cPar 3 4 (lCons (eCall d_product [] (lCons (eVar 1) (lCons (eVar 2) lNil))) (lCons (eCall d_product [] (lCons (eVar 2) (lCons (eVar 1) lNil))) lNil)))
 (cSeq (cIf (tB (e2 oNe (eCall d_has_fall [] (lCons (eVar 3) lNil)) (eCall d_has_fall [] (lCons (eVar 4) lNil))))
 (cRet (eC (.bl false)))
 cNil)
 (cSeq (cPar 5 6 (lCons (e2 oAdd (eC (.int 1)) (eCall d_law_random [] (lCons (eVar 0) (lCons (e2 oPow (eC (.int 10)) (eC (.int 14))) lNil)))) (lCons (e2 oAdd (eC (.int 1)) (eCall d_law_random [] (lCons (eVar 0) (lCons (e2 oPow (eC (.int 10)) (eC (.int 14))) lNil)))) lNil)))
 (cSeq (cIf (tB (e2 oNe (eCall d_product [] (lCons (eCall d_power [] (lCons (eVar 3) (lCons (eVar 5) lNil))) (lCons (eCall d_power [] (lCons (eVar 3) (lCons (eVar 6) lNil))) lNil))) (eCall d_power [] (lCons (eVar 3) (lCons (e2 oAdd (eVar 5) (eVar 6)) lNil)))))
 (cRet (eC (.bl false)))
 cNil)
 (cSeq (cIf (tOr (tB (e2 oNe (eCall d_power [] (lCons (eCall d_power [] (lCons (eVar 3) (lCons (eVar 5) lNil))) (lCons (eVar 6) lNil))) (eCall d_power [] (lCons (eVar 3) (lCons (e2 oMul (eVar 5) (eVar 6)) lNil))))) (tB (e2 oNe (eCall d_has_fall [] (lCons (eCall d_power [] (lCons (eVar 3) (lCons (eVar 5) lNil))) lNil)) (eCall d_has_fall [] (lCons (eVar 3) lNil)))))
 (cRet (eC (.bl false)))
 cNil)
 (cRet (e2 oEq (eCall d_product [] (lCons (eCall d_product [] (lCons (eCall d_power [] (lCons (eVar 3) (lCons (eVar 5) lNil))) (lCons (eVar 1) lNil))) (lCons (eVar 2) lNil))) (eCall d_power [] (lCons (eVar 3) (lCons (e2 oAdd (eVar 5) (eC (.int 1))) lNil))))))))))
def d_law_around_right : F := defF 3 7 b_law_around_right
def b_law : C :=
 (cSeq (cSet (eN mTup (lCons (eN mTup (lCons (eC (.int 0)) (lCons (eC (.int 0)) (lCons (eC (.bl false)) lNil)))) (lCons (eN mTup (lCons (eC (.int 1)) (lCons (eC (.int 1)) (lCons (eC (.bl false)) lNil)))) (lCons (eN mTup (lCons (eC (.int 2)) (lCons (eC (.int 2)) (lCons (eC (.bl false)) lNil)))) lNil)))) (gName 1))
 (cSeq (cFor (iRange (eC (.int 0)) (eC (.int 4))) (gName 2)
 (cSeq (cSet (eCall d_law_generator [] (lCons (eVar 0) (lCons (eVar 2) lNil))) (gName 3))
 (cSeq (cPar 4 5 (lCons (eCall d_law_table [] (lCons (eVar 3) (lCons (eC (.str "f")) (lCons (eC (.str "g")) lNil)))) (lCons (eCall d_law_table [] (lCons (eVar 3) (lCons (eC (.str "g")) (lCons (eC (.str "f")) lNil)))) lNil)))
 (cSeq (cSet (eCall d_law_table [] (lCons (eVar 3) (lCons (eC (.str "f")) (lCons (eC (.str "zz")) lNil)))) (gName 6))
 (cSeq (cIf (tB (e2 oNe (eCall d_product [] (lCons (eCall d_product [] (lCons (eVar 4) (lCons (eVar 5) lNil))) (lCons (eVar 6) lNil))) (eCall d_product [] (lCons (eVar 4) (lCons (eCall d_product [] (lCons (eVar 5) (lCons (eVar 6) lNil))) lNil)))))
 (cRet (eC (.bl false)))
 cNil)
 (cSeq (cIf (tOr (tB (e2 oNe (eCall d_product [] (lCons (eN mTup (lCons (eC (.str "f")) (lCons (eC (.str "f")) (lCons (eVar 1) lNil)))) (lCons (eVar 4) lNil))) (eVar 4))) (tB (e2 oNe (eCall d_product [] (lCons (eVar 4) (lCons (eN mTup (lCons (eC (.str "g")) (lCons (eC (.str "g")) (lCons (eVar 1) lNil)))) lNil))) (eVar 4))))
 (cRet (eC (.bl false)))
 cNil)
 (cSeq (cPar 7 8 (lCons (eCall d_law_more [] (lCons (eVar 3) (lCons (eVar 4) lNil))) (lCons (eCall d_law_more [] (lCons (eVar 3) (lCons (eVar 5) lNil))) lNil)))
 (cSeq (cIf (tNot (tE (eCall d_law_at_least [] (lCons (eCall d_product [] (lCons (eVar 7) (lCons (eVar 8) lNil))) (lCons (eCall d_product [] (lCons (eVar 4) (lCons (eVar 5) lNil))) lNil)))))
 (cRet (eC (.bl false)))
 cNil)
 (cSeq (cIf (tAnd (tE (eCall d_has_fall [] (lCons (eCall d_product [] (lCons (eVar 4) (lCons (eVar 5) lNil))) lNil))) (tNot (tE (eCall d_has_fall [] (lCons (eCall d_product [] (lCons (eVar 7) (lCons (eVar 8) lNil))) lNil)))))
 (cRet (eC (.bl false)))
 cNil)
 (cIf (tOr (tNot (tE (eCall d_law_around_right [] (lCons (eVar 3) (lCons (eVar 4) (lCons (eVar 5) lNil)))))) (tNot (tE (eCall d_law_around_right [] (lCons (eVar 3) (lCons (eVar 5) (lCons (eVar 4) lNil)))))))
 (cRet (eC (.bl false)))
 cNil))))))))))
 (cRet (eC (.bl true)))))
def d_law : F := defF 1 9 b_law
end
end K23
open K23
theorem ok_f : PyData.strOk "f" = true := by decide +kernel
theorem ok_g : PyData.strOk "g" = true := by decide +kernel
theorem ok_hh : PyData.strOk "hh" = true := by decide +kernel
end P1
namespace P1
open PySem Fc
namespace K22
noncomputable section
def b_law : C :=
 (cSeq (cFor (iRange (eC (.int 0)) (eC (.int 4))) (gName 1)
 (cSeq (cSet (eCall d_law_generator [] (lCons (eVar 0) (lCons (eVar 1) lNil))) (gName 2))
 (cSeq (cPar 3 4 (lCons (eCall d_law_table [] (lCons (eVar 2) (lCons (eC (.str "f")) (lCons (eC (.str "g")) lNil)))) (lCons (eCall d_law_table [] (lCons (eVar 2) (lCons (eC (.str "g")) (lCons (eC (.str "hh")) lNil)))) lNil)))
 (cSeq (cSet (eN mTup (lCons (eC (.str "f")) (lCons (eC (.str "hh")) (lCons (eCall d_law_listed [] (lCons (eCall d_law_times [] (lCons (eCall d_law_grid [] (lCons (e2 oAt (eVar 3) (eC (.int 2))) lNil)) (lCons (eCall d_law_grid [] (lCons (e2 oAt (eVar 4) (eC (.int 2))) lNil)) lNil))) lNil)) lNil)))) (gName 5))
 (cSeq (cIf (tOr (tB (e2 oNe (eN fRepr (lCons (eCall d_product [] (lCons (eVar 3) (lCons (eVar 4) lNil))) lNil)) (eN fRepr (lCons (eVar 5) lNil)))) (tNot (tE (eCall d_is_table [] (lCons (eCall d_product [] (lCons (eVar 3) (lCons (eVar 4) lNil))) lNil)))))
 (cRet (eC (.bl false)))
 cNil)
 (cSeq (cIf (tB (e2 oNe (eN fRepr (lCons (eN mLst (lCons (eCall d_has_fall [] (lCons (eVar 3) lNil)) (lCons (eCall d_has_fall [] (lCons (eVar 5) lNil)) lNil))) lNil)) (eN fRepr (lCons (eN mLst (lCons (eC (.bl false)) (lCons (eC (.bl false)) lNil))) lNil))))
 (cRet (eC (.bl false)))
 cNil)
 (cFor (iRange (eC (.int 0)) (eC (.int 3))) (gName 6)
 (cSeq (cSet (eCall d_law_table [] (lCons (eVar 2) (lCons (eC (.str "f")) (lCons (eC (.str "f")) lNil)))) (gName 7))
 (cSeq (cPar 8 9 (lCons (eCall d_law_grid [] (lCons (e2 oAt (eVar 7) (eC (.int 2))) lNil)) (lCons (eVar 7) lNil)))
 (cSeq (cIf (tB (e2 oNe (eN fRepr (lCons (eCall d_has_fall [] (lCons (eVar 7) lNil)) lNil)) (eN fRepr (lCons (eCall d_law_around [] (lCons (e2 oAt (eVar 7) (eC (.int 2))) lNil)) lNil))))
 (cRet (eC (.bl false)))
 cNil)
 (cSeq (cSet (e2 oAdd (eC (.int 1)) (eCall d_law_random [] (lCons (eVar 2) (lCons (eC (.int 40)) lNil)))) (gName 10))
 (cSeq (cFor (iRange (eC (.int 0)) (e2 oSub (eVar 10) (eC (.int 1)))) (gName 11)
 (cSet (eCall d_product [] (lCons (eVar 9) (lCons (eVar 7) lNil))) (gName 9)))
 (cSeq (cSet (e2 oAdd (eC (.int 1)) (eCall d_law_random [] (lCons (eVar 2) (lCons (e2 oSub (e2 oPow (eC (.int 10)) (eC (.int 30))) (eC (.int 1))) lNil)))) (gName 12))
 (cSeq (cIf (tOr (tB (e2 oNe (eCall d_power [] (lCons (eVar 7) (lCons (eVar 10) lNil))) (eVar 9))) (tB (e2 oNe (eCall d_power [] (lCons (eVar 7) (lCons (eC (.int 1)) lNil))) (eVar 7))))
 (cRet (eC (.bl false)))
 cNil)
 (cIf (tB (e2 oNe (eN fRepr (lCons (eCall d_power [] (lCons (eVar 7) (lCons (eVar 12) lNil))) lNil)) (eN fRepr (lCons (eN mTup (lCons (eC (.str "f")) (lCons (eC (.str "f")) (lCons (eCall d_law_listed [] (lCons (eCall d_law_power [] (lCons (eVar 8) (lCons (eVar 12) lNil))) lNil)) lNil)))) lNil))))
 (cRet (eC (.bl false)))
 cNil)))))))))))))))
 (cRet (eC (.bl true))))
def d_law : F := defF 1 13 b_law
def U7 : C := (cIf (tB (e2 oNe (eN fRepr (lCons (eCall d_power [] (lCons (eVar 7) (lCons (eVar 12) lNil))) lNil)) (eN fRepr (lCons (eN mTup (lCons (eC (.str "f")) (lCons (eC (.str "f")) (lCons (eCall d_law_listed [] (lCons (eCall d_law_power [] (lCons (eVar 8) (lCons (eVar 12) lNil))) lNil)) lNil)))) lNil))))
 (cRet (eC (.bl false)))
 cNil)
def U6 : C := cSeq (cIf (tOr (tB (e2 oNe (eCall d_power [] (lCons (eVar 7) (lCons (eVar 10) lNil))) (eVar 9))) (tB (e2 oNe (eCall d_power [] (lCons (eVar 7) (lCons (eC (.int 1)) lNil))) (eVar 7))))
 (cRet (eC (.bl false)))
 cNil) U7
def U5 : C := cSeq (cSet (e2 oAdd (eC (.int 1)) (eCall d_law_random [] (lCons (eVar 2) (lCons (e2 oSub (e2 oPow (eC (.int 10)) (eC (.int 30))) (eC (.int 1))) lNil)))) (gName 12)) U6
def U4 : C := cSeq (cFor (iRange (eC (.int 0)) (e2 oSub (eVar 10) (eC (.int 1)))) (gName 11)
 (cSet (eCall d_product [] (lCons (eVar 9) (lCons (eVar 7) lNil))) (gName 9))) U5
def U3 : C := cSeq (cSet (e2 oAdd (eC (.int 1)) (eCall d_law_random [] (lCons (eVar 2) (lCons (eC (.int 40)) lNil)))) (gName 10)) U4
def U2 : C := cSeq (cIf (tB (e2 oNe (eN fRepr (lCons (eCall d_has_fall [] (lCons (eVar 7) lNil)) lNil)) (eN fRepr (lCons (eCall d_law_around [] (lCons (e2 oAt (eVar 7) (eC (.int 2))) lNil)) lNil))))
 (cRet (eC (.bl false)))
 cNil) U3
def U1 : C := cSeq (cPar 8 9 (lCons (eCall d_law_grid [] (lCons (e2 oAt (eVar 7) (eC (.int 2))) lNil)) (lCons (eVar 7) lNil))) U2
def U0 : C := cSeq (cSet (eCall d_law_table [] (lCons (eVar 2) (lCons (eC (.str "f")) (lCons (eC (.str "f")) lNil)))) (gName 7)) U1
def T6 : C := (cFor (iRange (eC (.int 0)) (eC (.int 3))) (gName 6) U0)
def T5 : C := cSeq (cIf (tB (e2 oNe (eN fRepr (lCons (eN mLst (lCons (eCall d_has_fall [] (lCons (eVar 3) lNil)) (lCons (eCall d_has_fall [] (lCons (eVar 5) lNil)) lNil))) lNil)) (eN fRepr (lCons (eN mLst (lCons (eC (.bl false)) (lCons (eC (.bl false)) lNil))) lNil))))
 (cRet (eC (.bl false)))
 cNil) T6
def T4 : C := cSeq (cIf (tOr (tB (e2 oNe (eN fRepr (lCons (eCall d_product [] (lCons (eVar 3) (lCons (eVar 4) lNil))) lNil)) (eN fRepr (lCons (eVar 5) lNil)))) (tNot (tE (eCall d_is_table [] (lCons (eCall d_product [] (lCons (eVar 3) (lCons (eVar 4) lNil))) lNil)))))
 (cRet (eC (.bl false)))
 cNil) T5
def T3 : C := cSeq (cSet (eN mTup (lCons (eC (.str "f")) (lCons (eC (.str "hh")) (lCons (eCall d_law_listed [] (lCons (eCall d_law_times [] (lCons (eCall d_law_grid [] (lCons (e2 oAt (eVar 3) (eC (.int 2))) lNil)) (lCons (eCall d_law_grid [] (lCons (e2 oAt (eVar 4) (eC (.int 2))) lNil)) lNil))) lNil)) lNil)))) (gName 5)) T4
def T2 : C := cSeq (cPar 3 4 (lCons (eCall d_law_table [] (lCons (eVar 2) (lCons (eC (.str "f")) (lCons (eC (.str "g")) lNil)))) (lCons (eCall d_law_table [] (lCons (eVar 2) (lCons (eC (.str "g")) (lCons (eC (.str "hh")) lNil)))) lNil))) T3
def T1 : C := cSeq (cSet (eCall d_law_generator [] (lCons (eVar 0) (lCons (eVar 1) lNil))) (gName 2)) T2
theorem law_eq : b_law = cSeq (cFor (iRange (eC (.int 0)) (eC (.int 4))) (gName 1) T1) (cRet (eC (.bl true))) := rfl
end
end K22
open K22
section
variable {s s' : S} {X : Xc} {Q : D → S → Prop} {P : Pst} {M N : Mt} {n m g B : Nat} {a0 a1 a2 a3 a4 a5 a6 a7 a8 a9 a10 a11 a12 : Option D}
theorem Gr.of_tab (hM : Bd2 M) : Gr (s ++ gridO s.length (foldG (fun _ _ => 0) (arcsA M))) (s.length + 3) M :=
  ⟨_, _, _, grid_cg gridO_at fun i j hi hj => fold_arcs hM hi hj⟩
theorem sp_gridT (hM : Bd2 M) (hQ : ∀ s' n, Pf s s' → Gr s' n M → Q (.ref n) s') : wE (d_law_grid [.tup ((arcsA M).map aD)] s) Q X :=
  sp_grid (.inl rfl) in3_arcs (hQ _ _ Pf.app (Gr.of_tab hM))
/-- a grid that stands behind L -/
def Gl (s : S) (L n : Nat) (M : Mt) : Prop := ∃ r0 r1 r2, GridAt s n r0 r1 r2 M ∧ L ≤ n ∧ L ≤ r0 ∧ L ≤ r1 ∧ L ≤ r2
theorem Gl.gr {L : Nat} (h : Gl s L n M) : Gr s n M := by
  obtain ⟨r0, r1, r2, g, _⟩ := h
  exact ⟨r0, r1, r2, g⟩
theorem Gl.pf {L : Nat} (h : Gl s L n M) (p : Pf s s') : Gl s' L n M := by
  obtain ⟨r0, r1, r2, g, l⟩ := h
  exact ⟨r0, r1, r2, g.pf p, l⟩
theorem Gl.fr {L : Nat} (h : Gl s L n M) (p : Fr g s s') (hL : g < L) : Gl s' L n M := by
  obtain ⟨r0, r1, r2, k, l1, l2, l3, l4⟩ := h
  have f := p.2
  exact ⟨r0, r1, r2, ⟨f _ (by omega) _ k.at_, f _ (by omega) _ k.h0, f _ (by omega) _ k.h1, f _ (by omega) _ k.h2⟩, l1, l2, l3, l4⟩
theorem sp_gridL (hM : Bd2 M) (hQ : ∀ s' n, Pf s s' → Gl s' s.length n M → Q (.ref n) s') : wE (d_law_grid [.tup ((arcsA M).map aD)] s) Q X :=
  sp_grid (.inl rfl) in3_arcs (hQ _ _ Pf.app ⟨_, _, _, grid_cg gridO_at fun i j hi hj => fold_arcs hM hi hj, by omega, by omega, by omega, by omega⟩)
theorem sp_listedG (h : Gr s n M) (hQ : ∀ s', Pf s s' → Q (.tup ((arcsA M).map aD)) s') : wE (d_law_listed [.ref n] s) Q X := by
  obtain ⟨_, _, _, g⟩ := h
  exact sp_listed g fun o => hQ _ Pf.app
theorem at_2 {b e : Str} : atD s (tabD b e M) (.int 2) = some (.tup ((arcsA M).map aD)) := rfl
theorem st_U7 {k : Nat} (hM : Bd2 M) (hG : Gr s n M) (hQ : ∀ s', Pf s s' → P.nx [a0, a1, a2, a3, a4, a5, a6, some (tabD "f" "f" M), some (.ref n), a9, a10, a11, some (.int ((k : Int) + 1))] s') :
    wC (U7 [a0, a1, a2, a3, a4, a5, a6, some (tabD "f" "f" M), some (.ref n), a9, a10, a11, some (.int ((k : Int) + 1))] s) P := by
  unfold U7
  generalize hdM : tabD "f" "f" M = dM
  simp
  rw [← hdM]
  refine sp_power2 k rfl name_f ok_f hM fun s1 p1 => ?_
  refine (o_repr_tab name_f name_f ok_f ok_f).mpr ?_
  refine sp_law_power (hG.pf p1) fun s2 n2 p2 h2 => ?_
  refine sp_listedG h2 fun s3 p3 => ?_
  show wE (fRepr [tabD "f" "f" (pw M k)] s3) _ _
  refine (o_repr_tab name_f name_f ok_f ok_f).mpr ?_
  rw [eq_shown ok_f ok_f]
  simp
  exact hQ _ (p1.trans (p2.trans p3))
theorem st_U6 {k : Nat} (hM : Bd2 M) (hQ : ∀ s', Pf s s' → wC (U7 [a0, a1, a2, a3, a4, a5, a6, some (tabD "f" "f" M), a8, some (tabD "f" "f" (pw M k)), some (.int ((k : Int) + 1)), a11, a12] s') P) :
    wC (U6 [a0, a1, a2, a3, a4, a5, a6, some (tabD "f" "f" M), a8, some (tabD "f" "f" (pw M k)), some (.int ((k : Int) + 1)), a11, a12] s) P := by
  unfold U6
  generalize hR : U7 = R
  generalize hdM : tabD "f" "f" M = dM
  generalize hdk : tabD "f" "f" (pw M k) = dk
  simp
  rw [← hdM, ← hdk]
  refine sp_power2 k rfl name_f ok_f hM fun s1 p1 => ?_
  rw [eq_tab ok_f ok_f]
  simp
  refine sp_power2 0 rfl name_f ok_f hM fun s2 p2 => ?_
  rw [show pw M 0 = M from rfl, eq_tab ok_f ok_f]
  simp
  rw [← hR]
  exact hQ _ (p1.trans p2)
theorem st_U5 (hg : Gen s g (B + 40)) (hQ : ∀ s' k, Fr g s s' → Gen s' g B → wC (U6 [a0, a1, some (.ref g), a3, a4, a5, a6, a7, a8, a9, a10, a11, some (.int (((k : Nat) : Int) + 1))] s') P) :
    wC (U5 [a0, a1, some (.ref g), a3, a4, a5, a6, a7, a8, a9, a10, a11, a12] s) P := by
  unfold U5
  generalize hR : U6 = R
  simp
  rw [show decide ((bits 10 + 1) * 30 ≤ 100000) = true by decide +kernel, onT_t]
  refine sp_random (B := B) hg (by decide +kernel) (by decide +kernel) fun z o z0 z1 k => ?_
  obtain ⟨n, rfl⟩ := Int.eq_ofNat_of_zero_le z0
  rw [o_add_i, show (1 : Int) + (n : Int) = (n : Int) + 1 by omega, ← hR]
  exact hQ _ n Fr.set k
theorem st_U4 {k : Nat} (hk : k < 1000) (hM : Bd2 M) (hQ : ∀ s' a11, Pf s s' → wC (U5 [a0, a1, a2, a3, a4, a5, a6, some (tabD "f" "f" M), a8, some (tabD "f" "f" (pw M k)), some (.int ((k : Int) + 1)), a11, a12] s') P) :
    wC (U4 [a0, a1, a2, a3, a4, a5, a6, some (tabD "f" "f" M), a8, some (tabD "f" "f" M), some (.int ((k : Int) + 1)), a11, a12] s) P := by
  unfold U4
  generalize hR : U5 = R
  generalize hB : cSet (eCall d_product _ _) _ = Bd
  have es : small (k : Int) = true := by
    unfold small
    rw [Bool.and_eq_true]
    exact ⟨decide_eq_true (by omega), decide_eq_true (by omega)⟩
  have e1 : ((k : Int) + 1) - 1 = (k : Int) := by omega
  simp [e1]
  rw [es, onT_t]
  have er : (rangeL 0 (k : Int)).length = k := by unfold rangeL; simp
  refine wC_forV (fun (r : List D) (σ : Fc.Env) (s' : S) => ∃ (q : Nat) (a11 : Option D), q + r.length = k ∧ Pf s s' ∧ σ = [a0, a1, a2, a3, a4, a5, a6, some (tabD "f" "f" M), a8, some (tabD "f" "f" (pw M q)), some (.int ((k : Int) + 1)), a11, a12]) _ ⟨0, a11, by rw [er]; omega, Pf.refl, rfl⟩ ?_ ?_
  · rintro d r σ s' ⟨q, a11, hq, pf, rfl⟩
    refine ⟨[a0, a1, a2, a3, a4, a5, a6, some (tabD "f" "f" M), a8, some (tabD "f" "f" (pw M q)), some (.int ((k : Int) + 1)), some d, a12], rfl, ?_⟩
    rw [← hB]
    generalize hdM : tabD "f" "f" M = dM
    generalize hdk : tabD "f" "f" (pw M q) = dk
    simp
    rw [← hdM, ← hdk]
    refine sp_product2 name_f name_f name_f ok_f (pw_bd hM q) hM fun s2 p2 => ?_
    exact ⟨q + 1, by rw [List.length_cons] at hq; omega, pf.trans p2, rfl⟩
  · rintro σ s' ⟨q, a11, hq, pf, rfl⟩
    have : q = k := by simpa using hq
    subst this
    rw [← hR]
    exact hQ s' a11 pf
theorem st_U3 (hg : Gen s g (B + 40)) (hQ : ∀ s' k, Fr g s s' → Gen s' g B → k < 1000 → wC (U4 [a0, a1, some (.ref g), a3, a4, a5, a6, a7, a8, a9, some (.int (((k : Nat) : Int) + 1)), a11, a12] s') P) :
    wC (U3 [a0, a1, some (.ref g), a3, a4, a5, a6, a7, a8, a9, a10, a11, a12] s) P := by
  unfold U3
  generalize hR : U4 = R
  simp
  refine sp_random (B := B) hg (by decide +kernel) (by decide +kernel) fun z o z0 z1 k => ?_
  obtain ⟨n, rfl⟩ := Int.eq_ofNat_of_zero_le z0
  rw [o_add_i, show (1 : Int) + (n : Int) = (n : Int) + 1 by omega, ← hR]
  exact hQ _ n Fr.set k (by omega)
theorem st_U2 (hM : Bd2 M) (hQ : ∀ s', Pf s s' → wC (U3 [a0, a1, a2, a3, a4, a5, a6, some (tabD "f" "f" M), a8, a9, a10, a11, a12] s') P) :
    wC (U2 [a0, a1, a2, a3, a4, a5, a6, some (tabD "f" "f" M), a8, a9, a10, a11, a12] s) P := by
  unfold U2
  generalize hR : U3 = R
  generalize hdM : tabD "f" "f" M = dM
  simp
  rw [← hdM]
  refine sp_has_fall name_f ok_f hM fun s1 p1 => ?_
  refine o_repr_bl.mpr ?_
  rw [at_2, onO_some]
  refine sp_around22 hM ?_
  refine o_repr_bl.mpr ?_
  rw [eqD_self (by cases hf M <;> decide +kernel)]
  simp
  rw [← hR]
  exact hQ _ p1
/-- one turn in a turn -/
theorem st_U0 (hg : Gen s g (B + 1400)) (hQ : ∀ s' a7 a8 a9 a10 a11 a12, Gen s' g B → P.nx [a0, a1, some (.ref g), a3, a4, a5, a6, a7, a8, a9, a10, a11, a12] s') :
    wC (U0 [a0, a1, some (.ref g), a3, a4, a5, a6, a7, a8, a9, a10, a11, a12] s) P := by
  unfold U0
  generalize hR : U1 = R
  simp
  refine sp_table (B := B + 100) (hg.mono (by omega)) fun s1 M f1 g1 hM => ?_
  rw [← hR]
  unfold U1
  generalize hR : U2 = R
  generalize hdM : tabD "f" "f" M = dM
  simp
  rw [← hdM, at_2, onO_some]
  have l1 : g < s1.length := by
    obtain ⟨_, _, _, h, _⟩ := g1
    exact lt_of_get h
  refine sp_gridL hM fun s2 n p2 hn => ?_
  rw [← hR]
  refine st_U2 hM fun s3 p3 => ?_
  refine st_U3 (B := B + 40) ((p2.trans p3).gen (g1.mono (by omega))) fun s4 k f4 g4 hk => ?_
  refine st_U4 hk hM fun s5 a11 p5 => ?_
  refine st_U5 (B := B) (p5.gen g4) fun s6 k6 f6 g6 => ?_
  refine st_U6 hM fun s7 p7 => ?_
  have hn7 : Gr s7 n M := (((((hn.pf p3).fr f4 l1).pf p5).fr f6 l1).pf p7).gr
  exact st_U7 hM hn7 fun s8 p8 => hQ _ _ _ _ _ _ _ ((p7.trans p8).gen g6)
theorem sp_fall0 {b e : Str} (hb : NameOk b) (he : NameOk e) (ob : PyData.strOk b = true) (oe : PyData.strOk e = true) (hne : b ≠ e) (hQ : ∀ s', Pf s s' → Q (.bl false) s') : wE (d_has_fall [tabD b e M] s) Q X := by
  unfold d_has_fall
  refine (v_def (by rfl)).mpr ?_
  unfold b_has_fall
  generalize hdM : tabD b e M = dM
  simp
  rw [← hdM]
  refine sp_check_table hb he fun s1 p1 => ?_
  rw [tab_0]
  simp only [onO_some]
  rw [tab_1]
  simp only [onO_some]
  rw [eqD_str ob oe]
  have eb : (b == e) = false := beq_eq_false_iff_ne.mpr hne
  simp
  rw [eb, onT_f]
  exact hQ _ p1
theorem st_T6 (hg : Gen s g 5000) (hQ : ∀ s' a6 a7 a8 a9 a10 a11 a12, P.nx [a0, a1, some (.ref g), a3, a4, a5, a6, a7, a8, a9, a10, a11, a12] s') :
    wC (T6 [a0, a1, some (.ref g), a3, a4, a5, a6, a7, a8, a9, a10, a11, a12] s) P := by
  unfold T6
  generalize hB : U0 = Bd
  simp
  show wC (forV _ _ [.int (0:Nat), .int (1:Nat), .int (2:Nat)] _ _) _
  rw [← hB]
  refine wC_forV_cons.mpr ⟨_, rfl, ?_⟩
  refine st_U0 (B := 2800) (hg.mono (by omega)) fun s1 b7 b8 b9 b10 b11 b12 g1 => ?_
  refine wC_forV_cons.mpr ⟨_, rfl, ?_⟩
  refine st_U0 (B := 1400) (g1.mono (by omega)) fun s2 b7 b8 b9 b10 b11 b12 g2 => ?_
  refine wC_forV_cons.mpr ⟨_, rfl, ?_⟩
  refine st_U0 (B := 0) (g2.mono (by omega)) fun s3 b7 b8 b9 b10 b11 b12 g3 => ?_
  refine wC_forV_nil.mpr ?_
  exact hQ _ _ _ _ _ _ _ _
theorem st_T5 (hg : Gen s g 5000) (hQ : ∀ s' a6 a7 a8 a9 a10 a11 a12, P.nx [a0, a1, some (.ref g), some (tabD "f" "g" M), a4, some (tabD "f" "hh" N), a6, a7, a8, a9, a10, a11, a12] s') :
    wC (T5 [a0, a1, some (.ref g), some (tabD "f" "g" M), a4, some (tabD "f" "hh" N), a6, a7, a8, a9, a10, a11, a12] s) P := by
  unfold T5
  generalize hR : T6 = R
  generalize hdM : tabD "f" "g" M = dM
  generalize hdN : tabD "f" "hh" N = dN
  simp
  rw [← hdM]
  refine sp_fall0 name_f name_g ok_f ok_g (by decide +kernel) fun s1 p1 => ?_
  rw [← hdN]
  refine sp_fall0 name_f name_hh ok_f ok_hh (by decide +kernel) fun s2 p2 => ?_
  have rp : ∀ {s : S} {n : Nat} {X : Xc} {Q : D → S → Prop}, s[n]? = some (.lst [.bl false, .bl false]) → (wE (fRepr [.ref n] s) Q X ↔ Q (.str (PyData.list [.bool false, .bool false]).shown) s) := fun {s n X Q} hn =>
    o_repr (x := .list [.bool false, .bool false]) (by rw [dat_ref hn, dats_cons dat_bl (dats_cons dat_bl dats_nil)]; rfl) (by decide +kernel) (by decide +kernel) (by decide +kernel)
  refine (rp get_new).mpr ?_
  simp
  have p3 : Pf s2 (s2 ++ [O.lst [.bl false, .bl false], O.lst [.bl false, .bl false]]) := Pf.app
  refine (rp (by simp)).mpr ?_
  rw [eqD_self (by decide +kernel)]
  simp
  rw [← hR]
  exact st_T6 ((p1.trans (p2.trans p3)).gen hg) hQ
theorem st_T4 (hM : Bd2 M) (hN : Bd2 N) (hg : Gen s g 5000) (hQ : ∀ s' a6 a7 a8 a9 a10 a11 a12, P.nx [a0, a1, some (.ref g), some (tabD "f" "g" M), some (tabD "g" "hh" N), some (tabD "f" "hh" (mulM M N)), a6, a7, a8, a9, a10, a11, a12] s') :
    wC (T4 [a0, a1, some (.ref g), some (tabD "f" "g" M), some (tabD "g" "hh" N), some (tabD "f" "hh" (mulM M N)), a6, a7, a8, a9, a10, a11, a12] s) P := by
  unfold T4
  generalize hR : T5 = R
  generalize hdM : tabD "f" "g" M = dM
  generalize hdN : tabD "g" "hh" N = dN
  generalize hdP : tabD "f" "hh" (mulM M N) = dP
  simp
  rw [← hdM, ← hdN, ← hdP]
  refine sp_product2 name_f name_g name_hh ok_g hM hN fun s1 p1 => ?_
  refine (o_repr_tab name_f name_hh ok_f ok_hh).mpr ?_
  refine (o_repr_tab name_f name_hh ok_f ok_hh).mpr ?_
  rw [eq_shown ok_f ok_hh]
  simp
  refine sp_product2 name_f name_g name_hh ok_g hM hN fun s2 p2 => ?_
  refine sp_is_table name_f name_hh fun s3 p3 => ?_
  simp
  rw [← hR]
  exact st_T5 ((p1.trans (p2.trans p3)).gen hg) hQ
theorem st_T1 {ns : List Int} {i : Nat} (hi : i < 1000000) (hQ : ∀ s' a2 a3 a4 a5 a6 a7 a8 a9 a10 a11 a12, P.nx [some (.rol (ns.map .int)), some (.int i), a2, a3, a4, a5, a6, a7, a8, a9, a10, a11, a12] s') :
    wC (T1 [some (.rol (ns.map .int)), some (.int i), a2, a3, a4, a5, a6, a7, a8, a9, a10, a11, a12] s) P := by
  unfold T1
  generalize hR : T2 = R
  simp
  refine sp_generator hi fun o gen => ?_
  generalize s ++ [o] = s0 at gen
  generalize s.length = g at gen
  rw [← hR]
  unfold T2
  generalize hR : T3 = R
  simp
  refine sp_table (B := 2 ^ 80 - 2000) (gen.mono (by omega)) fun s1 M f1 g1 hM => ?_
  refine sp_table (B := 2 ^ 80 - 4000) (g1.mono (by omega)) fun s2 N f2 g2 hN => ?_
  rw [← hR]
  unfold T3
  generalize hR : T4 = R
  generalize hdM : tabD "f" "g" M = dM
  generalize hdN : tabD "g" "hh" N = dN
  simp
  rw [← hdM, ← hdN, at_2, onO_some]
  refine sp_gridT hM fun s3 n p3 hn => ?_
  rw [at_2, onO_some]
  refine sp_gridT hN fun s4 m p4 hm => ?_
  refine sp_timesG (hn.pf p4) hm fun s5 r p5 hr => ?_
  refine sp_listedG hr fun s6 p6 => ?_
  rw [← hR]
  show wC (T4 [some (.rol (ns.map .int)), some (.int i), some (.ref g), some (tabD "f" "g" M), some (tabD "g" "hh" N), some (tabD "f" "hh" (mulM M N)), a6, a7, a8, a9, a10, a11, a12] s6) P
  exact st_T4 hM hN ((p3.trans (p4.trans (p5.trans p6))).gen (g2.mono (by omega))) fun s7 a6 a7 a8 a9 a10 a11 a12 => hQ _ _ _ _ _ _ _ _ _ _ _ _
theorem pure22 (ns : List Int) : ∃ s', K22.d_law [.rol (ns.map .int)] [] = some (.ok (.bl true) s') := by
  have key : wE (K22.d_law [.rol (ns.map .int)] []) (fun d s' => d = .bl true) (fun _ _ _ => False) := by
    unfold K22.d_law
    refine (v_def (by rfl)).mpr ?_
    rw [K22.law_eq]
    generalize hB : T1 = Bd
    simp
    rw [show small 4 = true by decide, onT_t, show rangeL 0 4 = [.int (0 : Nat), .int (1 : Nat), .int (2 : Nat), .int (3 : Nat)] from rfl, ← hB]
    refine wC_forV_cons.mpr ⟨_, rfl, ?_⟩
    refine st_T1 (by omega) fun s' b2 b3 b4 b5 b6 b7 b8 b9 b10 b11 b12 => ?_
    refine wC_forV_cons.mpr ⟨_, rfl, ?_⟩
    refine st_T1 (by omega) fun s' b2 b3 b4 b5 b6 b7 b8 b9 b10 b11 b12 => ?_
    refine wC_forV_cons.mpr ⟨_, rfl, ?_⟩
    refine st_T1 (by omega) fun s' b2 b3 b4 b5 b6 b7 b8 b9 b10 b11 b12 => ?_
    refine wC_forV_cons.mpr ⟨_, rfl, ?_⟩
    refine st_T1 (by omega) fun s' b2 b3 b4 b5 b6 b7 b8 b9 b10 b11 b12 => ?_
    refine wC_forV_nil.mpr ?_
    simp
  obtain ⟨x, s', e, rfl⟩ := wE_out key
  exact ⟨s', e⟩
end
end P1
namespace Law_k22
theorem law_same : d_law = P1.K22.d_law := rfl
theorem pure_law (ns : List Int) (_ : ns.length ≤ 63) : ∃ s', d_law [.rol (ns.map Fc.D.int)] [] = some (.ok (.bl true) s') := by
  rw [law_same]
  exact P1.pure22 ns
end Law_k22
-- KEEP
open PySem PySem.W PySem.Calls PyProof.Rows
theorem PySem.Challenge.cw_fallingcalls_k22_products_and_powers_holds : PySem.Challenge.rw_fallingcalls_k22_products_and_powers.Holds := by
  w_on; o_law
  refine HandSHeadRun.head_any (r := OpenLaw.row PySem.Challenge.rw_fallingcalls_k22_products_and_powers) (q := view (OpenLaw.row PySem.Challenge.rw_fallingcalls_k22_products_and_powers).prog [33]) (H := Law_k22.hk) (ob := Law_k22.ob) (M := 6000) (loose := Law_k22.loose) (d := HandSHeadRun.topDef (OpenLaw.row PySem.Challenge.rw_fallingcalls_k22_products_and_powers).prog 33) (kwd := []) Law_k22.ob_eq
    (by kernel_rfl) (fun s => by kernel_rfl) Law_k22.run (by kernel_rfl) (by kernel_rfl) (by kernel_rfl) (by rfl) (by first | assumption | decide +kernel) (by decide +kernel) ⟨rfl, rfl, rfl, rfl, rfl, by decide +kernel⟩ ?hw ?hc
  case hw => w_witness2
  case hc =>
    refine Fc.walk_law (l := PySem.Challenge.rw_fallingcalls_k22_products_and_powers) (n := 63) (k := 6) (x := "_law_script") (Fn := Law_k22.d_law) rfl (by decide) (by kernel_rfl) Fc.caller_room Law_k22.pure_law ?F
    intro w mg fa h Y G hmg0
    obtain ⟨K, KX, c⟩ := Y
    have hmg : mg ("law" : PySem.Str) = some (.ref fa) := by
      have e : (HandSHeadRun.topDef (OpenLaw.row PySem.Challenge.rw_fallingcalls_k22_products_and_powers).prog 33).name = ("law" : PySem.Str) := by kernel_rfl
      rw [← e]
      exact hmg0
    obtain ⟨fd, hb, hF⟩ := Law_k22.facts (P := (PySem.Challenge.rw_fallingcalls_k22_products_and_powers).prog) (w := w) KX G hmg c
    exact ⟨K, Law_k22.cmK K w, fd, KX, hb, hF⟩
