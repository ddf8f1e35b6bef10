import PyProof.Rows.All
import HandS.ForMost
import KE.KeyNested
import HandS.ForExc
import HandS.Flow
import HandS.TupAny
import HandS.Deep
import HandS.Wide
import HandS.WideBits
import HandS.Style
import PyProof.Rows.RuleB_pow
import HandS.IsInst
import HandS.ExcField
import HandS.ExcIs
import HandS.Defaults
import HandS.HeadEnd
import HandS.HeadHook4
import KE.SortData
import HandS.TupSets
import HandS.SortRule
import PyProof.ReprRoads
import HandS.Ends
import HandS.Head0
import HandS.Head1
import HandS.Head2
import KE.KStateDown
import HandS.Codes
import PyProof.InstNe
import HandS.DictTup
import HandS.Iter
import KE.KDictItemsList
import KE.KDictWalk
import HandS.Conv
import KE.KExcSuper
import HandS.ExcInit
import HandS.ExcValue
import HandS.Dict
import HandS.More
import HandS.TupLen
import PyProof.Rows.TupTab
import HandS.DictComp
import HandS.Text
import HandS.RaiseMore
import KE.SortCalls
import HandS.TryOnly
import HandS.ExcOwn
import PyProof.EqKinds
import PyProof.InstSpecial
import KE.KIndexOf
import HandS.DictEq
import HandS.Finally
import HandS.Strs
import HandS.SetIn
import PyProof.SetRoads
import Wide.All
import OpenK.AllK
import PyProof.ZipIter
import PyProof.CallType
import PyProof.Rows.CallKwBuiltin
import HandS.SortKw
import PyProof.MinMaxWalk
import PyProof.WalkInts
import PyProof.Methods
import HandS.FltList
import HandS.Zip
import PyProof.StrLawsRepr
import PyProof.ReprBulk
import PyProof.ReprText
import PyProof.Rows.ReprOcc
import PyProof.Rows.SortStr
import PyProof.Rows.StrMeet
import PyProof.StrBlockL
import HandS.TupMul
import KE.LtData
import KE.SortUse
import KE.KTupSum
import KE.KDictPairs
import KE.GoesMore
import KE.DataCmp
import KE.KDictZip
import KE.KDictExact
import KE.KDictDisplayH
import HandS.SetFor
import HandS.DeepEq
import PyProof.StrLawsIn
import PySem.Challenge.RW_fallingcalls_k81_programs_read
set_option Elab.async false
set_option linter.all false
set_option maxRecDepth 100000
set_option maxHeartbeats 4000000
theorem tH {α:Type _} {a:α} {l:List α}:a∈a::l:=List.mem_cons_self ..
abbrev tK:=@List.mem_map
abbrev tM:=@List.map_cons
abbrev tQ:=@List.mem_cons_of_mem
abbrev tR:=@List.length_map
abbrev tU:=@List.mem_cons
abbrev tV:=@List.mem_singleton
abbrev tW:=@List.map_map
abbrev tX:=@Nat.le_refl
abbrev tY:=@Option.map_eq_some_iff
abbrev tZ:=@List.mem_append
abbrev su:=@List.not_mem_nil
abbrev sE:=@List.append_nil
abbrev sG:=@List.map_append
abbrev sH:=@Ne.symm
abbrev sJ:=@List.mem_map_of_mem
abbrev sO:=@List.all_eq_true
abbrev sS:=@List.length_cons
abbrev sU:=@List.getElem?_eq_some_iff
abbrev sV:=@List.getElem?_set_ne
abbrev sW:=@Nat.le_trans
abbrev sX:=@List.getElem?_map
abbrev sY:=@List.length_append
abbrev rA:=@Option.map_some
abbrev rD:=@Bool.and_eq_true_iff
abbrev rE:=@List.getElem?_eq_getElem
abbrev rF:=@List.getElem?_set_self
abbrev rG:=@Bool.and_eq_true
abbrev rH:=@List.mem_append_left
abbrev rJ:=@Bool.and_self
abbrev rK:=@List.nodup_append
abbrev rM:=@Bool.false_eq_true
abbrev rN:=@List.getElem?_append_left
abbrev rO:=@Nat.ne_of_lt
abbrev rP:=@List.foldl_cons
abbrev rQ:=@Int.eq_ofNat_of_zero_le
abbrev rR:=@List.append_assoc
abbrev rW:=@List.getElem?_append_right
abbrev rY:=@List.map_nil
abbrev qb:=@Option.bind_eq_some_iff
abbrev qd:=@List.mem_append_right
abbrev qj:=@List.find?_cons
abbrev qm:=@List.length_nil
abbrev qu:=@List.nil_append
abbrev qw:=@List.mem_filterMap
abbrev qC:=@List.getElem?_set
abbrev qF:=@List.replicate_succ
abbrev qG:=@List.drop_eq_getElem_cons
abbrev qH:=@List.nodup_nil
abbrev qI:=@List.map_congr_left
abbrev qJ:=@List.nodup_cons
abbrev qK:=@Nat.succ_mul
abbrev qL:=@List.foldl_append
abbrev qM:=@List.getElem_mem
abbrev qN:=@List.mem_of_mem_take
abbrev qO:=@List.filterMap_map
abbrev qP:=@List.filterMap_eq_map'
abbrev qQ:=@List.mem_of_getElem?
abbrev qR:=@List.mem_cons_self
abbrev qT:=@Nat.lt_succ_self
abbrev qU:=@Bool.false_ne_true
abbrev qW:=@List.size_toArray
abbrev qX:=@Nat.lt_irrefl
abbrev qY:=@Bool.eq_false_iff
abbrev qZ:=@Bool.eq_iff_iff
abbrev ph:=@List.any_eq_true
abbrev pq:=@List.filter_append
abbrev pA:=@List.length_singleton
abbrev pB:=@List.dropLast_concat_getLast
abbrev pC:=@List.map_singleton
abbrev pD:=@List.map_filterMap
abbrev pF:=@List.length_eq_zero_iff
abbrev pG:=@List.dropLast_eq_take
abbrev pH:=@Array.getElem?_toList
abbrev pJ:=@List.find?_eq_none
abbrev pK:=@List.drop_eq_nil_of_le
abbrev pM:=@List.length_filterMap_le
abbrev pN:=@List.filterMap_cons
abbrev pO:=@List.eq_nil_of_length_eq_zero
abbrev pU:=@List.length_pos_iff
abbrev pW:=@List.filter_eq_self
abbrev pX:=PySem.W.Frag
namespace Fc
open PySem
inductive D where
 | non | bl (b:Bool) | int (i:Int) | str (x:Str) | tup (ds:List D) | rol (ds:List D) | ref (n:Nat) | stu (ds:List D)
inductive O where
 | lst (ds:List D) | dK (kvs:List (L2.Key×D)) | dT (kvs:List (List L2.Key×D))
 /-- a dict whose keys are tuples of any depth -/
 | dN (kvs:List (D×D))
 | ins (c:Str) (fs:List (Str×D)) | err (c:Str) (fs:List (Str×D)) | lck (o:O)
abbrev S:=List O
inductive Res(a:Type) where
 | ok (x:a) (s:S) | exc (c:Str) (fs:List (Str×D)) (s:S)
abbrev M(a:Type):=S->Option (Res a)
def ret{a:Type}(x:a):M a:=λs=>some (.ok x s)
def stuck{a:Type}:M a:=λ_=>none
def bnd{a b:Type}(m:M a)(k:a->M b):M b:=λs=>match m s with
 | none=>none
 | some (.ok x s')=>k x s'
 | some (.exc c fs s')=>some (.exc c fs s')
abbrev Env:=List (Option D)
abbrev E:=Env->M D
abbrev T:=Env->M Bool
abbrev EL:=Env->M (List D)
def unl:O->O
 | .lck o=>o
 | o=>o
def rd(s:S)(n:Nat):Option O:=(s[n]?).map unl
def new(o:O):M D:=λs=>some (.ok (.ref s.length) (s++[o]))
def yx(s:S)(n:Nat):Option (List D):=match s[n]? with
 | some (.lst ds)=>some ds
 | _=>none
def zkw(n:Nat)(f:O->Option (O×D)):M D:=λs=>match s[n]? with
 | some o=>match f o with
  | some (o',d)=>some (.ok d (s.set n o'))
  | none=>none
 | none=>none
def keyOf:D->Option L2.Key
 | .int i=>some (.inl i)
 | .str x=>some (.inr x)
 | _=>none
def keysOf:List D->Option (List L2.Key)
 | []=>some []
 | d::r=>match keyOf d,keysOf r with
  | some k,some ks=>some (k::ks)
  | _,_=>none
def dOf:L2.Key->D
 | .inl i=>.int i
 | .inr x=>.str x
mutual
def nkey:D->Option NestedKey
 | .non=>some .none
 | .bl b=>some (.num (if b=true then 1 else 0))
 | .int i=>some (.num i)
 | .str x=>some (.text x)
 | .tup ds=>(nkeys ds).map .tup
 | .rol _=>none
 | .ref _=>none
 | .stu _=>none
def nkeys:List D->Option (List NestedKey)
 | []=>some []
 | d::r=>match nkey d,nkeys r with
  | some k,some ks=>some (k::ks)
  | _,_=>none
end
def nkT(d:D):Option NestedKey:=match d with
 | .tup ds=>match nkeys ds with
  | some ks=>if (NestedKey.tup ks).depth<=8 then some (.tup ks)else none
  | none=>none
 | _=>none
variable{κ:Type}[DecidableEq κ]
def kget(kvs:List (κ×D))(k:κ):Option D:=(kvs.find? λkv=>decide (kv.1=k)).map (·.2)
def kput(kvs:List (κ×D))(k:κ)(v:D):List (κ×D) :=
 if (kvs.any λkv=>decide (kv.1=k))=true then kvs.map λkv=>if kv.1=k then (kv.1,v)else kv else kvs++[(k,v)]
def dget(o:O)(k:D):Option (Option D):=match o with
 | .dK kvs=>(keyOf k).map λk=>kget kvs k
 | .dT kvs=>match k with
  | .tup ds=>(keysOf ds).map λks=>kget kvs ks
  | _=>none
 | _=>none
def dput(o:O)(k v:D):Option O:=match o with
 | .dK kvs=>if kvs.length<16777216 then (keyOf k).map λk=>.dK (kput kvs k v)else none
 | .dT kvs=>if kvs.length<16777216 then match k with
  | .tup ds=>(keysOf ds).map λks=>.dT (kput kvs ks v)
  | _=>none else none
 | _=>none
def sz(n:Nat):Bool:=decide (n<=16777216)
def truth(s:S):D->Option Bool
 | .non=>some false
 | .bl b=>some b
 | .int i=>some (i != 0)
 | .str x=>if sz x.length then some (((x.length:Nat):Int) != 0)else none
 | .tup ds=>some (!ds.isEmpty)
 | .rol ds=>some (!ds.isEmpty)
 | .stu ds=>some (!ds.isEmpty)
 | .ref n=>match s[n]? with
  | some (.lst ds)=>some (!ds.isEmpty)
  | some (.dK kvs)=>some (!kvs.isEmpty)
  | _=>none
mutual
def dat(s:S):Nat->D->Option PyData
 | _,.non=>some .none
 | _,.bl b=>some (.bool b)
 | _,.int i=>some (.int i)
 | _,.str x=>some (.str x)
 | 0,.tup _=>none
 | 0,.ref _=>none
 | 0,.stu _=>none
 | _,.rol _=>none
 | n+1,.tup ds=>(dats s n ds).map .tuple
 | n+1,.stu ds=>(dats s n ds).map .tuple
 | n+1,.ref a=>match yx s a with
  | some ds=>(dats s n ds).map .list
  | none=>none
def dats(s:S):Nat->List D->Option (List PyData)
 | _,[]=>some []
 | n,d::r=>match dat s n d,dats s n r with
  | some x,some xs=>some (x::xs)
  | _,_=>none
end
def zgB(f:D->D->Option Bool):List D->List D->Bool
 | [],[]=>true
 | a::as,b::bs=>f a b == some true&&zgB f as bs
 | _,_=>false
def eqZ(s:S):Nat->D->D->Option Bool
 | 0,_,_=>none
 | n+1,a,b=>match dat s 60 a,dat s 60 b with
  | some x,some y=>if SeqAt.shaped x&&SeqAt.shaped y then some (PyData.eqv x y)else none
  | _,_=>match a,b with
   | .ref i,.ref j=>if i=j then some true else match yx s i,yx s j with
    | some ds,some es=>if ds.length=es.length then (if zgB (eqZ s n) ds es then some true else none)else some false
    | _,_=>none
   | .tup ds,.tup es=>if zgB (eqZ s n) ds es then some true else none
   | _,_=>none
def eqT(s:S)(a b:D):Option Bool:=match a,b with
 | .ref i,.ref j=>match yx s i,yx s j with
  | some ds,some es=>if ds.length=es.length then (if zgB (eqZ s 8) ds es then some true else none)else some false
  | _,_=>none
 | _,_=>none
def eqD(s:S)(a b:D):Option Bool:=match dat s 60 a,dat s 60 b with
 | some x,some y=>if SeqAt.shaped x&&SeqAt.shaped y then some (PyData.eqv x y)else none
 | _,_=>eqT s a b
def zg(i:Nat):E:=λσ s=>match σ[i]? with
 | some (some d)=>some (.ok d s)
 | _=>none
def eC(d:D):E:=λ_ s=>some (.ok d s)
def e1(f:D->M D)(a:E):E:=λσ=>bnd (a σ) f
def e2(f:D->D->M D)(a b:E):E:=λσ=>bnd (a σ) λx=>bnd (b σ) λy=>f x y
def zj:EL:=λ_=>ret []
def za(a:E)(r:EL):EL:=λσ=>bnd (a σ) λx=>bnd (r σ) λxs=>ret (x::xs)
def eN(f:List D->M D)(es:EL):E:=λσ=>bnd (es σ) f
def uD(s:S)(x:D):Bool:=match x with
 | .ref n=>match s[n]? with
  | some (.lst _)=>true
  | _=>false
 | _=>false
def eM(f:D->List D->M D)(o:E)(es:EL):E:=λσ=>bnd (o σ) λx=>λs=>if uD s x then bnd (es σ) (λxs=>f x xs) s else none
def eIf(t:T)(a b:E):E:=λσ=>bnd (t σ) λc=>if c then a σ else b σ
def eOr(a b:E):E:=λσ=>bnd (a σ) λx=>λs=>match truth s x with
 | some true=>some (.ok x s)
 | some false=>b σ s
 | none=>none
def uH(a b:E):E:=λσ=>bnd (a σ) λx=>λs=>match truth s x with
 | some true=>b σ s
 | some false=>some (.ok x s)
 | none=>none
def tE(a:E):T:=λσ=>bnd (a σ) λx=>λs=>match truth s x with
 | some c=>some (.ok c s)
 | none=>none
def tB(a:E):T:=λσ=>bnd (a σ) λx=>match x with
 | .bl c=>ret c
 | _=>stuck
def tNot(t:T):T:=λσ=>bnd (t σ) λc=>ret (!c)
def tAnd(t u:T):T:=λσ=>bnd (t σ) λc=>if c then u σ else ret false
def zax(t:T):E:=λσ=>bnd (t σ) λc=>ret (.bl (!c))
def tOr(t u:T):T:=λσ=>bnd (t σ) λc=>if c then ret true else u σ
def zaA(f:S->D->D->Option D):D->D->M D:=λx y s=>(f s x y).map λd=>.ok d s
def bits(i:Int):Nat:=i.natAbs.log2
def yq:D->D->M D:=λx y s=>match x,y with
 | .int i,.int j=>some (.ok (.int (i+j)) s)
 | .str a,.str b=>if sz (a.length+b.length)then some (.ok (.str (a++b)) s)else none
 | .tup a,.tup b=>if sz (a.length+b.length)then some (.ok (.tup (a++b)) s)else none
 | .ref m,.ref n=>match s[m]?,s[n]? with
  | some (.lst a),some (.lst b)=>if sz (a.length+b.length)then new (.lst (a++b)) s else none
  | _,_=>none
 | _,_=>none
def zlK:D->D->M D:=zaA λ_ x y=>match x,y with
 | .int i,.int j=>some (.int (i - j))
 | _,_=>none
def zcV:D->D->M D:=λx y s=>match x,y with
 | .int i,.int j=>if bits i+bits j<900000 then some (.ok (.int (i*j)) s)else none
 | .ref m,.int k=>match s[m]? with
  | some (.lst a)=>if decide (-1000000<k)&&decide (k<1000000)&&sz (a.length*k.toNat)then new (.lst (List.replicate k.toNat a).flatten) s else none
  | _=>none
 | _,_=>none
def oMod:D->D->M D:=zaA λ_ x y=>match x,y with
 | .int i,.int j=>if 0<j then some (.int (i%j))else none
 | _,_=>none
def oDiv:D->D->M D:=zaA λ_ x y=>match x,y with
 | .int i,.int j=>if 0<j&&bits j<8000 then some (.int (i / j))else none
 | _,_=>none
def zjt:D->D->M D:=zaA λ_ x y=>match x,y with
 | .int i,.int j=>if 0<=j&&(bits i+1)*j.toNat<=100000 then some (.int (i ^ j.toNat))else none
 | _,_=>none
def zay:D->M D:=λx s=>match x with
 | .int i=>some (.ok (.int (-i)) s)
 | _=>none
def zpl(f:Int->Int->Bool):D->D->M D:=zaA λ_ x y=>match x,y with
 | .int i,.int j=>some (.bl (f i j))
 | _,_=>none
def oLt:=zpl λi j=>decide (i<j)
def oLe:=zpl λi j=>decide (i<=j)
def oGt:=zpl λi j=>decide (j<i)
def oEq:D->D->M D:=zaA λs x y=>(eqD s x y).map .bl
def oNe:D->D->M D:=zaA λs x y=>(eqD s x y).map λb=>.bl (!b)
def wN(f g:D->D->M D)(a b c:E):E:=λσ=>bnd (a σ) λx=>bnd (b σ) λy=>bnd (f x y) λr=>match r with
 | .bl true=>bnd (c σ) λz=>g y z
 | .bl false=>ret (.bl false)
 | _=>stuck
def zhR:D->M D:=λx s=>some (.ok (.bl (match x with | .non=>true | _=>false)) s)
def flat:D->Bool
 | .non=>true
 | .bl _=>true
 | .int _=>true
 | .str _=>true
 | _=>false
def vOf:D->L2.V
 | .bl b=>.bl b
 | .int i=>.int i
 | .str x=>.str x
 | _=>.non
def isIn(s:S)(x y:D):Option Bool:=match y with
 | .str b=>match x with
  | .str a=>some (!(Builtin.Str.occurrences b a 0 b.length 1).isEmpty)
  | _=>none
 | .tup ds=>if flat x&&ds.all flat then some (ds.any λd=>L2.eqV (vOf d) (vOf x))else none
 | .ref n=>match s[n]? with
  | some (.lst ds)=>match dat s 60 x,dats s 60 ds with
   | some d,some es=>if SeqAt.shaped d&&SeqAt.shaped (.list es)then some (es.any λz=>PyData.eqv z d)else none
   | _,_=>none
  | some o=>(dget (unl o) x).map (·.isSome)
  | none=>none
 | _=>none
def oIn:D->D->M D:=zaA λs x y=>(isIn s x y).map .bl
def yU:D->D->M D:=zaA λs x y=>(isIn s x y).map λb=>.bl (!b)
def atD(s:S)(x y:D):Option D:=match x with
 | .tup ds=>match y with
  | .int i=>L2.atI ds i
  | _=>none
 | .rol ds=>match y with
  | .int i=>L2.atI ds i
  | _=>none
 | .str z=>match y with
  | .int i=>if sz z.length then (L2.atI z.cps.toList i).map λc=>.str ⟨#[c]⟩else none
  | _=>none
 | .ref n=>match s[n]? with
  | some (.lst ds)=>match y with
   | .int i=>L2.atI ds i
   | _=>none
  | some o=>(dget (unl o) y).bind id
  | none=>none
 | _=>none
def oAt:D->D->M D:=zaA atD
def kE{a:Type}(xs:List a)(lo hi:Option Int):List a:=(xs.drop (HT.sIx xs.length 0 lo)).take (HT.sIx xs.length xs.length hi - HT.sIx xs.length 0 lo)
def ziQ(x:D)(lo hi:Option Int):M D:=λs=>match x with
 | .tup ds=>some (.ok (.tup (kE ds lo hi)) s)
 | .str z=>if sz z.length then some (.ok (.str (L2.cutS z lo hi)) s)else none
 | .ref n=>match s[n]? with
  | some (.lst ds)=>new (.lst (kE ds lo hi)) s
  | _=>none
 | _=>none
abbrev EO:=Env->M (Option Int)
def pNo:EO:=λ_=>ret none
def jH(a:E):EO:=λσ=>bnd (a σ) λx=>match x with
 | .int i=>ret (some i)
 | _=>stuck
def zaU(a:E)(lo hi:EO):E:=λσ=>bnd (a σ) λx=>bnd (lo σ) λl=>bnd (hi σ) λh=>ziQ x l h
def ye(ds:List D):M D:=if sz ds.length then ret (.tup ds)else stuck
def zQ(ds:List D):M D:=if sz ds.length then new (.lst ds)else stuck
def mDK:M D:=new (.dK [])
def mDT:M D:=new (.dT [])
def zbk(s:S):D->Option Nat
 | .str x=>if sz x.length then some x.length else none
 | .tup ds=>some ds.length
 | .rol ds=>some ds.length
 | .stu ds=>some ds.length
 | .ref n=>match s[n]? with
  | some (.lst ds)=>some ds.length
  | some o=>match unl o with
   | .dK kvs=>some kvs.length
   | _=>none
  | none=>none
 | _=>none
def wW:List D->M D:=λxs s=>match xs with
 | [x]=>(zbk s x).map λn=>.ok (.int n) s
 | _=>none
def zdm:List D->M D:=λxs s=>match xs with
 | [.int i]=>some (.ok (.int i) s)
 | [.bl b]=>some (.ok (.int (if b then 1 else 0)) s)
 | _=>none
def zbM:List D->Option (List Int)
 | []=>some []
 | .int i::r=>(zbM r).map (i::·)
 | _::_=>none
def zhB:Int->List Int->Int
 | a,[]=>a
 | a,b::r=>zhB (if b > a then b else a) r
def mm(f:Int->List Int->Int):List D->M D:=λxs s=>match xs with
 | [.ref n]=>match yx s n with
  | some ds=>match zbM ds with
   | some (a::r)=>some (.ok (.int (f a r)) s)
   | _=>none
  | none=>none
 | [.int i,.int j]=>some (.ok (.int (f i [j])) s)
 | _=>none
def zmH:=mm zhB
def zcs:List D->M D:=λxs s=>match xs with
 | [.tup ds]=>new (.lst ds) s
 | [.ref n]=>match s[n]? with
  | some (.lst ds)=>new (.lst ds) s
  | some (.dK kvs)=>new (.lst (kvs.map λkv=>dOf kv.1)) s
  | _=>none
 | _=>none
def fTuple:List D->M D:=λxs s=>match xs with
 | [.tup ds]=>some (.ok (.tup ds) s)
 | [.ref n]=>match s[n]? with
  | some (.lst ds)=>some (.ok (.tup ds) s)
  | _=>none
 | _=>none
inductive Ty where
 | int | bool | str | tuple | list | dict
def zge(s:S)(x:D)(t:Ty):Option Bool:=match x with
 | .non=>some false
 | .bl _=>some (match t with | .int=>true | .bool=>true | _=>false)
 | .int _=>some (match t with | .int=>true | _=>false)
 | .str _=>some (match t with | .str=>true | _=>false)
 | .tup _=>some (match t with | .tuple=>true | _=>false)
 | .rol _=>none
 | .stu _=>some (match t with | .tuple=>true | _=>false)
 | .ref n=>(s[n]?).bind λo=>match o with
  | .lst _=>some (match t with | .list=>true | _=>false)
  | .dK _=>some (match t with | .dict=>true | _=>false)
  | .dT _=>some (match t with | .dict=>true | _=>false)
  | .dN _=>none
  | .ins _ _=>none
  | .err _ _=>none
  | .lck _=>none
def oIs(t:Ty):D->M D:=λx s=>(zge s x t).map λb=>.ok (.bl b) s
def zbt:D->M D:=λx s=>match x with
 | .int i=>some (.ok (.int (Builtin.Int.intBits i:Nat)) s)
 | _=>none
def yc:D->List D->M D:=λx xs s=>match x,xs with
 | .ref n,[y]=>zkw n (λo=>match o with
  | .lst ds=>if ds.length<16777216 then some (.lst (ds++[y]),.non)else none
  | _=>none) s
 | _,_=>none
def zmL:D->List D->M D:=λx xs s=>match x,xs with
 | .ref n,[]=>zkw n (λo=>match o with
  | .lst ds=>(ds[ds.length - 1]?).map λy=>(.lst ds.dropLast,y)
  | _=>none) s
 | _,_=>none
def isDict(s:S)(x:D):Bool:=match x with
 | .ref n=>match rd s n with
  | some (.dK _)=>true
  | some (.dT _)=>true
  | _=>false
 | _=>false
def ug(s:S)(x k:D):Option (Option D):=match x with
 | .ref n=>(rd s n).bind λo=>dget o k
 | _=>none
def zaV(d k z:E):E:=λσ=>bnd (d σ) λx=>λs=>if isDict s x then bnd (k σ) (λy=>bnd (z σ) λw=>λs=>(ug s x y).map λo=>.ok (o.getD w) s) s else none
def zaM(f:Str):D->M D:=λx s=>match x with
 | .ref n=>match s[n]? with
  | some (.ins _ fs)=>(fs.lookup f).map λd=>.ok d s
  | some (.err _ fs)=>(fs.lookup f).map λd=>.ok d s
  | _=>none
 | _=>none
def fput(f:Str)(v:D):List (Str×D)->List (Str×D)
 | []=>[(f,v)]
 | (g,x)::r=>if g=f then (g,v)::r else (g,x)::fput f v r
inductive R where
 | nx (σ:Env) (s:S) | rt (d:D) (s:S) | bk (σ:Env) (s:S) | ct (σ:Env) (s:S) | xc (c:Str) (fs:List (Str×D)) (σ:Env) (s:S)
abbrev C:=Env->S->Option R
def ex{a:Type}(σ:Env)(r:Option (Res a))(k:a->S->Option R):Option R:=match r with
 | none=>none
 | some (.ok x s)=>k x s
 | some (.exc c fs s)=>some (.xc c fs σ s)
def yL:C:=λσ s=>some (.nx σ s)
def zG(a b:C):C:=λσ s=>match a σ s with
 | some (.nx σ' s')=>b σ' s'
 | r=>r
def yE(e:E):C:=λσ s=>ex σ (e σ s) λ_ s'=>some (.nx σ s')
def zY(e:E):C:=λσ s=>ex σ (e σ s) λd s'=>some (.rt d s')
def cIf(t:T)(a b:C):C:=λσ s=>ex σ (t σ s) λc s'=>if c then a σ s' else b σ s'
abbrev G:=D->Env->S->Option Env
def gName(i:Nat):G:=λd σ _=>some (σ.set i (some d))
abbrev GL:=List D->Env->S->Option Env
def gNil:GL:=λds σ _=>match ds with
 | []=>some σ
 | _=>none
def gCons(g:G)(r:GL):GL:=λds σ s=>match ds with
 | d::ds=>(g d σ s).bind λσ'=>r ds σ' s
 | []=>none
def gTup(k:Nat)(r:GL):G:=λd σ s=>match d with
 | .tup ds=>if ds.length=k then r ds σ s else none
 | .ref n=>match s[n]? with
  | some (.lst ds)=>if ds.length=k then r ds σ s else none
  | _=>none
 | _=>none
def zR(e:E)(g:G):C:=λσ s=>ex σ (e σ s) λd s'=>(g d σ s').map λσ'=>.nx σ' s'
def zda(i j:Nat)(es:EL):C:=λσ s=>ex σ (es σ s) λds s'=>match ds with
 | [x,y]=>some (.nx ((σ.set i (some x)).set j (some y)) s')
 | _=>none
def zaf(o i e:E):C:=λσ s=>ex σ (e σ s) λv s1=>ex σ (o σ s1) λx s2=>ex σ (i σ s2) λy s3=>match x with
 | .ref n=>match s3[n]? with
  | some (.lst ds)=>match y with
   | .int k=>(L2.ixN ds.length k).map λj=>.nx σ (s3.set n (.lst (ds.set j v)))
   | _=>none
  | some ob=>(dput ob y v).map λo'=>.nx σ (s3.set n o')
  | none=>none
 | _=>none
def zmG(f:Str)(o e:E):C:=λσ s=>ex σ (e σ s) λv s1=>ex σ (o σ s1) λx s2=>match x with
 | .ref n=>match s2[n]? with
  | some (.ins c fs)=>if fs.length<900 then some (.nx σ (s2.set n (.ins c (fput f v fs))))else none
  | _=>none
 | _=>none
def forL(n:Nat)(g:G)(b:C):Nat->Nat->Env->S->Option R
 | 0,i,σ,s=>match yx s n with
  | some ds=>if ds.length=i then some (.nx σ s)else none
  | none=>none
 | k+1,i,σ,s=>match yx s n with
  | some ds=>if ds.length=i+(k+1)then match ds[i]? with
    | some d=>match g d σ s with
     | some σ1=>match b σ1 s with
      | some (.nx σ2 s2)=>forL n g b k (i+1) σ2 s2
      | some (.ct σ2 s2)=>forL n g b k (i+1) σ2 s2
      | some (.bk σ2 s2)=>some (.nx σ2 s2)
      | r=>r
     | none=>none
    | none=>none
   else none
  | none=>none
def zbL(g:G)(b:C):List D->Env->S->Option R
 | [],σ,s=>some (.nx σ s)
 | d::r,σ,s=>match g d σ s with
  | some σ1=>match b σ1 s with
   | some (.nx σ2 s2)=>zbL g b r σ2 s2
   | some (.ct σ2 s2)=>zbL g b r σ2 s2
   | some (.bk σ2 s2)=>some (.nx σ2 s2)
   | x=>x
  | none=>none
def zcH(n:Nat)(o:O):Option R->Option R
 | some (.nx σ s)=>some (.nx σ (s.set n o))
 | some (.rt d s)=>some (.rt d (s.set n o))
 | some (.bk σ s)=>some (.bk σ (s.set n o))
 | some (.ct σ s)=>some (.ct σ (s.set n o))
 | some (.xc c fs σ s)=>some (.xc c fs σ s)
 | none=>none
inductive Src where
 | seq | keys | items | vals
def signs(x:Str):List D:=x.cps.toList.map λc=>.str ⟨#[c]⟩
def pairD(kv:L2.Key×D):D:=.tup [dOf kv.1,kv.2]
def zcU(k:Src)(o:O):Option (List D):=match k,o with
 | .keys,.dK kvs=>some (kvs.map λkv=>dOf kv.1)
 | .keys,.dT _=>none
 | .seq,.dK kvs=>some (kvs.map λkv=>dOf kv.1)
 | .seq,.dT kvs=>some (kvs.map λkv=>.tup (kv.1.map dOf))
 | .items,.dK kvs=>some (kvs.map pairD)
 | .vals,.dK kvs=>some (kvs.map (·.2))
 | _,_=>none
inductive SK where
 | vals (ds:List D) | list (n k:Nat) | dict (n:Nat) (ds:List D)
abbrev SrcE:=Env->M SK
def srcOf(k:Src)(x:D)(s:S):Option SK:=match x with
 | .tup ds=>match k with
  | .seq=>some (.vals ds)
  | _=>none
 | .stu ds=>match k with
  | .seq=>some (.vals ds)
  | _=>none
 | .str z=>match k with
  | .seq=>some (.vals (signs z))
  | _=>none
 | .ref n=>match s[n]? with
  | some (.lst ds)=>match k with
   | .seq=>some (.list n ds.length)
   | _=>none
  | some o=>(zcU k (unl o)).map (.dict n)
  | none=>none
 | _=>none
def yd(k:Src)(e:E):SrcE:=λσ=>bnd (e σ) λx s=>(srcOf k x s).map λsk=>.ok sk s
def yP(a b:Int):List D:=(List.range (b - a).toNat).map λ(i:Nat)=>.int (a+(i:Int))
def small(i:Int):Bool:=decide (-(2 ^ 62)<=i)&&decide (i<2 ^ 62)
def xm(a b:E):SrcE:=λσ=>bnd (a σ) λx=>bnd (b σ) λy s=>match x,y with
 | .int i,.int j=>if small i&&small j then some (.ok (.vals (yP i j)) s)else none
 | _,_=>none
def zbP(n:Nat)(s:S)(f:S->Option R):Option R:=match s[n]? with
 | some (.lck o)=>f s
 | some o=>zcH n o (f (s.set n (.lck o)))
 | none=>none
def xf(src:SrcE)(g:G)(b:C):C:=λσ s=>ex σ (src σ s) λsk s1=>match sk with
 | .vals ds=>zbL g b ds σ s1
 | .list n k=>forL n g b k 0 σ s1
 | .dict n ds=>zbP n s1 λs2=>zbL g b ds σ s2
def wg(t:T)(b:C):Nat->C
 | 0,_,_=>none
 | n+1,σ,s=>ex σ (t σ s) λc s1=>if c then match b σ s1 with
   | some (.nx σ2 s2)=>wg t b n σ2 s2
   | some (.ct σ2 s2)=>wg t b n σ2 s2
   | some (.bk σ2 s2)=>some (.nx σ2 s2)
   | r=>r
  else some (.nx σ s1)
open Classical in
noncomputable def wM(t:T)(b:C):C:=λσ s=>if h:∃ r,∃ n,wg t b n σ s=some r then some (choose h)else none
def wipe(σ:Env):List Nat->Env
 | []=>σ
 | v::vs=>(wipe σ vs).set v none
def zbj(D0:Nat)(d:D)(s:S):Option S:=match s[D0]? with
 | some (.lst acc)=>if acc.length<16777216 then some (s.set D0 (.lst (acc++[d])))else none
 | _=>none
def lcV(D0:Nat)(vs:List Nat)(g:G)(t:T)(e:E):List D->Env->S->Option S
 | [],_,s=>some s
 | d::r,σ,s=>match g d (wipe σ vs) s with
  | some σ1=>match t σ1 s with
   | some (.ok true s1)=>match e σ1 s1 with
    | some (.ok y s2)=>(zbj D0 y s2).bind λs3=>lcV D0 vs g t e r σ s3
    | _=>none
   | some (.ok false s1)=>lcV D0 vs g t e r σ s1
   | _=>none
  | none=>none
def lcL(D0 n:Nat)(vs:List Nat)(g:G)(t:T)(e:E):Nat->Nat->Env->S->Option S
 | 0,i,_,s=>match yx s n with
  | some ds=>if ds.length=i then some s else none
  | none=>none
 | k+1,i,σ,s=>match yx s n with
  | some ds=>if ds.length=i+(k+1)then match ds[i]? with
    | some d=>match g d (wipe σ vs) s with
     | some σ1=>match t σ1 s with
      | some (.ok true s1)=>match e σ1 s1 with
       | some (.ok y s2)=>(zbj D0 y s2).bind λs3=>lcL D0 n vs g t e k (i+1) σ s3
       | _=>none
      | some (.ok false s1)=>lcL D0 n vs g t e k (i+1) σ s1
      | _=>none
     | none=>none
    | none=>none
   else none
  | none=>none
def wX(s:S)(f:Nat->S->Option S):Option (Res D):=(f s.length (s++[.lst []])).map λs'=>.ok (.ref s.length) s'
def uL(n:Nat)(s:S)(f:S->Option (Res D)):Option (Res D):=match s[n]? with
 | some (.lck o)=>f s
 | some o=>match f (s.set n (.lck o))with
  | some (.ok d s')=>some (.ok d (s'.set n o))
  | r=>r
 | none=>none
def tYes:T:=λ_=>ret true
def eLc(vs:List Nat)(src:SrcE)(g:G)(t:T)(e:E):E:=λσ=>bnd (src σ) λsk s1=>match sk with
 | .vals ds=>wX s1 λD0 s2=>lcV D0 vs g t e ds σ s2
 | .list n k=>wX s1 λD0 s2=>lcL D0 n vs g t e k 0 σ s2
 | .dict n ds=>uL n s1 λs2=>wX s2 λD0 s3=>lcV D0 vs g t e ds σ s3
abbrev F:=List D->M D
def yt(np nn:Nat)(b:C):F:=λds s=>if ds.length=np then match b (ds.map some++List.replicate (nn - np) none) s with
 | some (.nx _ s')=>some (.ok .non s')
 | some (.rt d s')=>some (.ok d s')
 | some (.xc c fs _ s')=>some (.exc c fs s')
 | _=>none else none
def zE(f:F)(dfl:List D)(es:EL):E:=λσ=>bnd (es σ) λds=>f (ds++dfl)
def wy(c f:Str)(e:E):C:=λσ s=>ex σ (e σ s) λv s'=>some (.xc c [(f,v)] σ s')
def zjZ(sub:List Str)(b u:C):C:=λσ s=>match b σ s with
 | some (.xc c fs σ1 s1)=>if sub.contains c then u σ1 s1 else some (.xc c fs σ1 s1)
 | r=>r
def vD(c:Str)(init:F)(dfl:List D)(es:EL):E:=λσ=>bnd (es σ) λds=>λs=>match init (.ref s.length::(ds++dfl)) (s++[.ins c []])with
 | some (.ok .non s')=>some (.ok (.ref s.length) s')
 | some (.exc x fs s')=>some (.exc x fs s')
 | _=>none
def uC(c m:Str)(f:F)(dfl:List D)(o:E)(es:EL):E:=λσ=>bnd (o σ) λx=>λs=>match x with
 | .ref n=>match s[n]? with
  | some (.ins c' fs)=>if c'=c/\fs.lookup m=none then bnd (es σ) (λds=>f (x::(ds++dfl))) s else none
  | _=>none
 | _=>none
end Fc
namespace Fc
open PySem PySem.Spec PyProof.Rows L2
def RolAt(K:pX)(H:Hp)(a:Addr)(xs:List V):Prop:=SqL K H a xs/\∀ H':Hp,(∀ b o ys,H b=some (.frz o (.lst ys))->H' b=some (.frz o (.lst ys)))->SqL K H' a xs
theorem RolAt.of{K:pX}{H:Hp}{a:Addr}{xs:List V}(hO:Only H)(h:SqL K H a xs):RolAt K H a xs:=by
 refine⟨h,λH' k=>?_⟩
 rcases h with (h | ⟨o,h⟩) | h
 . rcases hO a with z | ⟨o,ys,z⟩
   . rw[z]at h;cases h
   . rw[z]at h;cases h
 . exact .inl (.inr ⟨o,k _ _ _ h⟩)
 . exact .inr h
def StT(K:pX)(a:Addr)(xs:List V):Prop:=∃(o:Obj) (its:Array Value) (n:Nat),K.lookup a=some o/\o.cls=.type "tuple"/\o.data=.seq its n/\its.size<=sizeLine/\Vals xs its.toList
theorem StT.sq{K:pX}{H:Hp}{a:Addr}{xs:List V}(h:StT K a xs):SqT K H a xs:=.inr h
structure CM where
 ins:Str->Option Addr
 err:Str->Option Addr
 wld:Option World
variable(K:pX)(cm:CM)
mutual
def RV(p:List Addr)(H:Hp):D->V->Prop
 | .non,v=>v=.non
 | .bl b,v=>v=.bl b
 | .int i,v=>v=.int i
 | .str x,v=>v=.str x
 | .tup ds,v=>∃ a vs,v=.ref a/\H a=some (.tup vs)/\RVs p H ds vs
 | .rol ds,v=>∃ a vs,v=.ref a/\RolAt K H a vs/\RVs p H ds vs
 | .ref n,v=>∃ a,p[n]?=some a/\v=.ref a
 | .stu ds,v=>∃ a vs,v=.ref a/\StT K a vs/\RVs p H ds vs
def RVs(p:List Addr)(H:Hp):List D->List V->Prop
 | [],vs=>vs=[]
 | d::ds,vs=>∃ v r,vs=v::r/\RV p H d v/\RVs p H ds r
end
def RKs{κ:Type}(p:List Addr)(H:Hp):List (κ×D)->List (κ×V)->Prop
 | [],vs=>vs=[]
 | d::ds,vs=>∃ v r,vs=(d.1,v)::r/\RV K p H d.2 v/\RKs p H ds r
def zrX(w:World)(x:NestedKey×Addr×Value):DictEntry:=⟨x.1.hash w,.ref x.2.1,x.2.2⟩
def NdO(w:World)(a:Addr)(xs:List (NestedKey×Addr×Value)):HO:=.ext λh=>∃ o es ep,h.get? a=some o/\o.ExactDict/\o.data=.dict es ep/\es.toList=xs.map (zrX w)/\(xs.map (·.1)).Nodup/\(a == sysModules)=false/\xs.length<=sizeLine
def RN(p:List Addr)(H:Hp):List (D×D)->List (NestedKey×Addr×Value)->Prop
 | [],xs=>xs=[]
 | kv::r,xs=>∃ k b v u ys,xs=(k,b,u)::ys/\nkT kv.1=some k/\RV K p H kv.1 (.ref b)/\RV K p H kv.2 v/\RelV v u/\RN p H r ys
def RC(p:List Addr)(H:Hp)(a:Addr):O->HO->Prop
 | .lst ds,u=>∃ vs,u=.lst vs/\RVs K p H ds vs
 | .dK kvs,u=>∃ ws,u=.dK ws/\RKs K p H kvs ws
 | .dT kvs,u=>∃ ws,u=.dT ws/\RKs K p H kvs ws
 | .dN kvs,u=>∃ w xs,cm.wld=some w/\u=NdO w a xs/\RN K p H kvs xs
 | .ins c fs,u=>∃ C dx gs,cm.ins c=some C/\u=.ins C dx gs/\RKs K p H fs gs
 | .err c fs,u=>False
 | .lck o,u=>False
def ErrO(a C:Addr)(d:Option Addr):HO:=.ext λh=>∃ oe vs,h.get? a=some oe/\oe.cls=.ref C/\oe.dict=d/\oe.data=.fields vs
def RDd(p:List Addr)(H:Hp)(fs:List (Str×D)):Option Addr->Prop
 | some dd=>∃ gs,H dd=some (.xd gs)/\RKs K p H fs gs
 | none=>fs=[]
def RO(p:List Addr)(H:Hp)(a:Addr):O->Prop
 | .err c fs=>∃ C d,cm.err c=some C/\H a=some (ErrO a C d)/\RDd K p H fs d
 | .lck o=>∃ od u,H a=some (.frz od u)/\Mut (some u)/\RC K cm p H a o u
 | o=>∃ u,H a=some u/\RC K cm p H a o u
structure RS(p:List Addr)(s:S)(H:Hp):Prop where
 len:p.length=s.length
 nd:p.Nodup
 ob:∀(n:Nat) (o:O) (a:Addr),s[n]?=some o->p[n]?=some a->RO K cm p H a o
def RE(p:List Addr)(H:Hp)(e:Env)(σ:L2.St):Prop:=e.length=σ.length/\∀(i:Nat) (d:D),e[i]?=some (some d)->∃ v,σ[i]?=some (some v)/\RV K p H d v
structure Fut0(p:List Addr)(H:Hp)(p':List Addr)(H':Hp):Prop where
 pre:∀(n:Nat) (a:Addr),p[n]?=some a->p'[n]?=some a
 tup:∀ b ys,H b=some (.tup ys)->H' b=some (.tup ys)
 frl:∀ b o ys,H b=some (.frz o (.lst ys))->H' b=some (.frz o (.lst ys))
 xd:∀ b fs,H b=some (.xd fs)->H' b=some (.xd fs)
structure Fut(p:List Addr)(H:Hp)(p':List Addr)(H':Hp):Prop extends Fut0 p H p' H' where
 frz:∀ b o u,H b=some (.frz o u)->H' b=some (.frz o u)
theorem Fut.mk'{p:List Addr}{H:Hp}{p':List Addr}{H':Hp}(pre:∀(n:Nat) (a:Addr),p[n]?=some a->p'[n]?=some a)(tup:∀ b ys,H b=some (.tup ys)->H' b=some (.tup ys))(frz:∀ b o u,H b=some (.frz o u)->H' b=some (.frz o u))(xd:∀ b fs,H b=some (.xd fs)->H' b=some (.xd fs)):Fut p H p' H' :=
 ⟨⟨pre,tup,λb o ys h=>frz b o _ h,xd⟩,frz⟩
variable{K cm}{p p' p2:List Addr}{H H' H2:Hp}
theorem Fut.refl:Fut p H p H:=.mk' (λ_ _ h=>h) (λ_ _ h=>h) (λ_ _ _ h=>h) (λ_ _ h=>h)
theorem Fut.trans(a:Fut p H p' H')(b:Fut p' H' p2 H2):Fut p H p2 H2:=.mk' (λn x h=>b.pre n x (a.pre n x h)) (λc ys h=>b.tup c ys (a.tup c ys h)) (λc o ys h=>b.frz c o ys (a.frz c o ys h)) (λc fs h=>b.xd c fs (a.xd c fs h))
theorem Fut0.trans(a:Fut0 p H p' H')(b:Fut0 p' H' p2 H2):Fut0 p H p2 H2:=⟨λn x h=>b.pre n x (a.pre n x h),λc ys h=>b.tup c ys (a.tup c ys h),λc o ys h=>b.frl c o ys (a.frl c o ys h),λc fs h=>b.xd c fs (a.xd c fs h)⟩
mutual
theorem RV.yG(f:Fut0 p H p' H'):∀(d:D) {v:V},RV K p H d v->RV K p' H' d v
 | .non,_,h=>by simpa[RV]using h
 | .bl _,_,h=>by simpa[RV]using h
 | .int _,_,h=>by simpa[RV]using h
 | .str _,_,h=>by simpa[RV]using h
 | .tup ds,_,h=>by
  simp only[RV]at h ⊢;obtain⟨a,vs,e,t,r⟩:=h;exact⟨a,vs,e,f.tup a vs t,RVs.yG f ds r⟩
 | .rol ds,_,h=>by
  simp only[RV]at h ⊢;obtain⟨a,vs,e,t,r⟩:=h;exact⟨a,vs,e,⟨t.2 H' f.frl,λH2 k=>t.2 H2 λb o ys q=>k b o ys (f.frl b o ys q)⟩,RVs.yG f ds r⟩
 | .ref n,_,h=>by
  simp only[RV]at h ⊢;obtain⟨a,e,q⟩:=h;exact⟨a,f.pre n a e,q⟩
 | .stu ds,_,h=>by
  simp only[RV]at h ⊢;obtain⟨a,vs,e,t,r⟩:=h;exact⟨a,vs,e,t,RVs.yG f ds r⟩
theorem RVs.yG(f:Fut0 p H p' H'):∀(ds:List D) {vs:List V},RVs K p H ds vs->RVs K p' H' ds vs
 | [],_,h=>by simpa[RVs]using h
 | d::ds,_,h=>by
  simp only[RVs]at h ⊢;obtain⟨v,r,e,h1,h2⟩:=h;exact⟨v,r,e,RV.yG f d h1,RVs.yG f ds h2⟩
end
theorem RKs.yG{κ:Type}(f:Fut0 p H p' H'):∀(ds:List (κ×D)) {vs:List (κ×V)},RKs K p H ds vs->RKs K p' H' ds vs
 | [],_,h=>by simpa[RKs]using h
 | d::ds,_,h=>by
  simp only[RKs]at h ⊢;obtain⟨v,r,e,h1,h2⟩:=h;exact⟨v,r,e,RV.yG f d.2 h1,RKs.yG f ds h2⟩
theorem RN.yG(f:Fut0 p H p' H'):∀(ds:List (D×D)) {xs:List (NestedKey×Addr×Value)},RN K p H ds xs->RN K p' H' ds xs
 | [],_,h=>by simpa[RN]using h
 | d::ds,_,h=>by
  simp only[RN]at h ⊢;obtain⟨k,b,v,u,ys,e,h1,h2,h3,h4,h5⟩:=h;exact⟨k,b,v,u,ys,e,h1,RV.yG f d.1 h2,RV.yG f d.2 h3,h4,RN.yG f ds h5⟩
theorem RC.yG(f:Fut0 p H p' H'){a:Addr}:∀(o:O) {u:HO},RC K cm p H a o u->RC K cm p' H' a o u
 | .lst ds,_,h=>by
  obtain⟨vs,e,r⟩:=h;exact⟨vs,e,r.yG f⟩
 | .dK ds,_,h=>by
  obtain⟨vs,e,r⟩:=h;exact⟨vs,e,r.yG f⟩
 | .dT ds,_,h=>by
  obtain⟨vs,e,r⟩:=h;exact⟨vs,e,r.yG f⟩
 | .dN ds,_,h=>by
  obtain⟨w,xs,e1,e,r⟩:=h;exact⟨w,xs,e1,e,r.yG f⟩
 | .ins c fs,_,h=>by
  obtain⟨C,dx,gs,e1,e,r⟩:=h;exact⟨C,dx,gs,e1,e,r.yG f⟩
 | .err _ _,_,h=>h
 | .lck _,_,h=>h
theorem RDd.yG(f:Fut0 p H p' H'){fs:List (Str×D)}:∀{d:Option Addr},RDd K p H fs d->RDd K p' H' fs d
 | some _,⟨gs,e,r⟩=>⟨gs,f.xd _ _ e,r.yG f⟩
 | none,h=>h
theorem RE.yG(f:Fut0 p H p' H'){e:Env}{σ:L2.St}(h:RE K p H e σ):RE K p' H' e σ:=⟨h.1,λi d q=>let ⟨v,a,b⟩:=h.2 i d q;⟨v,a,b.yG f⟩⟩
theorem RV.mono(f:Fut p H p' H')(d:D){v:V}(h:RV K p H d v):RV K p' H' d v:=RV.yG f.toFut0 d h
theorem RVs.mono(f:Fut p H p' H')(ds:List D){vs:List V}(h:RVs K p H ds vs):RVs K p' H' ds vs:=RVs.yG f.toFut0 ds h
theorem RKs.mono{κ:Type}(f:Fut p H p' H')(ds:List (κ×D)){vs:List (κ×V)}(h:RKs K p H ds vs):RKs K p' H' ds vs:=RKs.yG f.toFut0 ds h
theorem RC.mono(f:Fut p H p' H'){a:Addr}(o:O){u:HO}(h:RC K cm p H a o u):RC K cm p' H' a o u:=RC.yG f.toFut0 o h
theorem RDd.mono(f:Fut p H p' H'){fs:List (Str×D)}{d:Option Addr}(h:RDd K p H fs d):RDd K p' H' fs d:=RDd.yG f.toFut0 h
theorem RE.mono(f:Fut p H p' H'){e:Env}{σ:L2.St}(h:RE K p H e σ):RE K p' H' e σ:=h.yG f.toFut0
theorem RVs.length:∀{ds:List D}{vs:List V},RVs K p H ds vs->ds.length=vs.length
 | [],_,h=>by simp only[RVs]at h;rw[h];rfl
 | d::ds,_,h=>by
  simp only[RVs]at h;obtain⟨v,r,e,_,h2⟩:=h;rw[e,sS,sS,RVs.length h2]
theorem RVs.get:∀{ds:List D}{vs:List V}{i:Nat}{d:D},RVs K p H ds vs->ds[i]?=some d->∃ v,vs[i]?=some v/\RV K p H d v
 | [],_,_,_,_,e=>by simp at e
 | d::ds,_,0,_,h,e=>by
  simp only[RVs]at h;obtain⟨v,r,e',h1,_⟩:=h;simp at e;subst e;exact⟨v,by rw[e'];rfl,h1⟩
 | d::ds,_,i+1,d',h,e=>by
  simp only[RVs]at h;obtain⟨v,r,e',_,h2⟩:=h;obtain⟨w,q1,q2⟩:=RVs.get (i:=i) (d:=d') h2 (by simpa using e);exact⟨w,by rw[e'];simpa using q1,q2⟩
theorem RVs.append:∀{ds es:List D}{vs ws:List V},RVs K p H ds vs->RVs K p H es ws->RVs K p H (ds++es) (vs++ws)
 | [],_,_,_,h,k=>by simp only[RVs]at h;rw[h];exact k
 | d::ds,es,_,ws,h,k=>by
  simp only[RVs]at h;obtain⟨v,r,e,h1,h2⟩:=h;rw[e];show RVs K p H (d::(ds++es)) (v::(r++ws));simp only[RVs];exact⟨v,_,rfl,h1,RVs.append h2 k⟩
theorem RVs.of_get:∀{ds:List D}{vs:List V},ds.length=vs.length->(∀(i:Nat) d v,ds[i]?=some d->vs[i]?=some v->RV K p H d v)->RVs K p H ds vs
 | [],[],_,_=>by simp only[RVs]
 | [],_::_,l,_=>by simp at l
 | _::_,[],l,_=>by simp at l
 | d::ds,v::vs,l,h=>by
  simp only[RVs];exact⟨v,vs,rfl,h 0 d v rfl rfl,RVs.of_get (by simpa using l) λi d' v' e1 e2=>h (i+1) d' v' (by simpa using e1) (by simpa using e2)⟩
theorem RVs.drop{ds:List D}{vs:List V}(h:RVs K p H ds vs)(n:Nat):RVs K p H (ds.drop n) (vs.drop n):=by
 refine RVs.of_get (by simp[h.length]) λi d v e1 e2=>?_;rw[List.getElem?_drop]at e1 e2;obtain⟨w,q1,q2⟩:=h.get e1;rw[e2]at q1;cases q1;exact q2
theorem RVs.take{ds:List D}{vs:List V}(h:RVs K p H ds vs)(n:Nat):RVs K p H (ds.take n) (vs.take n):=by
 refine RVs.of_get (by simp[h.length]) λi d v e1 e2=>?_;rw[List.getElem?_take]at e1 e2;split at e1
 . rename_i hi;rw[if_pos hi]at e2;obtain⟨w,q1,q2⟩:=h.get e1;rw[e2]at q1;cases q1;exact q2
 . cases e1
theorem RVs.set{ds:List D}{vs:List V}(h:RVs K p H ds vs)(n:Nat){d:D}{v:V}(r:RV K p H d v):RVs K p H (ds.set n d) (vs.set n v):=by
 have hl:=h.length;refine RVs.of_get (by simp[hl]) λi d' v' e1 e2=>?_;rw[qC]at e1 e2;by_cases hi:n=i
 . rw[if_pos hi]at e1 e2;split at e1
   . rename_i h1;rw[if_pos (by omega)]at e2;cases e1;cases e2;exact r
   . cases e1
 . rw[if_neg hi]at e1 e2;obtain⟨w,q1,q2⟩:=h.get e1;rw[e2]at q1;cases q1;exact q2
theorem RS.at(r:RS K cm p s H){n:Nat}{o:O}(h:s[n]?=some o):∃ a,p[n]?=some a/\RO K cm p H a o:=by
 have hn:=(sU.mp h).1
 have e:p[n]?=some (p[n]'(by rw[r.len];exact hn)):=by simp[r.len,hn]
 exact⟨_,e,r.ob n o _ h e⟩
theorem RO.some{a:Addr}{o:O}(h:RO K cm p H a o):∃ u,H a=some u:=by
 cases o with
 | lck o=>obtain⟨od,u,e,_⟩:=h;exact⟨_,e⟩
 | lst _=>obtain⟨u,e,_⟩:=h;exact⟨_,e⟩
 | dK _=>obtain⟨u,e,_⟩:=h;exact⟨_,e⟩
 | dT _=>obtain⟨u,e,_⟩:=h;exact⟨_,e⟩
 | dN _=>obtain⟨u,e,_⟩:=h;exact⟨_,e⟩
 | ins _ _=>obtain⟨u,e,_⟩:=h;exact⟨_,e⟩
 | err _ _=>obtain⟨_,_,_,e,_⟩:=h;exact⟨_,e⟩
theorem RS.zen(r:RS K cm p s H){a:Addr}(h:H a=none):a∉p:=λhm=>by
 obtain⟨n,hn,e⟩:=List.getElem_of_mem hm
 have e':p[n]?=some a:=by rw[← e];simp[hn]
 have hs:n<s.length:=by rw[← r.len];exact hn
 obtain⟨u,q⟩:=(r.ob n s[n] a (by simp[hs]) e').some;rw[h]at q;cases q
theorem RO.znx{a:Addr}{o:O}(h:RO K cm p H a o)(f:Fut0 p H p' H')(ha:H' a=H a):RO K cm p' H' a o:=by
 cases o with
 | lck o=>obtain⟨od,u,e,m,r⟩:=h;exact⟨od,u,ha.trans e,m,r.yG f⟩
 | lst _=>obtain⟨u,e,r⟩:=h;exact⟨u,ha.trans e,r.yG f⟩
 | dK _=>obtain⟨u,e,r⟩:=h;exact⟨u,ha.trans e,r.yG f⟩
 | dT _=>obtain⟨u,e,r⟩:=h;exact⟨u,ha.trans e,r.yG f⟩
 | dN _=>obtain⟨u,e,r⟩:=h;exact⟨u,ha.trans e,RC.yG f _ r⟩
 | ins _ _=>obtain⟨u,e,r⟩:=h;exact⟨u,ha.trans e,r.yG f⟩
 | err _ _=>obtain⟨C,d,e1,e2,r⟩:=h;exact⟨C,d,e1,ha.trans e2,r.yG f⟩
theorem RO.keep{a:Addr}{o:O}(h:RO K cm p H a o)(f:Fut p H p' H')(ha:H' a=H a):RO K cm p' H' a o:=h.znx f.toFut0 ha
theorem Fut.same(k:Same H H'):Fut p H p H':=.mk' (λ_ _ h=>h) (λb ys h=>k b _ h) (λb o ys h=>k b _ h) (λb fs h=>k b _ h)
theorem RS.same(r:RS K cm p s H)(k:Same H H'):RS K cm p s H':=⟨r.len,r.nd,λn o a h1 h2=>by
 have q:=r.ob n o a h1 h2;obtain⟨u,e⟩:=q.some
 exact q.keep (Fut.same k) ((k a u e).trans e.symm)⟩
theorem vm{a:Addr}{u:HO}(h:H a=none):Same H (upd H a u):=λb o e=>by rw[upd_ne (ne_of_none e h)];exact e
theorem Fut.new{a:Addr}{u:HO}(h:H a=none):Fut p H (p++[a]) (upd H a u) :=
 .mk' (λn b e=>by rw[rN (sU.mp e).1];exact e) (Fut.same (p:=p) (vm h)).tup (Fut.same (p:=p) (vm h)).frz (Fut.same (p:=p) (vm h)).xd
theorem RS.zrs(r:RS K cm p s H){a:Addr}{u:HO}{o:O}(h:H a=none)(c:RO K cm (p++[a]) (upd H a u) a o):RS K cm (p++[a]) (s++[o]) (upd H a u)/\(p++[a])[s.length]?=some a:=by
 have f:Fut p H (p++[a]) (upd H a u):=Fut.new h;refine⟨⟨by simp[r.len],?_,λn o' b h1 h2=>?_⟩,by rw[← r.len];simp⟩
 . rw[rK];refine⟨r.nd,by simp,λx hx y hy e=>?_⟩;simp at hy;subst hy;subst e;exact r.zen h hx
 . by_cases hn:n<s.length
   . rw[rN hn]at h1;rw[rN (by rw[r.len];exact hn)]at h2;have q:=r.ob n o' b h1 h2;refine q.keep f (upd_ne λe=>?_);subst e;exact r.zen h (qQ h2)
   . have e:n=s.length:=by
      have:=(sU.mp h1).1;simp at this;omega
     subst e;simp at h1;subst h1;rw[← r.len]at h2;simp at h2;subst h2;exact c
theorem RC.ro{a:Addr}{u:HO}{o:O}(c:RC K cm p H a o u)(h:H a=some u):RO K cm p H a o:=by
 cases o with
 | lck o=>exact False.elim c
 | err _ _=>exact False.elim c
 | lst _=>exact⟨u,h,c⟩
 | dK _=>exact⟨u,h,c⟩
 | dT _=>exact⟨u,h,c⟩
 | dN _=>exact⟨u,h,c⟩
 | ins _ _=>exact⟨u,h,c⟩
theorem RS.new(r:RS K cm p s H){a:Addr}{u:HO}{o:O}(h:H a=none)(c:RC K cm p H a o u):Fut p H (p++[a]) (upd H a u)/\RS K cm (p++[a]) (s++[o]) (upd H a u)/\(p++[a])[s.length]?=some a :=
 ⟨Fut.new h,r.zrs h ((c.mono (Fut.new h)).ro upd_same)⟩
theorem zie{b:Addr}{a:Addr}{u u0 w:HO}(h0:H a=some u0)(hm:Mut (some u0))(e:H b=some w)(hn:¬ Mut (some w)):upd H a u b=some w:=by
 rw[upd_ne λz=>?_]
 . exact e
 . subst z;rw[h0]at e;cases e;exact hn hm
theorem Fut.put{a:Addr}{u u0:HO}(h0:H a=some u0)(hm:Mut (some u0)):Fut p H p (upd H a u) :=
 .mk' (λ_ _ e=>e) (λb ys e=>zie h0 hm e λz=>z) (λb o ys e=>zie h0 hm e λz=>z) (λb fs e=>zie h0 hm e λz=>z)
theorem RS.zpp(r:RS K cm p s H){n:Nat}{a:Addr}{u u0:HO}{o:O}(ha:p[n]?=some a)(h0:H a=some u0)(f:Fut0 p H p (upd H a u))(c:RO K cm p (upd H a u) a o):RS K cm p (s.set n o) (upd H a u):=by
 refine⟨by simp[r.len],r.nd,λk o' b h1 h2=>?_⟩;by_cases hk:n=k
 . subst hk;rw[ha]at h2;cases h2
   have hn:n<s.length:=by rw[← r.len];exact(sU.mp ha).1
   rw[rF hn]at h1;cases h1;exact c
 . rw[sV hk]at h1;have q:=r.ob k o' b h1 h2;refine q.znx f (upd_ne λe=>?_);subst e;have l1:=(sU.mp ha).1;have l2:=(sU.mp h2).1;exact hk ((List.getElem_inj r.nd (h₀:=l1) (h₁:=l2)).mp (by rw[(sU.mp ha).2,(sU.mp h2).2]))
theorem RS.put(r:RS K cm p s H){n:Nat}{a:Addr}{u u0:HO}{o:O}(ha:p[n]?=some a)(h0:H a=some u0)(hm:Mut (some u0))(c:RC K cm p H a o u):Fut p H p (upd H a u)/\RS K cm p (s.set n o) (upd H a u) :=
 ⟨Fut.put h0 hm,r.zpp ha h0 (Fut.put h0 hm).toFut0 ((c.mono (Fut.put h0 hm)).ro upd_same)⟩
end Fc
namespace L2
open PySem
theorem PE.imp{X:Cx}{x:Expr}{t t':TE}(h:PE X x t)(k:∀ σ H Q,t' σ H Q->t σ H Q):PE X x t':=⟨λpins s σ H Q I q=>h.run pins s σ H Q I (k σ H Q q)⟩
theorem PT.imp{X:Cx}{x:Expr}{t t':TT}(h:PT X x t)(k:∀ σ H Q,t' σ H Q->t σ H Q):PT X x t':=⟨λpins s σ H Q I q=>h.run pins s σ H Q I (k σ H Q q)⟩
theorem PW.imp{X:Cx}{x:Expr}{t t':TT}(h:PW X x t)(k:∀ σ H Q,t' σ H Q->t σ H Q):PW X x t':=⟨λw pins s σ H Q I q=>h.run w pins s σ H Q I (k σ H Q q)⟩
theorem PA.imp{X:Cx}{x:List Expr}{t t':TA}(h:PA X x t)(k:∀ σ H Q,t' σ H Q->t σ H Q):PA X x t':=⟨λw pins s σ H Q I q=>h.run w pins s σ H Q I (k σ H Q q)⟩
theorem PO.imp{X:Cx}{x:Option Expr}{t t':TO}(h:PO X x t)(k:∀ σ H Q,t' σ H Q->t σ H Q):PO X x t':=⟨λpins s σ H Q I q=>h.run pins s σ H Q I (k σ H Q q)⟩
end L2
namespace Fc
open PySem PySem.Spec PyProof.Rows L2
def RX(K:pX)(cm:CM)(p:List Addr)(H:Hp)(c:Str)(fs:List (Str×D))(cls:Value)(d:Option Addr):Prop :=
 ∃ C,cm.err c=some C/\cls=.ref C/\RDd K p H fs d
def Po{a b:Type}(K:pX)(cm:CM)(W:WX)(rel:List Addr->Hp->a->b->Prop)(p:List Addr)(σ:L2.St)(H:Hp)(r:Option (Res a))(Q:b->Hp->Prop):Prop:=match r with
 | none=>False
 | some (.ok d s')=>∀ p' H' v,Fut p H p' H'->RS K cm p' s' H'->rel p' H' d v->Q v H'
 | some (.exc c fs s')=>∀ p' H' cls dd,Fut p H p' H'->RS K cm p' s' H'->RX K cm p' H' c fs cls dd->W cls dd σ H'
section
variable{K:pX}{cm:CM}{W:WX}{p p':List Addr}{σ:L2.St}{H H':Hp}
theorem Po.fut{a b:Type}{rel:List Addr->Hp->a->b->Prop}{r:Option (Res a)}{Q:b->Hp->Prop}(h:Po K cm W rel p σ H r Q)(f:Fut p H p' H'):Po K cm W rel p' σ H' r Q:=by
 match r,h with
 | some (.ok d s'),h=>exact λp2 H2 v f2=>h p2 H2 v (f.trans f2)
 | some (.exc c fs s'),h=>exact λp2 H2 cls dd f2=>h p2 H2 cls dd (f.trans f2)
theorem Po.imp{a b:Type}{rel:List Addr->Hp->a->b->Prop}{r:Option (Res a)}{Q Q':b->Hp->Prop}(h:Po K cm W rel p σ H r Q)(k:∀ v H,Q v H->Q' v H):Po K cm W rel p σ H r Q':=by
 match r,h with
 | some (.ok d s'),h=>exact λp2 H2 v f2 r2 q=>k _ _ (h p2 H2 v f2 r2 q)
 | some (.exc c fs s'),h=>exact h
theorem Po.bnd{a b c d:Type}{rel1:List Addr->Hp->a->b->Prop}{rel2:List Addr->Hp->c->d->Prop}{m:M a}{k:a->M c}{s:S}{Q:d->Hp->Prop}(h:Po K cm W rel2 p σ H (bnd m k s) Q) :
  Po K cm W rel1 p σ H (m s) λx H1=>∃ y p1 s1,Fut p H p1 H1/\RS K cm p1 s1 H1/\rel1 p1 H1 y x/\Po K cm W rel2 p1 σ H1 (k y s1) Q:=by
 unfold Fc.bnd at h
 match e:m s,h with
 | none,h=>exact h
 | some (.exc x fs s'),h=>exact h
 | some (.ok y s'),h=>exact λp1 H1 v f r q=>⟨y,p1,s',f,r,q,Po.fut h f⟩
theorem Po.ok{a b:Type}{rel:List Addr->Hp->a->b->Prop}{x:a}{s:S}{Q:b->Hp->Prop}{v:b}(h:Po K cm W rel p σ H (some (.ok x s)) Q)(r:RS K cm p s H)(q:rel p H x v):Q v H:=h p H v Fut.refl r q
end
variable(K:pX)(cm:CM)(W:WX)
def rB:List Addr->Hp->Bool->Bool->Prop:=λ_ _ a b=>a=b
def rI':List Addr->Hp->Option Int->Option Int->Prop:=λ_ _ a b=>a=b
def tD(f:E):TE:=λσ H Q=>∃ p e s,RE K p H e σ/\RS K cm p s H/\Po K cm W (RV K) p σ H (f e s) Q
def tT(f:T):TT:=λσ H Q=>∃ p e s,RE K p H e σ/\RS K cm p s H/\Po K cm W rB p σ H (f e s) Q
def tL(f:EL):TA:=λσ H Q=>∃ p e s,RE K p H e σ/\RS K cm p s H/\Po K cm W (RVs K) p σ H (f e s) Q
def tO(f:EO):TO:=λσ H Q=>∃ p e s,RE K p H e σ/\RS K cm p s H/\Po K cm W rI' p σ H (f e s) Q
variable{K cm W}
section
variable(X:Cx)(cm:CM)(W:WX)
abbrev JE(x:Expr)(f:E):Prop:=PE X x (tD X.K cm W f)
abbrev JT(x:Expr)(f:T):Prop:=PT X x (tT X.K cm W f)
abbrev JW(x:Expr)(f:T):Prop:=PW X x (tT X.K cm W f)
abbrev JA(x:List Expr)(f:EL):Prop:=PA X x (tL X.K cm W f)
abbrev JO(x:Option Expr)(f:EO):Prop:=PO X x (tO X.K cm W f)
def S2(fv:Value->Value->Sem Value)(op:D->D->M D):Prop:=∃ r:R2,OpR X fv r/\∀(W:WX) p s σ H x y dx dy Q,RS X.K cm p s H->RV X.K p H dx x->RV X.K p H dy y->Po X.K cm W (RV X.K) p σ H (op dx dy s) Q->r x y H Q
def SN(fv:Value)(op:List D->M D):Prop:=∃ r:List V->Hp->VK->Prop,CallR X fv r/\∀(W:WX) p s σ H xs ds Q,RS X.K cm p s H->RVs X.K p H ds xs->Po X.K cm W (RV X.K) p σ H (op ds s) Q->r xs H Q
end
section
variable{σ:L2.St}{H:Hp}
theorem tD.bnd{f:E}{k:D->M D}{Q:VK}(h:tD K cm W (λe=>bnd (f e) k) σ H Q):tD K cm W f σ H λx H1=>∃ p e s d,RE K p H1 e σ/\RS K cm p s H1/\RV K p H1 d x/\Po K cm W (RV K) p σ H1 (k d s) Q:=by
 obtain⟨p,e,s,re,rs,q⟩:=h;refine⟨p,e,s,re,rs,(Po.bnd (rel1:=RV K) q).imp ?_⟩;rintro v H1 ⟨d,p1,s1,f,rs1,rv,q1⟩;exact⟨p1,e,s1,d,re.mono f,rs1,rv,q1⟩
theorem tD.two{a b:E}{k:D->D->M D}{Q:VK}(h:tD K cm W (e2 k a b) σ H Q):tD K cm W a σ H λx H1=>tD K cm W b σ H1 λy H2=>∃ p e s d1 d2,RE K p H2 e σ/\RS K cm p s H2/\RV K p H2 d1 x/\RV K p H2 d2 y/\Po K cm W (RV K) p σ H2 (k d1 d2 s) Q:=by
 obtain⟨p,e,s,re,rs,q⟩:=h;refine⟨p,e,s,re,rs,(Po.bnd (rel1:=RV K) q).imp ?_⟩;rintro v H1 ⟨d,p1,s1,f,rs1,rv,q1⟩;refine⟨p1,e,s1,re.mono f,rs1,(Po.bnd (rel1:=RV K) q1).imp ?_⟩;rintro w H2 ⟨d',p2,s2,f2,rs2,rw',q2⟩;exact⟨p2,e,s2,d,d',(re.mono f).mono f2,rs2,rv.mono f2,rw',q2⟩
theorem tD.args{es:EL}{k:List D->M D}{Q:VK}(h:tD K cm W (eN k es) σ H Q):tL K cm W es σ H λxs H1=>∃ p e s ds,RE K p H1 e σ/\RS K cm p s H1/\RVs K p H1 ds xs/\Po K cm W (RV K) p σ H1 (k ds s) Q:=by
 obtain⟨p,e,s,re,rs,q⟩:=h;refine⟨p,e,s,re,rs,(Po.bnd (rel1:=RVs K) q).imp ?_⟩;rintro v H1 ⟨d,p1,s1,f,rs1,rv,q1⟩;exact⟨p1,e,s1,d,re.mono f,rs1,rv,q1⟩
end
section
variable{X:Cx}{a b:Expr}{fa fb:E}{pos:Pos}
theorem zp(i:Nat){x:Str}{pos:Pos}(hN:X.N[i]?=some x:=by rfl)(hv:Vis X.env.scope x:=by first | exact Or.inl rfl | exact Or.inr (Or.inl rfl) | exact Or.inr (Or.inr rfl))(hd:(x == ("__debug__":Str))=false:=by decide)
  (hcd:(x == ("__classdict__":Str))=false:=by decide):JE X cm W (.Name x pos) (zg i):=by
 refine(pe_var hN hv hd hcd).imp ?_;rintro σ H Q ⟨p,e,s,re,rs,q⟩;unfold zg at q
 match h:e[i]?,q with
 | some (some d),q =>
  obtain⟨v,h1,h2⟩:=re.2 i d h;exact⟨v,h1,q.ok rs h2⟩
theorem zbB{x:Expr}{d:D}{v:V}(h:PE X x (tC v))(r:∀ p H,RV X.K p H d v):JE X cm W x (eC d):=by
 refine h.imp ?_;rintro σ H Q ⟨p,e,s,re,rs,q⟩;exact Po.ok q rs (r p H)
theorem zH{i:Int}{j pos}:JE X cm W (.Constant (.int i) j pos) (eC (.int i)):=zbB pe_int λ_ _=>by simp[RV]
theorem zcW{i:Bool}{j pos}:JE X cm W (.Constant (.bool i) j pos) (eC (.bl i)):=zbB pe_bl λ_ _=>by simp[RV]
theorem zcF{j pos}:JE X cm W (.Constant .none j pos) (eC .non):=zbB pe_non λ_ _=>by simp[RV]
theorem zN{x:Str}{j pos}:JE X cm W (.Constant (.str x) j pos) (eC (.str x)):=zbB pe_str λ_ _=>by simp[RV]
structure GlobC(K:pX)(mg:Str->Option Value)(x:Str)(d:D):Prop where
 ex:∃ v u,mg x=some u/\RelV v u/\∀ p H,RV K p H d v
theorem jB{x:Str}{d:D}{pos:Pos}(h:GlobC X.K X.mg x d)(hg:Gl X x:=by rfl)(hd:(x == ("__debug__":Str))=false:=by decide):JE X cm W (.Name x pos) (eC d):=by
 obtain⟨v,u,h1,h2,h3⟩:=h.ex;exact zbB (pe_glob hg h1 h2 hd) h3
theorem xN{op:Operator}{f:D->D->M D}(ho:S2 X cm (binaryOp op) f)(ha:JE X cm W a fa)(hb:JE X cm W b fb):JE X cm W (.BinOp a op b pos) (e2 f fa fb):=by
 obtain⟨r,h1,h2⟩:=ho;refine(pe_op h1 ha hb).imp λσ H Q q=>?_;refine(?_:tOp r _ _ σ H Q);obtain⟨p,e,s,re,rs,q⟩:=tD.two q;refine⟨p,e,s,re,rs,q.imp ?_⟩;rintro x H1 ⟨p,e,s,re,rs,q⟩;refine⟨p,e,s,re,rs,q.imp ?_⟩;rintro y H2 ⟨p,e,s,d1,d2,re,rs,r1,r2,q⟩;exact h2 W p s σ H2 x y d1 d2 Q rs r1 r2 q
theorem uR{op:CmpOp}{f:D->D->M D}(ho:S2 X cm (compareOp op) f)(ha:JE X cm W a fa)(hb:JE X cm W b fb)(hm:behindInMarks op b=false:=by first | exact nomark _ | rfl):JE X cm W (.Compare a [op] [b] pos) (e2 f fa fb):=by
 obtain⟨r,h1,h2⟩:=ho;refine(pe_cmpR h1 ha hb hm).imp λσ H Q q=>?_;refine(?_:tOp r _ _ σ H Q);obtain⟨p,e,s,re,rs,q⟩:=tD.two q;refine⟨p,e,s,re,rs,q.imp ?_⟩;rintro x H1 ⟨p,e,s,re,rs,q⟩;refine⟨p,e,s,re,rs,q.imp ?_⟩;rintro y H2 ⟨p,e,s,d1,d2,re,rs,r1,r2,q⟩;exact h2 W p s σ H2 x y d1 d2 Q rs r1 r2 q
theorem zdy(ha:JE X cm W a fa):JE X cm W (.UnaryOp .USub a pos) (e1 zay fa):=by
 refine(pe_un un_neg ha).imp λσ H Q q=>?_;obtain⟨p,e,s,re,rs,q⟩:=tD.bnd q;refine⟨p,e,s,re,rs,q.imp ?_⟩;rintro x H1 ⟨p,e,s,d,re,rs,r1,q⟩
 cases d <;> simp only[zay]at q <;> first | exact False.elim q | skip
 simp only[RV]at r1;exact⟨_,r1,q.ok rs (by simp[RV])⟩
end
end Fc
namespace Fc
open PySem PySem.Spec PyProof.Rows L2
section
variable{K:pX}{cm:CM}{W:WX}{p:List Addr}{s:S}{σ:L2.St}{H:Hp}
theorem yu(rs:RS K cm p s H){n:Nat}{x:V}{ds:List D}(r:RV K p H (.ref n) x)(h:s[n]?=some (.lst ds)):∃ a vs,x=.ref a/\p[n]?=some a/\H a=some (.lst vs)/\RVs K p H ds vs:=by
 simp only[RV]at r;obtain⟨a,ha,rfl⟩:=r;obtain⟨b,hb,u,e,vs,rfl,q⟩:=rs.at h;rw[ha]at hb;cases hb;exact⟨a,vs,rfl,ha,e,q⟩
theorem yo{x:V}{i:Int}(r:RV K p H (.int i) x):x=.int i:=by simpa[RV]using r
theorem jW{x:V}{i:Bool}(r:RV K p H (.bl i) x):x=.bl i:=by simpa[RV]using r
theorem xq{x:V}{i:Str}(r:RV K p H (.str i) x):x=.str i:=by simpa[RV]using r
theorem zbE{x:V}(r:RV K p H .non x):x=.non:=by simpa[RV]using r
theorem xV{x:V}{ds:List D}(r:RV K p H (.tup ds) x):∃ a vs,x=.ref a/\H a=some (.tup vs)/\RVs K p H ds vs:=by simpa[RV]using r
theorem xQ(i:Int):RV K p H (.int i) (.int i):=by simp[RV]
theorem jO(i:Bool):RV K p H (.bl i) (.bl i):=by simp[RV]
theorem uN(i:Str):RV K p H (.str i) (.str i):=by simp[RV]
theorem zhE:RV K p H .non .non:=by simp[RV]
theorem zam{a:Addr}{vs:List V}{ds:List D}(h:H a=some (.tup vs))(r:RVs K p H ds vs):RV K p H (.tup ds) (.ref a):=by
 simp only[RV];exact⟨a,vs,rfl,h,r⟩
theorem vh{a:Addr}{n:Nat}(h:p[n]?=some a):RV K p H (.ref n) (.ref a):=by
 simp only[RV];exact⟨a,h,rfl⟩
theorem zbI{n:Nat}(h:sz n=true):n<=sizeLine:=by rw[sizeLine_eq];exact of_decide_eq_true h
theorem Po.newl{ds:List D}{vs:List V}{Q:VK}(h:Po K cm W (RV K) p σ H (new (.lst ds) s) Q)(rs:RS K cm p s H)(r:RVs K p H ds vs){a:Addr}(ha:H a=none):Q (.ref a) (upd H a (.lst vs)):=by
 obtain⟨f,rs',e⟩:=rs.new (o:=.lst ds) (u:=.lst vs) ha ⟨vs,rfl,r⟩;exact h _ _ _ f rs' (vh e)
theorem Po.newt{ds:List D}{vs:List V}{Q:VK}(h:Po K cm W (RV K) p σ H (some (.ok (.tup ds) s)) Q)(rs:RS K cm p s H)(r:RVs K p H ds vs){a:Addr}(ha:H a=none):Q (.ref a) (upd H a (.tup vs)):=by
 have k:=vm (u:=HO.tup vs) ha;exact h _ _ _ (Fut.same k) (rs.same k) (zam upd_same (r.mono (Fut.same k)))
mutual
theorem zaS(rs:RS K cm p s H):∀(n:Nat) (d:D) {v:V}{x:PyData},RV K p H d v->dat s n d=some x->Dp K H v x
 | n,.non,v,x,r,e=>by
  cases n <;> (simp only[dat]at e;cases e;rw[zbE r];exact .non)
 | n,.bl b,v,x,r,e=>by
  cases n <;> (simp only[dat]at e;cases e;rw[jW r];exact .bl b)
 | n,.int b,v,x,r,e=>by
  cases n <;> (simp only[dat]at e;cases e;rw[yo r];exact .int b)
 | n,.str b,v,x,r,e=>by
  cases n <;> (simp only[dat]at e;cases e;rw[xq r];exact .str b)
 | n,.rol b,v,x,r,e=>by
  cases n <;> (simp only[dat]at e;cases e)
 | 0,.tup ds,v,x,r,e=>by simp only[dat]at e;cases e
 | 0,.ref a,v,x,r,e=>by simp only[dat]at e;cases e
 | 0,.stu ds,v,x,r,e=>by simp only[dat]at e;cases e
 | n+1,.stu ds,v,x,r,e=>by
  simp only[dat,tY]at e;obtain⟨xs,e,rfl⟩:=e;simp only[RV]at r;obtain⟨a,vs,rfl,h,q⟩:=r;exact .tup h.sq (zaT rs n ds q e)
 | n+1,.tup ds,v,x,r,e=>by
  simp only[dat,tY]at e;obtain⟨xs,e,rfl⟩:=e;obtain⟨a,vs,rfl,h,q⟩:=xV r;exact .tup (SqT.of h) (zaT rs n ds q e)
 | n+1,.ref a,v,x,r,e=>by
  simp only[dat,yx]at e
  cases h:s[a]? with
  | none=>rw[h]at e;cases e
  | some o =>
   rw[h]at e
   cases o with
   | lst ds =>
    obtain⟨xs,e1,rfl⟩:=tY.mp e;obtain⟨b,vs,rfl,_,hb,q⟩:=yu rs r h;exact .lst (SqL.of hb) (zaT rs n ds q e1)
   | _=>cases e
theorem zaT(rs:RS K cm p s H):∀(n:Nat) (ds:List D) {vs:List V}{xs:List PyData},RVs K p H ds vs->dats s n ds=some xs->DpAll K H vs xs
 | n,[],vs,xs,r,e=>by
  cases n <;> (simp only[dats]at e;cases e;simp only[RVs]at r;rw[r];exact .nil)
 | n,d::ds,vs,xs,r,e=>by
  simp only[RVs]at r;obtain⟨v,r',rfl,r1,r2⟩:=r;simp only[dats]at e;split at e
  . rename_i x xs' e1 e2;cases e;exact .cons (zaS rs n d r1 e1) (zaT rs n ds r2 e2)
  . cases e
end
theorem zfl{d:D}{k:Key}{v:V}(h:keyOf d=some k)(r:RV K p H d v):v=kV k:=by
 cases d <;> simp only[keyOf]at h <;> first | (cases h;done) | skip
 . cases h;exact yo r
 . cases h;exact xq r
theorem zef:∀{ds:List D}{ks:List Key}{vs:List V},keysOf ds=some ks->RVs K p H ds vs->vs=ks.map kV
 | [],ks,vs,h,r=>by
  simp only[keysOf]at h;cases h;simp only[RVs]at r;rw[r];rfl
 | d::ds,ks,vs,h,r=>by
  simp only[keysOf]at h;simp only[RVs]at r;obtain⟨v,r',rfl,r1,r2⟩:=r;split at h
  . rename_i k ks' e1 e2;cases h;rw[zfl e1 r1,zef e2 r2];rfl
  . cases h
theorem RKs.get{κ:Type}[DecidableEq κ](k:κ):∀{ds:List (κ×D)}{vs:List (κ×V)},RKs K p H ds vs->(∀ d,kget ds k=some d->∃ v,valV vs k=some v/\RV K p H d v)/\(kget ds k=none->valV vs k=none)
 | [],vs,r=>by
  simp only[RKs]at r;subst r;exact⟨λd e=>by simp[kget]at e,λ_=>rfl⟩
 | d::ds,vs,r=>by
  simp only[RKs]at r;obtain⟨v,r',rfl,r1,r2⟩:=r;have ih:=RKs.get k r2;by_cases hk:d.1=k
  . refine⟨λx e=>?_,λe=>?_⟩
    . simp[kget,hk]at e;subst e;exact⟨v,by rw[valV_pos hk],r1⟩
    . simp[kget,hk]at e
  . refine⟨λx e=>?_,λe=>?_⟩
    . have e':kget ds k=some x:=by simpa[kget,hk]using e
      obtain⟨w,q1,q2⟩:=ih.1 x e';exact⟨w,by rw[valV_neg hk];exact q1,q2⟩
    . have e':kget ds k=none:=by simpa[kget,hk]using e
      rw[valV_neg hk];exact ih.2 e'
theorem RKs.keys{κ:Type}:∀{ds:List (κ×D)}{vs:List (κ×V)},RKs K p H ds vs->ds.map (·.1)=vs.map (·.1)
 | [],vs,r=>by simp only[RKs]at r;rw[r];rfl
 | d::ds,vs,r=>by
  simp only[RKs]at r;obtain⟨v,r',rfl,r1,r2⟩:=r;simp[RKs.keys r2]
theorem RKs.length{κ:Type}{ds:List (κ×D)}{vs:List (κ×V)}(r:RKs K p H ds vs):ds.length=vs.length:=by
 have:=congrArg List.length r.keys;simpa using this
theorem zdY(rs:RS K cm p s H){n:Nat}{x:V}{o:O}{k:D}{kv:V}{r:Option D}(rx:RV K p H (.ref n) x)(h:s[n]?=some o)(rk:RV K p H k kv)(e:dget (unl o) k=some r) :
   ∃ a,x=.ref a/\((∃ d v,r=some d/\DGet H a kv (some v)/\RV K p H d v)\/(r=none/\DGet H a kv none)):=by
 simp only[RV]at rx;obtain⟨a,ha,rfl⟩:=rx;obtain⟨b,hb,hr⟩:=rs.at h;rw[ha]at hb;cases hb;refine⟨a,rfl,?_⟩
 have rdK:∀ kvs,unl o=.dK kvs->∃ ws,Rd H a (.dK ws)/\RKs K p H kvs ws:=λkvs q=>by
   cases o with
   | lck o' =>
     obtain⟨od,u,e1,_,c⟩:=hr;simp only[unl]at q;subst q;obtain⟨ws,rfl,c⟩:=c;exact⟨ws,.inr ⟨od,e1⟩,c⟩
   | dK _ =>
     simp only[unl]at q;cases q;obtain⟨u,e1,ws,rfl,c⟩:=hr;exact⟨ws,.inl e1,c⟩
   | _=>simp only[unl]at q;cases q
 have rdT:∀ kvs,unl o=.dT kvs->∃ ws,Rd H a (.dT ws)/\RKs K p H kvs ws:=λkvs q=>by
   cases o with
   | lck o' =>
     obtain⟨od,u,e1,_,c⟩:=hr;simp only[unl]at q;subst q;obtain⟨ws,rfl,c⟩:=c;exact⟨ws,.inr ⟨od,e1⟩,c⟩
   | dT _ =>
     simp only[unl]at q;cases q;obtain⟨u,e1,ws,rfl,c⟩:=hr;exact⟨ws,.inl e1,c⟩
   | _=>simp only[unl]at q;cases q
 unfold dget at e;split at e
 . rename_i kvs q;obtain⟨k',e1,rfl⟩:=tY.mp e;obtain⟨ws,h1,h2⟩:=rdK kvs q;have ek:=zfl e1 rk;subst ek;have g:=h2.get k'
   cases hg:kget kvs k' with
   | some d =>
     obtain⟨v,g1,g2⟩:=g.1 d hg;exact .inl ⟨d,v,rfl,.inl ⟨ws,k',h1,rfl,g1.symm⟩,g2⟩
   | none=>exact .inr ⟨rfl,.inl ⟨ws,k',h1,rfl,(g.2 hg).symm⟩⟩
 . rename_i kvs q;split at e
   . rename_i ds;obtain⟨k',e1,rfl⟩:=tY.mp e;obtain⟨ws,h1,h2⟩:=rdT kvs q;obtain⟨b,vs,rfl,hb,rb⟩:=xV rk;have ek:=zef e1 rb;subst ek;have g:=h2.get k'
     cases hg:kget kvs k' with
     | some d =>
      obtain⟨v,g1,g2⟩:=g.1 d hg;exact .inl ⟨d,v,rfl,.inr ⟨ws,k',b,h1,rfl,hb,g1.symm⟩,g2⟩
     | none=>exact .inr ⟨rfl,.inr ⟨ws,k',b,h1,rfl,hb,(g.2 hg).symm⟩⟩
   . cases e
 . cases e
end
section
variable{X:Cx}{cm:CM}
theorem s_oAdd:S2 X cm (binaryOp .Add) yq:=by
 refine⟨_,op_add.or (op_add_str.or (op_cat.or op_catA)),λW p s σ H x y dx dy Q rs rx ry q=>?_⟩;unfold yq at q;split at q
 . rename_i i j;exact .inl ⟨i,j,yo rx,yo ry,Po.ok q rs (xQ _)⟩
 . rename_i a b;split at q
   . rename_i h;exact .inr (.inl ⟨a,b,xq rx,xq ry,zbI h,Po.ok q rs (uN _)⟩)
   . exact q.elim
 . rename_i a b;split at q
   . rename_i h;obtain⟨c,vs,rfl,h1,r1⟩:=xV rx;obtain⟨d,ws,rfl,h2,r2⟩:=xV ry;refine .inr (.inr (.inr ⟨c,d,vs,ws,rfl,rfl,SqT.of h1,SqT.of h2,by rw[← r1.length,← r2.length];exact zbI h,λe=>?_,λ_ e=>?_,λ_ _ a ha=>?_⟩))
     . have e':a=[]:=pF.mp (by rw[r1.length,e];rfl);subst e';exact Po.ok q rs (zam h2 r2)
     . have e':b=[]:=pF.mp (by rw[r2.length,e];rfl);subst e';refine Po.ok q rs ?_;rw[sE];exact zam h1 r1
     . exact Po.newt q rs (r1.append r2) ha
   . exact q.elim
 . rename_i m n;split at q
   . rename_i a b h1 h2;split at q
     . rename_i h;obtain⟨c,vs,rfl,_,g1,r1⟩:=yu rs rx h1;obtain⟨d,ws,rfl,_,g2,r2⟩:=yu rs ry h2;exact .inr (.inr (.inl ⟨c,d,vs,ws,rfl,rfl,g1,g2,by rw[← r1.length,← r2.length];exact zbI h,λa ha=>Po.newl q rs (r1.append r2) ha⟩))
     . exact q.elim
   . exact q.elim
 . exact q.elim
theorem wR{K:pX}{W:WX}{f:S->D->D->Option D}{p s σ H Q}{dx dy:D}(q:Po K cm W (RV K) p σ H (zaA f dx dy s) Q):∃ d,f s dx dy=some d/\Po K cm W (RV K) p σ H (some (.ok d s)) Q:=by
 unfold zaA at q
 cases h:f s dx dy with
 | none=>rw[h]at q;exact q.elim
 | some d=>rw[h]at q;exact⟨d,rfl,q⟩
theorem s_oSub:S2 X cm (binaryOp .Sub) zlK:=by
 refine⟨_,op_sub,λW p s σ H x y dx dy Q rs rx ry q=>?_⟩;obtain⟨d,e,q⟩:=wR q;split at e
 . rename_i i j;cases e;exact⟨i,j,yo rx,yo ry,Po.ok q rs (xQ _)⟩
 . cases e
theorem s_oMul:S2 X cm (binaryOp .Mult) zcV:=by
 refine⟨_,op_mulW.or op_rep,λW p s σ H x y dx dy Q rs rx ry q=>?_⟩;unfold zcV at q;split at q
 . rename_i i j;split at q
   . rename_i h;refine .inl ⟨i,j,yo rx,yo ry,?_,Po.ok q rs (xQ _)⟩;show i.natAbs.log2+j.natAbs.log2<1000000;unfold bits at h;omega
   . exact q.elim
 . rename_i m k;split at q
   . rename_i a h1;split at q
     . rename_i h;obtain⟨c,vs,rfl,_,g1,r1⟩:=yu rs rx h1;simp only[rG,decide_eq_true_eq]at h;have hk:k.toNat=k.toNat:=rfl;refine .inr ⟨c,k,vs,rfl,yo ry,g1,?_,by have:=h.1.2;omega,by rw[← r1.length];exact zbI h.2,λb hb=>?_⟩
       . have:=h.1.1;omega
       . refine Po.newl q rs ?_ hb
         have:∀ n:Nat,RVs X.K p H (List.replicate n a).flatten (List.replicate n vs).flatten:=by
          intro n
          induction n with
          | zero=>simp[RVs]
          | succ n ih =>
           rw[qF,qF,List.flatten_cons,List.flatten_cons];exact r1.append ih
         exact this _
     . exact q.elim
   . exact q.elim
 . exact q.elim
theorem s_oMod:S2 X cm (binaryOp .Mod) oMod:=by
 refine⟨_,op_mod,λW p s σ H x y dx dy Q rs rx ry q=>?_⟩;obtain⟨d,e,q⟩:=wR q;split at e
 . rename_i i j;split at e
   . rename_i h;cases e;exact⟨i,j,yo rx,yo ry,h,Po.ok q rs (xQ _)⟩
   . cases e
 . cases e
theorem s_oDiv:S2 X cm (binaryOp .FloorDiv) oDiv:=by
 refine⟨_,op_fdivW,λW p s σ H x y dx dy Q rs rx ry q=>?_⟩;obtain⟨d,e,q⟩:=wR q;split at e
 . rename_i i j;split at e
   . rename_i h;cases e;simp only[rG,decide_eq_true_eq]at h;refine⟨i,j,yo rx,yo ry,⟨h.1,?_⟩,Po.ok q rs (xQ _)⟩;have:=h.2;unfold bits at this;omega
   . cases e
 . cases e
theorem zlR:OpR X (binaryOp .Pow) (rI (λi j=>0<=j/\(Builtin.Int.intBits i:Int)*j<=2 ^ 27) λi j=>.int (i ^ j.toNat)):=opI λ_ _ _ _ _ _ _ hc q=>pow_int hc.1 hc.2 q
theorem s_oPow:S2 X cm (binaryOp .Pow) zjt:=by
 refine⟨_,zlR,λW p s σ H x y dx dy Q rs rx ry q=>?_⟩;obtain⟨d,e,q⟩:=wR q;split at e
 . rename_i i j;split at e
   . rename_i h;cases e;simp only[rG,decide_eq_true_eq]at h;refine⟨i,j,yo rx,yo ry,⟨h.1,?_⟩,Po.ok q rs (xQ _)⟩;have h2:=h.2
     have hb:Builtin.Int.intBits i<=bits i+1:=by
      unfold Builtin.Int.intBits bits;split <;> omega
     have h3:Builtin.Int.intBits i*j.toNat<=100000:=sW (Nat.mul_le_mul_right _ hb) h2
     have h4:((Builtin.Int.intBits i*j.toNat:Nat):Int)=(Builtin.Int.intBits i:Int)*j:=by
      rw[Int.natCast_mul,Int.toNat_of_nonneg h.1]
     omega
   . cases e
 . cases e
theorem s_cmpI{op:CmpOp}{f:Int->Int->Bool}(h:OpR X (compareOp op) (rI0 λi j=>.bl (f i j))):S2 X cm (compareOp op) (zpl f):=by
 refine⟨_,h,λW p s σ H x y dx dy Q rs rx ry q=>?_⟩;obtain⟨d,e,q⟩:=wR q;split at e
 . rename_i i j;cases e;exact⟨i,j,yo rx,yo ry,Po.ok q rs (jO _)⟩
 . cases e
theorem s_oLt:S2 X cm (compareOp .Lt) oLt:=s_cmpI op_lt
theorem s_oLe:S2 X cm (compareOp .LtE) oLe:=s_cmpI op_le
theorem s_oGt:S2 X cm (compareOp .Gt) oGt:=s_cmpI op_gt
section
variable{K:pX}{cm:CM}{W:WX}{p:List Addr}{s:S}{σ:L2.St}{H:Hp}{X:Cx}{pins:List (Addr×Obj)}{s0:Shared}
theorem kh{n:Nat}{ds:List D}(h:yx s n=some ds):s[n]?=some (.lst ds):=by
 unfold yx at h;split at h
 . rename_i e;cases h;exact e
 . cases h
theorem zeR{f:D->D->Option Bool}:∀{ds es:List D},zgB f ds es=true->ds.length=es.length
 | [],[],_=>rfl
 | _::ds,_::es,h=>by
  simp only[zgB,rG]at h;simp[zeR h.2]
 | [],_::_,h=>by simp[zgB]at h
 | _::_,[],h=>by simp[zgB]at h
theorem zbK{n:Nat}:(List.range n).all (λ_=>true)=true:=by simp
theorem jh{n:Nat}{x:V}{v:Value}{ds:List D}(I:Inv X pins σ H s0)(rs:RS X.K cm p s H)(r:RV X.K p H (.ref n) x)(rx:RelV x v)(h:s[n]?=some (.lst ds)) :
  ∃ a vs us,v=.ref a/\RVs X.K p H ds vs/\Vals vs us/\s0.heap.IsList a us.toArray:=by
 obtain⟨a,vs,rfl,_,hH,rr⟩:=yu rs r h;obtain⟨us,r2,pl,_⟩:=I.list (SqL.of hH);cases (show v=Value.ref a from rx);exact⟨a,vs,us,rfl,rr,r2,pl.isList⟩
theorem zco{x:V}{v:Value}{ds:List D}(I:Inv X pins σ H s0)(r:RV X.K p H (.tup ds) x)(rx:RelV x v) :
  ∃ a vs us,v=.ref a/\RVs X.K p H ds vs/\Vals vs us/\s0.heap.IsTuple a us.toArray:=by
 obtain⟨a,vs,rfl,hH,rr⟩:=xV r;obtain⟨us,r2,⟨o,e,c,n,d⟩,_⟩:=I.tuple (SqT.of hH);cases (show v=Value.ref a from rx);exact⟨a,vs,us,rfl,rr,r2,⟨o,e,c,n,d⟩⟩
theorem jZ{A:Around}{f:D->D->Option Bool}(hf:∀(a b:D) {x y:V}{v u:Value},RV X.K p H a x->RV X.K p H b y->RelV x v->RelV y u->f a b=some true->SeqAt.EqAt A s0 v u true) :
  ∀(ds es:List D) {vs ws:List V}{us ts:List Value},RVs X.K p H ds vs->RVs X.K p H es ws->Vals vs us->Vals ws ts->zgB f ds es=true->∀ j (h1:j<us.length) (h2:j<ts.length),SeqAt.EqAt A s0 us[j] ts[j] true
 | [],_,vs,ws,us,ts,w1,_,w2,_,_,j,h1,_=>by
  simp only[RVs]at w1;subst w1;cases w2;simp at h1
 | _::_,[],vs,ws,us,ts,w1,z1,w2,z2,ht,j,_,_=>by simp[zgB]at ht
 | d::ds,e::es,vs,ws,us,ts,w1,z1,w2,z2,ht,j,h1,h2=>by
  simp only[zgB,rG,beq_iff_eq]at ht;simp only[RVs]at w1 z1;obtain⟨v,r,rfl,w3,w4⟩:=w1;obtain⟨v',r',rfl,z3,z4⟩:=z1
  cases w2 with
  | cons w5 w6 =>
  cases z2 with
  | cons z5 z6 =>
  cases j with
  | zero=>exact hf d e w3 z3 w5 z5 ht.1
  | succ j=>exact jZ hf ds es w4 z4 w6 z6 ht.2 j (Nat.lt_of_succ_lt_succ h1) (Nat.lt_of_succ_lt_succ h2)
theorem zgW(I:Inv X pins σ H s0)(rs:RS X.K cm p s H):∀(n:Nat) (A:Around) (a b:D) {x y:V}{v u:Value}{k:Bool},RV X.K p H a x->RV X.K p H b y->RelV x v->RelV y u->eqZ s n a b=some k->A.units+n+64<cLine->SeqAt.EqAt A s0 v u k
 | 0,A,a,b,x,y,v,u,k,r1,r2,q1,q2,e,hu=>by simp[eqZ]at e
 | n+1,A,a,b,x,y,v,u,k,r1,r2,q1,q2,e,hu=>by
  unfold eqZ at e;split at e
  . rename_i d d' e1 e2;split at e
    . rename_i h;simp only[rG]at h;cases e;obtain⟨as,w1⟩:=Dp.reads I d x v (zaS rs 60 a r1 e1) q1;obtain⟨bs,w2⟩:=Dp.reads I d' y u (zaS rs 60 b r2 e2) q2;exact SeqAt.eqAt_reads d d' A s0 v u as bs w1 w2 (SeqAt.canLay_of_shaped h.1) (SeqAt.canLay_of_shaped h.2) (SeqAt.room_of_shaped h.1 (by omega))
    . cases e
  . split at e
    . rename_i i j;split at e
      . rename_i hij;subst hij;cases e;simp only[RV]at r1 r2;obtain⟨t,h1,rfl⟩:=r1;obtain⟨t',h2,rfl⟩:=r2;rw[h1]at h2;cases h2;cases (show v=Value.ref t from q1);cases (show u=Value.ref t from q2);exact SeqAt.EqAt.same _
      . rename_i hij;split at e
        . rename_i ds es l1 l2;obtain⟨a1,vs,us,rfl,w1,w2,w3⟩:=jh I rs r1 q1 (kh l1);obtain⟨a2,vs',us',rfl,z1,z2,z3⟩:=jh I rs r2 q2 (kh l2)
          have n1:us.length=ds.length:=by rw[← w2.length,w1.length]
          have n2:us'.length=es.length:=by rw[← z2.length,z1.length]
          split at e
          . rename_i hl;split at e
            . rename_i ht;cases e;by_cases hne:a1=a2
              . subst hne;exact SeqAt.EqAt.same _
              . have:=SeqAt.RcAt.lists (e:=λ_=>true) w3 z3 (by simp;omega) (by omega) λj j1 j2=>jZ (λa b x y v u r1 r2 q1 q2 e=>zgW I rs n A.in1 a b r1 r2 q1 q2 e (by show A.units+1+n+64<cLine;omega)) ds es w1 z1 w2 z2 ht j (by simpa using j1) (by simpa using j2);rw[zbK]at this;exact SeqAt.EqAt.of_refs hne this
            . cases e
          . rename_i hl;cases e
            have hne:a1≠a2:=λz=>by
              subst z;obtain⟨o,g1,_,m1,g2⟩:=w3;obtain⟨o',g1',_,m1',g2'⟩:=z3;rw[g1]at g1';cases g1';rw[g2]at g2'
              have:us.toArray.size=us'.toArray.size:=by injection g2' with z;rw[z]
              simp at this;omega
            exact SeqAt.EqAt.of_refs hne (SeqAt.RcAt.lists_lengths w3 z3 (by simp;omega) (by omega))
        . cases e
    . rename_i ds es _;split at e
      . rename_i ht;cases e;obtain⟨a1,vs,us,rfl,w1,w2,w3⟩:=zco I r1 q1;obtain⟨a2,vs',us',rfl,z1,z2,z3⟩:=zco I r2 q2
        have n1:us.length=ds.length:=by rw[← w2.length,w1.length]
        have n2:us'.length=es.length:=by rw[← z2.length,z1.length]
        have hl:=zeR ht;by_cases hne:a1=a2
        . subst hne;exact SeqAt.EqAt.same _
        . have:=SeqAt.RcAt.tuples (e:=λ_=>true) w3 z3 (by omega) λj j1 j2=>jZ (λa b x y v u r1 r2 q1 q2 e=>zgW I rs n A.in1 a b r1 r2 q1 q2 e (by show A.units+1+n+64<cLine;omega)) ds es w1 z1 w2 z2 ht j (by simpa using j1) (by simpa using j2);rw[zbK,show(us.toArray.size == us'.toArray.size)=true by simp;omega]at this;exact SeqAt.EqAt.of_refs hne this
      . cases e
    . cases e
theorem zkj{A:Around}{ne:Bool}(I:Inv X pins σ H s0)(rs:RS X.K cm p s H){a b:D}{x y:V}{v u:Value}{k:Bool}(r1:RV X.K p H a x)(r2:RV X.K p H b y)(q1:RelV x v)(q2:RelV y u)(e:eqT s a b=some k)(hu:A.units+80<cLine) :
   SeqAt.RcAt A s0 v u k/\SeqAt.RcNeAt A s0 v u (!k):=by
 unfold eqT at e;split at e
 . split at e
   . rename_i ds es l1 l2;obtain⟨a1,vs,us,rfl,w1,w2,w3⟩:=jh I rs r1 q1 (kh l1);obtain⟨a2,vs',us',rfl,z1,z2,z3⟩:=jh I rs r2 q2 (kh l2)
     have n1:us.length=ds.length:=by rw[← w2.length,w1.length]
     have n2:us'.length=es.length:=by rw[← z2.length,z1.length]
     split at e
     . rename_i hl;split at e
       . rename_i ht;cases e;have he:∀ j (j1:j<us.toArray.size) (j2:j<us'.toArray.size),SeqAt.EqAt A.in1 s0 us.toArray[j] us'.toArray[j] ((λ_=>true) j):=λj j1 j2=>jZ (λa b x y v u r1 r2 q1 q2 e=>zgW I rs 8 A.in1 a b r1 r2 q1 q2 e (by show A.units+1+8+64<cLine;omega)) ds es w1 z1 w2 z2 ht j (by simpa using j1) (by simpa using j2);have h1:=SeqAt.RcAt.lists (e:=λ_=>true) w3 z3 (by simp;omega) (by omega) he;have h2:=SeqAt.RcNeAt.lists (e:=λ_=>true) w3 z3 (by simp;omega) (by omega) he;rw[zbK]at h1 h2;exact⟨h1,h2⟩
       . cases e
     . rename_i hl;cases e;exact⟨SeqAt.RcAt.lists_lengths w3 z3 (by simp;omega) (by omega),SeqAt.RcNeAt.lists_lengths w3 z3 (by simp;omega) (by omega)⟩
   . cases e
 . cases e
def rZ(K:pX)(cm:CM)(g:Bool->Bool):R2:=λx y H Q=>∃ p s dx dy b,RS K cm p s H/\RV K p H dx x/\RV K p H dy y/\eqT s dx dy=some b/\Q (.bl (g b)) H
theorem znK{k:Nat}(hr:Room k X.A):OpR X (compareOp .Eq) (rZ X.K cm id):=by
 intro pins s0 σ H x y v u Q I rx ry h;obtain⟨p,s,dx,dy,b,rs,r1,r2,e,q⟩:=h;exact(zkj (ne:=true) I rs r1 r2 rx ry e (by have:=hr.un;omega)).1 X.prog X.w _ _ ⟨.bl b,H,I,rfl,q⟩
theorem znL{k:Nat}(hr:Room k X.A):OpR X (compareOp .NotEq) (rZ X.K cm not):=by
 intro pins s0 σ H x y v u Q I rx ry h;obtain⟨p,s,dx,dy,b,rs,r1,r2,e,q⟩:=h;exact(zkj (ne:=true) I rs r1 r2 rx ry e (by have:=hr.un;omega)).2 X.prog X.w _ _ ⟨.bl (!b),H,I,rfl,q⟩
end
theorem zki{K:pX}{p:List Addr}{s:S}{H:Hp}{dx dy:D}{x y:V}{b:Bool}(rs:RS K cm p s H)(rx:RV K p H dx x)(ry:RV K p H dy y)(e:eqD s dx dy=some b) :
   (∃ d d',Dp K H x d/\Dp K H y d'/\SeqAt.shaped d=true/\SeqAt.shaped d'=true/\PyData.eqv d d'=b)\/eqT s dx dy=some b:=by
 unfold eqD at e;split at e
 . rename_i d d' e1 e2;split at e
   . rename_i h;simp only[rG]at h;cases e;exact .inl ⟨d,d',zaS rs 60 dx rx e1,zaS rs 60 dy ry e2,h.1,h.2,rfl⟩
   . cases e
 . exact .inr e
theorem s_oEq{k:Nat}(hr:Room k X.A):S2 X cm (compareOp .Eq) oEq:=by
 refine⟨λx y H Q=>rEqD X.K x y H Q\/rZ X.K cm id x y H Q,λpins s σ H x y v u Q I rx ry h=>h.elim (λh=>op_eqD hr.units pins s σ H x y v u Q I rx ry h) λh=>znK hr pins s σ H x y v u Q I rx ry h,λW p s σ H x y dx dy Q rs rx ry q=>?_⟩;obtain⟨d,e,q⟩:=wR q;obtain⟨b,e1,rfl⟩:=tY.mp e;have q':=Po.ok q rs (jO _)
 rcases zki rs rx ry e1 with ⟨d,d',h1,h2,h3,h4,h5⟩ | h
 . exact .inl ⟨d,d',h1,h2,h3,h4,by rw[h5];exact q'⟩
 . exact .inr ⟨p,s,dx,dy,b,rs,rx,ry,h,q'⟩
theorem s_oNe{k:Nat}(hr:Room k X.A):S2 X cm (compareOp .NotEq) oNe:=by
 refine⟨λx y H Q=>rNeD X.K x y H Q\/rZ X.K cm not x y H Q,λpins s σ H x y v u Q I rx ry h=>h.elim (λh=>op_neD hr.units pins s σ H x y v u Q I rx ry h) λh=>znL hr pins s σ H x y v u Q I rx ry h,λW p s σ H x y dx dy Q rs rx ry q=>?_⟩;obtain⟨d,e,q⟩:=wR q;obtain⟨b,e1,rfl⟩:=tY.mp e;have q':=Po.ok q rs (jO _)
 rcases zki rs rx ry e1 with ⟨d,d',h1,h2,h3,h4,h5⟩ | h
 . exact .inl ⟨d,d',h1,h2,h3,h4,by rw[h5];exact q'⟩
 . exact .inr ⟨p,s,dx,dy,b,rs,rx,ry,h,q'⟩
theorem zha{K:pX}{p:List Addr}{H:Hp}{d:D}{v:V}(h:flat d=true)(r:RV K p H d v):v=vOf d/\flatV v=true:=by
 cases d <;> simp only[flat]at h <;> first | (cases h;done) | skip
 . rw[zbE r];exact⟨rfl,rfl⟩
 . rw[jW r];exact⟨rfl,rfl⟩
 . rw[yo r];exact⟨rfl,rfl⟩
 . rw[xq r];exact⟨rfl,rfl⟩
theorem zfc{K:pX}{p:List Addr}{H:Hp}:∀{ds:List D}{vs:List V},ds.all flat=true->RVs K p H ds vs->vs=ds.map vOf/\vs.all flatV=true
 | [],vs,_,r=>by simp only[RVs]at r;subst r;exact⟨rfl,rfl⟩
 | d::ds,vs,h,r=>by
  simp only[RVs]at r;obtain⟨v,r',rfl,r1,r2⟩:=r;simp only[List.all_cons,rG]at h;obtain⟨e1,f1⟩:=zha h.1 r1;obtain⟨e2,f2⟩:=zfc h.2 r2;exact⟨by rw[e1,e2];rfl,by simp[f1,f2]⟩
def zqs:R2:=λx y H Q=>∃ a o,y=.ref a/\DGet H a x o/\Q (.bl o.isSome) H
def zjA:R2:=λx y H Q=>∃ a o,y=.ref a/\DGet H a x o/\Q (.bl (!o.isSome)) H
theorem zlO(hu:X.A.units+1<cLine):OpR X (compareOp .In) zqs:=by
 intro pins s σ H x y v u Q I rx ry h;obtain⟨a,o,rfl,g,q⟩:=h;cases (show u=Value.ref a from ry)
 exact d_in hu I g rx λs' I'=>⟨.bl _,H,I',rfl,q⟩
theorem zgj(hu:X.A.units+1<cLine):OpR X (compareOp .NotIn) zjA:=by
 intro pins s σ H x y v u Q I rx ry h;obtain⟨a,o,rfl,g,q⟩:=h;cases (show u=Value.ref a from ry)
 exact d_notIn hu I g rx λs' I'=>⟨.bl _,H,I',rfl,q⟩
theorem ziG{k:Nat}{A:Around}(hr:Room k A):A.units+65<cLine:=by have:=hr.un;omega
theorem zho{K:pX}{p:List Addr}{s:S}{H:Hp}{dx dy:D}{x y:V}{b:Bool}(rs:RS K cm p s H)(rx:RV K p H dx x)(ry:RV K p H dy y)(e:isIn s dx dy=some b) :
   (∃ i j,x=.str i/\y=.str j/\b=!(Builtin.Str.occurrences j i 0 j.length 1).isEmpty) \/
   (∃ a xs,y=.ref a/\(SqL K H a xs\/SqT K H a xs)/\flatV x=true/\xs.all flatV=true/\b=inV x xs) \/
   (∃ d ds,Dp K H x d/\Dp K H y (.list ds)/\SeqAt.shaped d=true/\SeqAt.shaped (.list ds)=true/\b=ds.any λz=>PyData.eqv z d) \/
   (∃ a o,y=.ref a/\DGet H a x o/\b=o.isSome):=by
 unfold isIn at e;split at e
 . rename_i j;split at e
   . rename_i i;cases e;exact .inl ⟨i,j,xq rx,xq ry,rfl⟩
   . cases e
 . rename_i ds;split at e
   . rename_i h;simp only[rG]at h;cases e;obtain⟨a,vs,rfl,h1,r1⟩:=xV ry;obtain⟨e1,f1⟩:=zha h.1 rx;obtain⟨e2,f2⟩:=zfc h.2 r1;refine .inr (.inl ⟨a,vs,rfl,.inr (SqT.of h1),f1,f2,?_⟩);rw[e2,e1];unfold inV;rw[List.any_map];rfl
   . cases e
 . rename_i n;split at e
   . rename_i ds h;split at e
     . rename_i d es e1 e2;split at e
       . rename_i h';simp only[rG]at h';cases e;obtain⟨a,vs,rfl,_,g,r⟩:=yu rs ry h;exact .inr (.inr (.inl ⟨d,es,zaS rs 60 dx rx e1,.lst (SqL.of g) (zaT rs 60 ds r e2),h'.1,h'.2,rfl⟩))
       . cases e
     . cases e
   . rename_i o h1 h2;obtain⟨r,e1,rfl⟩:=tY.mp e;obtain⟨a,rfl,h⟩:=zdY rs ry h2 rx e1
     rcases h with ⟨d,v,rfl,g,_⟩ | ⟨rfl,g⟩
     . exact .inr (.inr (.inr ⟨a,_,rfl,g,rfl⟩))
     . exact .inr (.inr (.inr ⟨a,_,rfl,g,rfl⟩))
   . cases e
 . cases e
theorem s_oIn{k:Nat}(hr:Room k X.A):S2 X cm (compareOp .In) oIn:=by
 refine⟨_,op_in_str.or (op_in_seq.or ((op_inD (ziG hr)).or (zlO (hu_of hr)))),λW p s σ H x y dx dy Q rs rx ry q=>?_⟩;obtain⟨d,e,q⟩:=wR q;obtain⟨b,e1,rfl⟩:=tY.mp e;have q':=Po.ok q rs (jO _)
 rcases zho rs rx ry e1 with ⟨i,j,h1,h2,h3⟩ | ⟨a,xs,h1,h2,h3,h4,h5⟩ | ⟨d,ds,h1,h2,h3,h4,h5⟩ | ⟨a,o,h1,h2,h3⟩
 . exact .inl ⟨i,j,h1,h2,h3 ▸ q'⟩
 . refine .inr (.inl ⟨a,xs,h1,h2,h3,h4,?_⟩);rw[h5]at q';exact q'
 . exact .inr (.inr (.inl ⟨d,ds,h1,h2,h3,h4,h5 ▸ q'⟩))
 . exact .inr (.inr (.inr ⟨a,o,h1,h2,h3 ▸ q'⟩))
theorem s_oNotIn{k:Nat}(hr:Room k X.A):S2 X cm (compareOp .NotIn) yU:=by
 refine⟨_,L2.op_notin_str.or (op_notIn_seq.or ((op_notInD (ziG hr)).or (zgj (hu_of hr)))),λW p s σ H x y dx dy Q rs rx ry q=>?_⟩;obtain⟨d,e,q⟩:=wR q;obtain⟨b,e1,rfl⟩:=tY.mp e;have q':=Po.ok q rs (jO _)
 rcases zho rs rx ry e1 with ⟨i,j,h1,h2,h3⟩ | ⟨a,xs,h1,h2,h3,h4,h5⟩ | ⟨d,ds,h1,h2,h3,h4,h5⟩ | ⟨a,o,h1,h2,h3⟩
 . exact .inl ⟨i,j,h1,h2,h3 ▸ q'⟩
 . refine .inr (.inl ⟨a,xs,h1,h2,h3,h4,?_⟩);rw[h5]at q';exact q'
 . exact .inr (.inr (.inl ⟨d,ds,h1,h2,h3,h4,h5 ▸ q'⟩))
 . exact .inr (.inr (.inr ⟨a,o,h1,h2,h3 ▸ q'⟩))
end
section
variable{K:pX}{cm:CM}{p:List Addr}{s:S}{H:Hp}
theorem wQ{a b:Type}{x:List a}{y:List b}(h:x.length=y.length):(!x.isEmpty)=!y.isEmpty:=by
 cases x <;> cases y <;> simp_all
theorem zcS{d:D}{x:V}{k:Bool}(rs:RS K cm p s H)(r:RV K p H d x)(e:truth s d=some k):TruV K x H k:=by
 unfold truth at e;split at e
 . cases e;rw[zbE r];exact rfl
 . cases e;rw[jW r];exact rfl
 . cases e;rw[yo r];exact rfl
 . split at e
   . rename_i h;cases e;rw[xq r];exact⟨zbI h,rfl⟩
   . cases e
 . cases e;obtain⟨a,vs,rfl,h1,r1⟩:=xV r;exact .inr (.inl ⟨vs,SqT.of h1,wQ r1.length⟩)
 . cases e;simp only[RV]at r;obtain⟨a,vs,rfl,h1,r1⟩:=r;exact .inl ⟨vs,h1.1,wQ r1.length⟩
 . cases e;simp only[RV]at r;obtain⟨a,vs,rfl,h1,r1⟩:=r;exact .inr (.inl ⟨vs,h1.sq,wQ r1.length⟩)
 . rename_i n;split at e
   . rename_i ds h;cases e;obtain⟨a,vs,rfl,_,h1,r1⟩:=yu rs r h;exact .inl ⟨vs,SqL.of h1,wQ r1.length⟩
   . rename_i kvs h;cases e;simp only[RV]at r;obtain⟨a,ha,rfl⟩:=r;obtain⟨b,hb,u,h1,ws,rfl,r1⟩:=rs.at h;rw[ha]at hb;cases hb;exact .inr (.inr ⟨ws,h1,wQ r1.length⟩)
   . cases e
end
section
variable{X:Cx}{cm:CM}{W:WX}{a b c:Expr}{fa fb fc:E}{ft fu:T}{pos:Pos}{rest:List Expr}
theorem zbC{op}(h:JE X cm W a fa):JE X cm W (.BoolOp op [a] pos) fa:=pe_one h
theorem zpq(ha:JE X cm W a fa)(hb:JE X cm W (.BoolOp .Or (b::rest) pos) fb):JE X cm W (.BoolOp .Or (a::b::rest) pos) (eOr fa fb):=by
 refine(pe_orT ha hb).imp λσ H Q q=>?_;obtain⟨p,e,s,re,rs,q⟩:=q;refine⟨p,e,s,re,rs,(Po.bnd (rel1:=RV X.K) q).imp ?_⟩;rintro x H1 ⟨d,p1,s1,f,rs1,r1,q⟩
 cases h:truth s1 d with
 | none=>simp only[h]at q;exact q.elim
 | some c =>
  simp only[h]at q;refine⟨c,zcS rs1 r1 h,?_⟩
  cases c with
  | true=>exact iteT (Po.ok q rs1 r1)
  | false=>exact iteF ⟨p1,e,s1,re.mono f,rs1,q⟩
theorem zbA(ha:JE X cm W a fa)(hb:JE X cm W (.BoolOp .And (b::rest) pos) fb):JE X cm W (.BoolOp .And (a::b::rest) pos) (uH fa fb):=by
 refine(pe_andT ha hb).imp λσ H Q q=>?_;obtain⟨p,e,s,re,rs,q⟩:=q;refine⟨p,e,s,re,rs,(Po.bnd (rel1:=RV X.K) q).imp ?_⟩;rintro x H1 ⟨d,p1,s1,f,rs1,r1,q⟩
 cases h:truth s1 d with
 | none=>simp only[h]at q;exact q.elim
 | some c =>
  simp only[h]at q;refine⟨c,zcS rs1 r1 h,?_⟩
  cases c with
  | true=>exact iteT ⟨p1,e,s1,re.mono f,rs1,q⟩
  | false=>exact iteF (Po.ok q rs1 r1)
theorem zkM{f:E}{σ:L2.St}{H:Hp}{Q:Bool->Hp->Prop}(q:tT X.K cm W (tE f) σ H Q):tD X.K cm W f σ H λx H1=>∃ k,TruV X.K x H1 k/\Q k H1:=by
 obtain⟨p,e,s,re,rs,q⟩:=q;refine⟨p,e,s,re,rs,(Po.bnd (rel1:=RV X.K) q).imp ?_⟩;rintro x H1 ⟨d,p1,s1,f,rs1,r1,q⟩
 cases h:truth s1 d with
 | none=>simp only[h]at q;exact q.elim
 | some c =>
  simp only[h]at q;exact⟨c,zcS rs1 r1 h,Po.ok q rs1 rfl⟩
theorem zii(ha:JE X cm W a fa):JE X cm W (.UnaryOp .Not a pos) (zax (tE fa)):=by
 refine(pe_notT ha).imp λσ H Q q=>?_;obtain⟨p,e,s,re,rs,q⟩:=q;refine zkM (Q:=λk H1=>Q (.bl (!k)) H1) ⟨p,e,s,re,rs,(Po.bnd (rel1:=rB) q).imp ?_⟩;rintro x H1 ⟨d,p1,s1,f,rs1,r1,q⟩;obtain rfl:d=x:=r1;exact Po.ok q rs1 (jO _)
theorem znS(ht:JT X cm W c ft)(ha:JE X cm W a fa)(hb:JE X cm W b fb):JE X cm W (.IfExp c a b pos) (eIf ft fa fb):=by
 refine(pe_ifExp ht ha hb).imp λσ H Q q=>?_;obtain⟨p,e,s,re,rs,q⟩:=q;refine⟨p,e,s,re,rs,(Po.bnd (rel1:=rB) q).imp ?_⟩;rintro x H1 ⟨d,p1,s1,f,rs1,r1,q⟩;obtain rfl:d=x:=r1
 cases d with
 | true=>exact iteT ⟨p1,e,s1,re.mono f,rs1,q⟩
 | false=>exact iteF ⟨p1,e,s1,re.mono f,rs1,q⟩
theorem yI(ha:JE X cm W a fa)(he:∀ whole,isTrue a X.env whole=(do let v ← whole;standAt a.pos;holding [v] (truthy v)):=by intro _;rfl):JT X cm W a (tE fa):=by
 exact(pt_truth ha he).imp λσ H Q q=>zkM q
theorem xK(ht:JT X cm W a ft):JT X cm W (.UnaryOp .Not a pos) (tNot ft):=by
 refine(pt_not ht).imp λσ H Q q=>?_;obtain⟨p,e,s,re,rs,q⟩:=q;refine⟨p,e,s,re,rs,(Po.bnd (rel1:=rB) q).imp ?_⟩;rintro x H1 ⟨d,p1,s1,f,rs1,r1,q⟩;obtain rfl:d=x:=r1;exact Po.ok q rs1 rfl
theorem zcf(h:JW X cm W a ft):JT X cm W a ft:=PW.pt h
theorem wH(h:JT X cm W a ft):JW X cm W (.BoolOp .Or [a] pos) ft:=pw_or1 h
theorem zcG(h:JT X cm W a ft):JW X cm W (.BoolOp .And [a] pos) ft:=pw_and1 h
theorem wz(ha:JT X cm W a ft)(hb:JW X cm W (.BoolOp .Or (b::rest) pos) fu):JW X cm W (.BoolOp .Or (a::b::rest) pos) (tOr ft fu):=by
 refine(pw_or ha hb).imp λσ H Q q=>?_;obtain⟨p,e,s,re,rs,q⟩:=q;refine⟨p,e,s,re,rs,(Po.bnd (rel1:=rB) q).imp ?_⟩;rintro x H1 ⟨d,p1,s1,f,rs1,r1,q⟩;obtain rfl:d=x:=r1
 cases d with
 | true=>exact iteT (Po.ok q rs1 rfl)
 | false=>exact iteF ⟨p1,e,s1,re.mono f,rs1,q⟩
theorem zcg(ha:JT X cm W a ft)(hb:JW X cm W (.BoolOp .And (b::rest) pos) fu):JW X cm W (.BoolOp .And (a::b::rest) pos) (tAnd ft fu):=by
 refine(pw_and ha hb).imp λσ H Q q=>?_;obtain⟨p,e,s,re,rs,q⟩:=q;refine⟨p,e,s,re,rs,(Po.bnd (rel1:=rB) q).imp ?_⟩;rintro x H1 ⟨d,p1,s1,f,rs1,r1,q⟩;obtain rfl:d=x:=r1
 cases d with
 | true=>exact iteT ⟨p1,e,s1,re.mono f,rs1,q⟩
 | false=>exact iteF (Po.ok q rs1 rfl)
theorem zfN{f:E}{σ:L2.St}{H:Hp}{Q:Bool->Hp->Prop}(q:tT X.K cm W (tB f) σ H Q):tD X.K cm W f σ H λx H1=>∃ k,x=.bl k/\Q k H1:=by
 obtain⟨p,e,s,re,rs,q⟩:=q;refine⟨p,e,s,re,rs,(Po.bnd (rel1:=RV X.K) q).imp ?_⟩;rintro x H1 ⟨d,p1,s1,f,rs1,r1,q⟩;split at q
 . exact⟨_,jW r1,Po.ok q rs1 rfl⟩
 . exact q.elim
theorem zV{op:CmpOp}{f:D->D->M D}(ho:S2 X cm (compareOp op) f)(ha:JE X cm W a fa)(hb:JE X cm W b fb)(hm:behindInMarks op b=false:=by first | exact nomark _ | rfl):JT X cm W (.Compare a [op] [b] pos) (tB (e2 f fa fb)):=by
 obtain⟨r,h1,h2⟩:=ho;refine(pt_cmpR h1 ha hb hm).imp λσ H Q q=>?_;refine(?_:tOp r _ _ σ H _);obtain⟨p,e,s,re,rs,q⟩:=tD.two (zfN q);refine⟨p,e,s,re,rs,q.imp ?_⟩;rintro x H1 ⟨p,e,s,re,rs,q⟩;refine⟨p,e,s,re,rs,q.imp ?_⟩;rintro y H2 ⟨p,e,s,d1,d2,re,rs,r1,r2,q⟩;exact h2 W p s σ H2 x y d1 d2 _ rs r1 r2 q
theorem zij{j:Nat}{pos':Pos}{y:Expr}(ha:JE X cm W a fa)(hy:y=.Constant .none j pos':=by rfl):JT X cm W (.Compare a [.Is] [y] pos) (tB (e1 zhR fa)):=by
 subst hy;refine(pt_cmp (pc_isN ha) rfl).imp λσ H Q q=>?_;obtain⟨p,e,s,re,rs,q⟩:=tD.bnd (zfN q);refine⟨p,e,s,re,rs,q.imp ?_⟩;rintro x H1 ⟨p,e,s,d,re,rs,r1,q⟩;refine Po.ok q rs ?_
 cases d <;> simp only[RV]at r1 ⊢ <;> first | (subst r1;rfl) | (obtain⟨_,_,rfl,_⟩:=r1;rfl) | (obtain⟨_,_,rfl⟩:=r1;rfl)
theorem zeT{r r':R2}{f g:D->D->M D}(h2:∀(W:WX) p s σ H x y dx dy Q,RS X.K cm p s H->RV X.K p H dx x->RV X.K p H dy y->Po X.K cm W (RV X.K) p σ H (f dx dy s) Q->r x y H Q)
   (h2':∀(W:WX) p s σ H x y dx dy Q,RS X.K cm p s H->RV X.K p H dx x->RV X.K p H dy y->Po X.K cm W (RV X.K) p σ H (g dx dy s) Q->r' x y H Q)
   {σ:L2.St}{H:Hp}{Q:VK} (q:tD X.K cm W (wN f g fa fb fc) σ H Q):tD X.K cm W fa σ H λx H1=>tD X.K cm W fb σ H1 λy H2=>r x y H2 λz H3=>∃ k,z=.bl k/\if k=true then tD X.K cm W fc σ H3 λw H4=>r' y w H4 Q else Q (.bl false) H3:=by
 obtain⟨p,e,s,re,rs,q⟩:=q;refine⟨p,e,s,re,rs,(Po.bnd (rel1:=RV X.K) q).imp ?_⟩;rintro x H1 ⟨d,p1,s1,f1,rs1,r1,q⟩;refine⟨p1,e,s1,re.mono f1,rs1,(Po.bnd (rel1:=RV X.K) q).imp ?_⟩;rintro y H2 ⟨d',p2,s2,f2,rs2,r2,q⟩;refine h2 W p2 s2 σ H2 x y d d' _ rs2 (r1.mono f2) r2 ((Po.bnd (rel1:=RV X.K) q).imp ?_);rintro z H3 ⟨d3,p3,s3,f3,rs3,r3,q⟩;split at q
 . refine⟨true,jW r3,iteT ⟨p3,e,s3,((re.mono f1).mono f2).mono f3,rs3,(Po.bnd (rel1:=RV X.K) q).imp ?_⟩⟩;rintro w H4 ⟨d4,p4,s4,f4,rs4,r4,q⟩;exact h2' W p4 s4 σ H4 y w d' d4 Q rs4 ((r2.mono f3).mono f4) r4 q
 . exact⟨false,jW r3,iteF (Po.ok q rs3 (jO _))⟩
 . exact q.elim
theorem zer{op op':CmpOp}{f g:D->D->M D}(ho:S2 X cm (compareOp op) f)(ho':S2 X cm (compareOp op') g)(ha:JE X cm W a fa)(hb:JE X cm W b fb)(hc:JE X cm W c fc)
  (hm:lastMarks [op,op'] [b,c]=false:=by rfl):JE X cm W (.Compare a [op,op'] [b,c] pos) (wN f g fa fb fc):=by
 obtain⟨r,g1,g2⟩:=ho;obtain⟨r',g1',g2'⟩:=ho';exact(pe_chain g1 g1' ha hb hc hm).imp λσ H Q q=>zeT g2 g2' q
theorem zfz{op op':CmpOp}{f g:D->D->M D}(ho:S2 X cm (compareOp op) f)(ho':S2 X cm (compareOp op') g)(ha:JE X cm W a fa)(hb:JE X cm W b fb)(hc:JE X cm W c fc)
  (hm:lastMarks [op,op'] [b,c]=false:=by rfl):JT X cm W (.Compare a [op,op'] [b,c] pos) (tB (wN f g fa fb fc)):=by
 obtain⟨r,g1,g2⟩:=ho;obtain⟨r',g1',g2'⟩:=ho';exact(pt_chain g1 g1' ha hb hc hm).imp λσ H Q q=>zeT g2 g2' (zfN q)
end
section
variable{X:Cx}{cm:CM}{W:WX}{a b:Expr}{es:List Expr}{fa fb:E}{fl:EL}{pos:Pos}
theorem zu:JA X cm W [] zj:=by
 refine pa_nil.imp λσ H Q q=>?_;obtain⟨p,e,s,re,rs,q⟩:=q;exact Po.ok q rs (by simp[RVs])
theorem zm(ha:JE X cm W a fa)(hr:JA X cm W es fl)(hs:starEach (a::es) X.env=(false,eval a X.env)::starEach es X.env:=by rfl):JA X cm W (a::es) (za fa fl):=by
 refine(pa_cons ha hr hs).imp λσ H Q q=>?_;obtain⟨p,e,s,re,rs,q⟩:=q;refine⟨p,e,s,re,rs,(Po.bnd (rel1:=RV X.K) q).imp ?_⟩;rintro x H1 ⟨d,p1,s1,f1,rs1,r1,q⟩;refine⟨p1,e,s1,re.mono f1,rs1,(Po.bnd (rel1:=RVs X.K) q).imp ?_⟩;rintro xs H2 ⟨ds,p2,s2,f2,rs2,r2,q⟩;refine Po.ok q rs2 ?_;simp only[RVs];exact⟨x,xs,rfl,r1.mono f2,r2⟩
theorem xg{k:Nat}(h:JA X cm W es fl):JE X cm W (.Tuple es k pos) (eN ye fl):=by
 refine(pe_tup h).imp λσ H Q q=>?_;obtain⟨p,e,s,re,rs,q⟩:=tD.args q;refine⟨p,e,s,re,rs,q.imp ?_⟩;rintro xs H1 ⟨p,e,s,ds,re,rs,r1,q⟩;unfold ye at q;split at q
 . rename_i h;exact⟨by rw[← r1.length];exact zbI h,λt ht=>Po.newt q rs r1 ht⟩
 . exact q.elim
theorem yJ(h:JA X cm W es fl):JE X cm W (.List es pos) (eN zQ fl):=by
 refine(pe_lst h).imp λσ H Q q=>?_;obtain⟨p,e,s,re,rs,q⟩:=tD.args q;refine⟨p,e,s,re,rs,q.imp ?_⟩;rintro xs H1 ⟨p,e,s,ds,re,rs,r1,q⟩;unfold zQ at q;split at q
 . rename_i h;exact⟨by rw[← r1.length];exact zbI h,λt ht=>Po.newl q rs r1 ht⟩
 . exact q.elim
theorem zrz:JE X cm W (.Dict [] [] pos) (eN (λ_=>mDK) zj):=by
 refine pe_dnewK.imp λσ H Q q=>?_;obtain⟨p,e,s,re,rs,q⟩:=q;intro a ha;obtain⟨f,rs',e⟩:=rs.new (o:=.dK []) (u:=.dK []) ha ⟨[],rfl,by simp[RKs]⟩;exact q _ _ _ f rs' (vh e)
theorem zrA:JE X cm W (.Dict [] [] pos) (eN (λ_=>mDT) zj):=by
 refine pe_dnewT.imp λσ H Q q=>?_;obtain⟨p,e,s,re,rs,q⟩:=q;intro a ha;obtain⟨f,rs',e⟩:=rs.new (o:=.dT []) (u:=.dT []) ha ⟨[],rfl,by simp[RKs]⟩;exact q _ _ _ f rs' (vh e)
theorem zgG{K:pX}{p:List Addr}{H:Hp}{ds:List D}{vs:List V}{i:Int}{d:D}(r:RVs K p H ds vs)(e:atI ds i=some d):∃ v,atI vs i=some v/\RV K p H d v:=by
 unfold atI at e ⊢;rw[← r.length]
 cases h:ixN ds.length i with
 | none=>rw[h]at e;cases e
 | some j =>
  rw[h]at e;exact r.get e
theorem zlu(hu:X.A.units+1<cLine):IxR X (λx y H Q=>∃ a v,x=.ref a/\DGet H a y (some v)/\Q v H):=by
 intro value slice pins s σ H x y v u Q I rx ry h hs;obtain⟨a,w,rfl,g,q⟩:=h;cases (show v=Value.ref a from rx);exact tail_any (dict_typeIs I g) PySem.F.slot_dict_getitem.lookup (d_getItem hu I g ry λw' s' I' rw'=>⟨w,H,I',rw',q⟩) hs
theorem yS{k:Nat}(hr:Room k X.A)(ha:JE X cm W a fa)(hb:JE X cm W b fb)(hs:PlainIx b:=by intro _ _;rfl):JE X cm W (.Subscript a b pos) (e2 oAt fa fb):=by
 refine(pe_ix (ix_seq.or (zlu (hu_of hr))) ha hb hs).imp λσ H Q q=>?_;obtain⟨p,e,s,re,rs,q⟩:=tD.two q;refine⟨p,e,s,re,rs,q.imp ?_⟩;rintro x H1 ⟨p,e,s,re,rs,q⟩;refine⟨p,e,s,re,rs,q.imp ?_⟩;rintro y H2 ⟨p,e,s,d1,d2,re,rs,r1,r2,q0⟩;obtain⟨d,e1,qf⟩:=wR q0;unfold atD at e1;split at e1
 . rename_i ds;split at e1
   . rename_i i;obtain⟨t,vs,rfl,h1,rr⟩:=xV r1;obtain⟨v,e2,rv⟩:=zgG rr e1;exact .inl (.inr (.inl ⟨t,vs,i,v,rfl,yo r2,SqT.of h1,e2,Po.ok qf rs rv⟩))
   . cases e1
 . rename_i ds;split at e1
   . rename_i i;simp only[RV]at r1;obtain⟨t,vs,rfl,h1,rr⟩:=r1;obtain⟨v,e2,rv⟩:=zgG rr e1;exact .inl (.inl ⟨t,vs,i,v,rfl,yo r2,h1.1,e2,Po.ok qf rs rv⟩)
   . cases e1
 . rename_i z;split at e1
   . rename_i i;split at e1
     . rename_i hz;obtain⟨c,e2,rfl⟩:=tY.mp e1;exact .inl (.inr (.inr ⟨z,i,c,xq r1,yo r2,zbI hz,e2,Po.ok qf rs (uN _)⟩))
     . cases e1
   . cases e1
 . rename_i n;split at e1
   . rename_i ds h;split at e1
     . rename_i i;obtain⟨t,vs,rfl,_,h1,rr⟩:=yu rs r1 h;obtain⟨v,e2,rv⟩:=zgG rr e1;exact .inl (.inl ⟨t,vs,i,v,rfl,yo r2,SqL.of h1,e2,Po.ok qf rs rv⟩)
     . cases e1
   . rename_i o h1 h2;obtain⟨r,e2,e3⟩:=qb.mp e1;simp only[id]at e3;subst e3;obtain⟨t,rfl,h⟩:=zdY rs r1 h2 r2 e2
     rcases h with ⟨d',v,e4,g,rv⟩ | ⟨e4,_⟩
     . cases e4;exact .inr ⟨t,v,rfl,g,Po.ok qf rs rv⟩
     . cases e4
   . cases e1
 . cases e1
theorem zgo:JO X cm W none pNo:=by
 refine po_none.imp λσ H Q q=>?_;obtain⟨p,e,s,re,rs,q⟩:=q;exact Po.ok q rs rfl
theorem jC(ha:JE X cm W a fa):JO X cm W (some a) (jH fa):=by
 refine(po_some ha).imp λσ H Q q=>?_;obtain⟨p,e,s,re,rs,q⟩:=q;refine⟨p,e,s,re,rs,(Po.bnd (rel1:=RV X.K) q).imp ?_⟩;rintro x H1 ⟨d,p1,s1,f,rs1,r1,q⟩;split at q
 . exact⟨_,yo r1,Po.ok q rs1 rfl⟩
 . exact q.elim
theorem zdU{K:pX}{p:List Addr}{H:Hp}{ds:List D}{vs:List V}{lo hi:Option Int}(r:RVs K p H ds vs):RVs K p H (kE ds lo hi) (cutV vs lo hi):=by
 unfold kE cutV;rw[← r.length];exact(r.drop _).take _
theorem zes{lo hi:Option Expr}{fl fh:EO}{p2:Pos}(ha:JE X cm W a fa)(hl:JO X cm W lo fl)(hh:JO X cm W hi fh):JE X cm W (.Subscript a (.Slice lo hi none p2) pos) (zaU fa fl fh):=by
 refine(pe_slice (sl_list.or (sl_tupA.or sl_str)) ha hl hh).imp λσ H Q q=>?_;obtain⟨p,e,s,re,rs,q0⟩:=q;refine⟨p,e,s,re,rs,(Po.bnd (rel1:=RV X.K) q0).imp ?_⟩;rintro x H1 ⟨d,p1,s1,f1,rs1,r1,q1⟩;refine⟨p1,e,s1,re.mono f1,rs1,(Po.bnd (rel1:=rI') q1).imp ?_⟩;rintro l H2 ⟨l',p2,s2,f2,rs2,r2,q2⟩;have r2':l'=l:=r2;subst r2';refine⟨p2,e,s2,(re.mono f1).mono f2,rs2,(Po.bnd (rel1:=rI') q2).imp ?_⟩;rintro h H3 ⟨h',p3,s3,f3,rs3,r3,q3⟩;have r3':h'=h:=r3;subst r3';have rr1:=(r1.mono f2).mono f3
 clear r1
 unfold ziQ at q3;split at q3
 . rename_i ds;obtain⟨t,vs,rfl,h1,rr⟩:=xV rr1;refine .inr (.inl ⟨t,vs,rfl,SqT.of h1,λz=>?_,λ_ b hb=>Po.newt q3 rs3 (zdU rr) hb⟩);refine Po.ok q3 rs3 (zam h1 ?_)
   have e1:kE ds l' h'=ds:=by
     unfold kE;have hl:=rr.length;rw[hl,z.1,z.2,← hl];simp
   rw[e1];exact rr
 . rename_i z;split at q3
   . rename_i hz;exact .inr (.inr ⟨z,xq rr1,zbI hz,Po.ok q3 rs3 (uN _)⟩)
   . exact q3.elim
 . rename_i n;split at q3
   . rename_i ds h;obtain⟨t,vs,rfl,_,h1,rr⟩:=yu rs3 rr1 h;exact .inl ⟨t,vs,rfl,SqL.of h1,λb hb=>Po.newl q3 rs3 (zdU rr) hb⟩
   . exact q3.elim
 . exact q3.elim
end
section
variable{X:Cx}{cm:CM}{W:WX}{a b c:Expr}{es:List Expr}{fa fb fc:E}{fl:EL}{pos:Pos}
def zqr(K:pX)(f:Str):V->Hp->VK->Prop:=λx H Q=>(∃ a C dx fs v,x=.ref a/\H a=some (.ins C dx fs)/\Cls K C/\NoAttr K C f/\fs.lookup f=some v/\Q v H) \/
 (∃ a C dd fs v,x=.ref a/\H a=some (ErrO a C (some dd))/\XfC K C/\PySem.W.findIn K (.ref C) f=some none/\H dd=some (.xd fs)/\fs.lookup f=some v/\Q v H)
theorem zlU{te:TE}{f:Str}(he:PE X a te)(hb:attributeBase a f X.env (eval a X.env)=eval a X.env):PE X (.Attribute a f pos) (λσ H Q=>te σ H λx H1=>zqr X.K f x H1 Q):=by
 refine⟨λpins s σ H Q I h=>?_⟩;refine attr_of hb (thn (he.run pins s σ H _ I h) λu s1 ⟨x,H1,I1,rx,q⟩=>?_)
 rcases q with ⟨a,C,dx,fs,v,rfl,ea,c,n,l,q⟩ | ⟨a,C,dd,fs,v,rfl,ea,T,hno,ed,l,q⟩
 . obtain rfl:u=Value.ref a:=rx
   exact getattr_ok I1 ea c n l λu' s2 I2 ru=>⟨v,H1,I2,ru,q⟩
 . obtain rfl:u=Value.ref a:=rx;obtain⟨⟨oe,vs,ha,hc,hdd,hd⟩,_⟩:=I1.hok a _ ea
   obtain⟨mA,hns,hr⟩:=(show ObjOk X.prog X.w H1 s1.heap dd (.xd fs)from I1.hok dd _ ed)
   obtain⟨od,ho,hl⟩:=lookIn_ns hns;obtain⟨u,hu,ru⟩:=RelO.some_of (v:=v) (o:=mA f) (by rw[← l];exact hr f)
   have J:PySem.W.InstAt s1.heap a oe C (some od):=⟨ha,hc,by unfold PySem.W.notCls;rw[hd] <;> rfl,by rw[hdd];exact ho⟩
   exact HandSPX.exc_get I1.kIn J T.ga T.gg T.exC (PySem.W.findObj_own T.hdC hno rfl (by rw[hl,hu])) (handed_of ru) ⟨v,H1,I1.tok _,ru,q⟩
structure FldOk(K:pX)(cm:CM)(f:Str):Prop where
 ins:∀ c C,cm.ins c=some C->Cls K C/\NoAttr K C f
 err:∀ c C,cm.err c=some C->XfC K C/\PySem.W.findIn K (.ref C) f=some none
theorem zbl{K:pX}{p:List Addr}{H:Hp}(f:Str):∀{ds:List (Str×D)}{vs:List (Str×V)}{d:D},RKs K p H ds vs->ds.lookup f=some d->∃ v,vs.lookup f=some v/\RV K p H d v
 | [],vs,d,r,e=>by cases e
 | d'::ds,vs,d,r,e=>by
  simp only[RKs]at r;obtain⟨v,r',rfl,r1,r2⟩:=r;rw[List.lookup_cons]at e;rw[List.lookup_cons];by_cases hk:f == d'.1
  . rw[hk]at e ⊢;cases e;exact⟨v,rfl,r1⟩
  . rw[Bool.not_eq_true]at hk;rw[hk]at e ⊢;exact zbl f r2 e
theorem zdx{f:Str}(T:FldOk X.K cm f)(ha:JE X cm W a fa)(hb:attributeBase a f X.env (eval a X.env)=eval a X.env:=by rfl):JE X cm W (.Attribute a f pos) (e1 (zaM f) fa):=by
 refine(zlU ha hb).imp λσ H Q q=>?_;obtain⟨p,e,s,re,rs,q0⟩:=tD.bnd q;refine⟨p,e,s,re,rs,q0.imp ?_⟩;rintro x H1 ⟨p,e,s,d,re,rs,r1,q1⟩;unfold zaM at q1;split at q1
 . rename_i n;split at q1
   . rename_i c fs h
     cases hl:fs.lookup f with
     | none=>rw[hl]at q1;exact q1.elim
     | some d =>
      rw[hl]at q1;simp only[RV]at r1;obtain⟨t,ht,rfl⟩:=r1;obtain⟨t',ht',u,hu,C,dx,gs,hC,rfl,rk⟩:=rs.at h;rw[ht]at ht';cases ht';obtain⟨v,hv,rv⟩:=zbl f rk hl;obtain⟨k1,k2⟩:=T.ins c C hC;exact .inl ⟨t,C,dx,gs,v,rfl,hu,k1,k2,hv,Po.ok q1 rs rv⟩
   . rename_i c fs h
     cases hl:fs.lookup f with
     | none=>rw[hl]at q1;exact q1.elim
     | some d =>
      rw[hl]at q1;simp only[RV]at r1;obtain⟨t,ht,rfl⟩:=r1;obtain⟨t',ht',C,od,hC,hu,rk⟩:=rs.at h;rw[ht]at ht';cases ht'
      cases od with
      | none=>rw[show fs=[]from rk]at hl;cases hl
      | some dd =>
      obtain⟨gs,hx,rk⟩:=rk;obtain⟨v,hv,rv⟩:=zbl f rk hl;obtain⟨k1,k2⟩:=T.err c C hC;exact .inr ⟨t,C,dd,gs,v,rfl,hu,k1,k2,hx,hv,Po.ok q1 rs rv⟩
   . exact q1.elim
 . exact q1.elim
theorem vB{id:String}{x:Str}{f:List D->M D}{p':Pos}(hc:SN X cm (.builtin id) f)(hm:X.mg x=none)(ha:JA X cm W (a::es) fl)(hg:Gl X x:=by rfl)(hv:bootBuiltins x=some (.builtin id):=by decide +kernel)(hn:x≠"__name__":=by decide)(hdb:(x == ("__debug__":Str))=false:=by decide)
  (he:starEach (a::es) X.env=(false,eval a X.env)::starEach es X.env:=by rfl) (hpl:(backTo pos (starEach es X.env)).any (·.1)=false:=by rfl):JE X cm W (.Call (.Name x p') (a::es) [] pos) (eN f fl):=by
 obtain⟨r,h1,h2⟩:=hc;refine(pe_callB h1 hg hm hv ha hn hdb he hpl).imp λσ H Q q=>?_;obtain⟨p,e,s,re,rs,q⟩:=tD.args q;refine⟨p,e,s,re,rs,q.imp ?_⟩;rintro xs H1 ⟨p,e,s,ds,re,rs,r1,q⟩;exact h2 W p s σ H1 xs ds Q rs r1 q
theorem vO{id:String}{x:Str}{f:List D->M D}{p':Pos}(hc:SN X cm (.type id) f)(hm:X.mg x=none)(ha:JA X cm W (a::es) fl)(hg:Gl X x:=by rfl)(hv:bootBuiltins x=some (.type id):=by decide +kernel)(hn:x≠"__name__":=by decide)(hdb:(x == ("__debug__":Str))=false:=by decide)
  (he:starEach (a::es) X.env=(false,eval a X.env)::starEach es X.env:=by rfl) (hpl:(backTo pos (starEach es X.env)).any (·.1)=false:=by rfl):JE X cm W (.Call (.Name x p') (a::es) [] pos) (eN f fl):=by
 obtain⟨r,h1,h2⟩:=hc;refine(pe_callTy h1 hg hm hv ha hn hdb he hpl).imp λσ H Q q=>?_;obtain⟨p,e,s,re,rs,q⟩:=tD.args q;refine⟨p,e,s,re,rs,q.imp ?_⟩;rintro xs H1 ⟨p,e,s,ds,re,rs,r1,q⟩;exact h2 W p s σ H1 xs ds Q rs r1 q
theorem xU{K:pX}{p:List Addr}{H:Hp}{d:D}{xs:List V}(r:RVs K p H [d] xs):∃ x,xs=[x]/\RV K p H d x:=by
 simp only[RVs]at r;obtain⟨v,r',rfl,r1,rfl⟩:=r;exact⟨v,rfl,r1⟩
theorem ziE{K:pX}{p:List Addr}{H:Hp}{d d':D}{xs:List V}(r:RVs K p H [d,d'] xs):∃ x y,xs=[x,y]/\RV K p H d x/\RV K p H d' y:=by
 simp only[RVs]at r;obtain⟨v,r',rfl,r1,w,r'',rfl,r2,rfl⟩:=r;exact⟨v,w,rfl,r1,r2⟩
theorem zfZ:CallR X (.builtin "len") (λxs H Q=>∃ a kvs,xs=[V.ref a]/\Rd H a (.dK kvs)/\Q (.int kvs.length) H):=by
 intro pins s σ H xs us Q I r h;obtain⟨a,kvs,rfl,ha,q⟩:=h;obtain⟨u,rfl,ru⟩:=vals1 r;cases (show u=Value.ref a from ru)
 exact d_len I ha λt s' I'=>⟨.int _,H,I',⟨t,rfl⟩,q⟩
theorem s_len:SN X cm (.builtin "len") wW:=by
 refine⟨_,call_len.or zfZ,λW p s σ H xs ds Q rs r q=>?_⟩;unfold wW at q;split at q
 . rename_i d;obtain⟨x,rfl,r1⟩:=xU r
   cases hl:zbk s d with
   | none=>rw[hl]at q;exact q.elim
   | some n =>
    rw[hl]at q;have q':=Po.ok q rs (xQ _);unfold zbk at hl;split at hl
    . split at hl
      . rename_i hz;cases hl;exact .inl ⟨x,_,rfl,by rw[xq r1];exact⟨zbI hz,rfl⟩,q'⟩
      . cases hl
    . cases hl;obtain⟨t,vs,rfl,h1,rr⟩:=xV r1;exact .inl ⟨_,_,rfl,.inr ⟨vs,SqT.of h1,rr.length⟩,q'⟩
    . cases hl;simp only[RV]at r1;obtain⟨t,vs,rfl,h1,rr⟩:=r1;exact .inl ⟨_,_,rfl,.inl ⟨vs,h1.1,rr.length⟩,q'⟩
    . cases hl;simp only[RV]at r1;obtain⟨t,vs,rfl,h1,rr⟩:=r1;exact .inl ⟨_,_,rfl,.inr ⟨vs,h1.sq,rr.length⟩,q'⟩
    . rename_i n';split at hl
      . rename_i ds h;cases hl;obtain⟨t,vs,rfl,_,h1,rr⟩:=yu rs r1 h;exact .inl ⟨_,_,rfl,.inl ⟨vs,SqL.of h1,rr.length⟩,q'⟩
      . rename_i o h0 h;split at hl
        . rename_i kvs hu;cases hl;simp only[RV]at r1;obtain⟨t,ht,rfl⟩:=r1;obtain⟨t',ht',hr⟩:=rs.at h;rw[ht]at ht';cases ht'
          have:∃ ws,Rd H t (.dK ws)/\RKs X.K p H kvs ws:=by
           cases o with
           | lck o' =>
            obtain⟨od,u,e1,_,c⟩:=hr;simp only[unl]at hu;subst hu;obtain⟨ws,rfl,c⟩:=c;exact⟨ws,.inr ⟨od,e1⟩,c⟩
           | dK _ =>
            simp only[unl]at hu;cases hu;obtain⟨u,e1,ws,rfl,c⟩:=hr;exact⟨ws,.inl e1,c⟩
           | _=>simp only[unl]at hu;cases hu
          obtain⟨ws,h1,rr⟩:=this;rw[rr.length]at q';exact .inr ⟨t,ws,rfl,h1,q'⟩
        . cases hl
      . cases hl
    . cases hl
 . exact q.elim
theorem s_int:SN X cm (.type "int") zdm:=by
 refine⟨_,call_int1,λW p s σ H xs ds Q rs r q=>?_⟩;unfold zdm at q;split at q
 . obtain⟨x,rfl,r1⟩:=xU r;exact .inl ⟨_,by rw[yo r1],Po.ok q rs (xQ _)⟩
 . obtain⟨x,rfl,r1⟩:=xU r;exact .inr ⟨_,by rw[jW r1],Po.ok q rs (xQ _)⟩
 . exact q.elim
theorem zcu{K:pX}{p:List Addr}{H:Hp}:∀{ds:List D}{ns:List Int}{vs:List V},zbM ds=some ns->RVs K p H ds vs->vs=ns.map V.int
 | [],ns,vs,e,r=>by
  simp only[zbM]at e;cases e;simp only[RVs]at r;subst r;rfl
 | d::ds,ns,vs,e,r=>by
  cases d <;> simp only[zbM]at e <;> first | (cases e;done) | skip
  obtain⟨ms,e1,rfl⟩:=tY.mp e;simp only[RVs]at r;obtain⟨v,r',rfl,r1,r2⟩:=r;rw[yo r1,zcu e1 r2];rfl
theorem zbq:∀(r:List Int) (a:Int),(zhB a r=a\/zhB a r∈r)/\a<=zhB a r/\∀ y∈r,y<=zhB a r
 | [],a=>⟨.inl rfl,Int.le_refl _,λy h=>nomatch h⟩
 | b::r,a=>by
  unfold zhB;split
  . rename_i h;obtain⟨h1,h2,h3⟩:=zbq r b;refine⟨.inr ?_,by omega,λy hy=>?_⟩
    . rcases h1 with e | e
      . rw[e];exact qR
      . exact tQ _ e
    . rcases tU.mp hy with rfl | hy
      . exact h2
      . exact h3 y hy
  . rename_i h;obtain⟨h1,h2,h3⟩:=zbq r a;refine⟨h1.imp id λe=>tQ _ e,h2,λy hy=>?_⟩
    rcases tU.mp hy with rfl | hy
    . omega
    . exact h3 y hy
theorem s_max(hc:X.calm=true):SN X cm (.builtin "max") zmH:=by
 refine⟨_,(cr_max hc).or (call_max2 hc),λW p s σ H xs ds Q rs r q=>?_⟩;unfold zmH mm at q;split at q
 . rename_i n;obtain⟨x,rfl,r1⟩:=xU r;split at q
   . rename_i ds h;unfold yx at h;split at h
     . rename_i ds' h';cases h;split at q
       . rename_i a r' hi;obtain⟨t,vs,rfl,_,h1,rr⟩:=yu rs r1 h';have e:=zcu hi rr;subst e;obtain⟨k1,k2,k3⟩:=zbq r' a;refine .inl ⟨t,_,rfl,SqL.of h1,by simp,λm hm hle=>?_⟩
         have e:m=zhB a r':=by
          have:=hle (zhB a r') (by
            rcases k1 with e | e
            . rw[e];exact qR
            . exact tQ _ e)
          rcases tU.mp hm with rfl | hm
          . omega
          . have:=k3 m hm;omega
         rw[e];exact Po.ok q rs (xQ _)
       . exact q.elim
     . cases h
   . exact q.elim
 . rename_i i j;obtain⟨x,y,rfl,r1,r2⟩:=ziE r;exact .inr ⟨i,j,by rw[yo r1,yo r2],Po.ok q rs (xQ _)⟩
 . exact q.elim
theorem s_tuple:SN X cm (.type "tuple") fTuple:=by
 refine⟨_,call_tuple_of,λW p s σ H xs ds Q rs r q=>?_⟩;unfold fTuple at q;split at q
 . obtain⟨x,rfl,r1⟩:=xU r;obtain⟨t,vs,rfl,h1,rr⟩:=xV r1;exact⟨t,vs,rfl,.inr ⟨SqT.of h1,Po.ok q rs (zam h1 rr)⟩⟩
 . rename_i n;obtain⟨x,rfl,r1⟩:=xU r;split at q
   . rename_i ds h;obtain⟨t,vs,rfl,_,h1,rr⟩:=yu rs r1 h;exact⟨t,vs,rfl,.inl ⟨SqL.of h1,λl hl=>Po.newt q rs rr hl⟩⟩
   . exact q.elim
 . exact q.elim
def zdI:Ty->String
 | .int=>"int"
 | .bool=>"bool"
 | .str=>"str"
 | .tuple=>"tuple"
 | .list=>"list"
 | .dict=>"dict"
theorem zlt{K:pX}{p:List Addr}{s:S}{H:Hp}{d:D}{x:V}{t:Ty}{k:Bool}(rs:RS K cm p s H)(r:RV K p H d x)(e:zge s d t=some k):∃ T:String,TyX K H x (.type T)/\kitB T (zdI t)=some k:=by
 unfold zge at e;split at e
 . cases e;rw[zbE r];exact⟨_,.base .non,by cases t <;> decide +kernel⟩
 . cases e;rw[jW r];exact⟨_,.base (.bl _),by cases t <;> decide +kernel⟩
 . cases e;rw[yo r];exact⟨_,.base (.int _),by cases t <;> decide +kernel⟩
 . cases e;rw[xq r];exact⟨_,.base (.str _),by cases t <;> decide +kernel⟩
 . cases e;obtain⟨a,vs,rfl,h1,rr⟩:=xV r;exact⟨_,.base (.tup h1),by cases t <;> decide +kernel⟩
 . cases e
 . cases e;simp only[RV]at r;obtain⟨a,vs,rfl,⟨o,its,m,h1,h2,_⟩,rr⟩:=r;exact⟨_,.kTuple h1 h2,by cases t <;> decide +kernel⟩
 . rename_i n;obtain⟨o,h,e⟩:=qb.mp e;simp only[RV]at r;obtain⟨a,ha,rfl⟩:=r;obtain⟨b,hb,q⟩:=rs.at h;rw[ha]at hb;cases hb
   cases o with
   | lst ds =>
    cases e;obtain⟨u,h1,vs,rfl,_⟩:=q;exact⟨_,.base (.lst h1),by cases t <;> decide +kernel⟩
   | dK ds =>
    cases e;obtain⟨u,h1,vs,rfl,_⟩:=q;exact⟨_,.base (.dK h1),by cases t <;> decide +kernel⟩
   | dT ds =>
    cases e;obtain⟨u,h1,vs,rfl,_⟩:=q;exact⟨_,.base (.dT h1),by cases t <;> decide +kernel⟩
   | _=>cases e
theorem ziR{t:Ty}{x:Str}{p1 p2:Pos}(he:JE X cm W a fa)(hm:X.mg "isinstance"=none)(hx:X.mg x=none)(hb:bootBuiltins x=some (.type (zdI t)):=by decide +kernel)(hg:Gl X "isinstance":=by rfl)(hgx:Gl X x:=by rfl)(hn:x≠"__name__":=by decide)(hdb:(x == ("__debug__":Str))=false:=by decide)
  (he1:starEach [a,.Name x p2] X.env=(false,eval a X.env)::starEach [.Name x p2] X.env:=by rfl) (he2:starEach [.Name x p2] X.env=(false,eval (.Name x p2) X.env)::starEach [] X.env:=by rfl) (hpl:(backTo pos (starEach [.Name x p2] X.env)).any (·.1)=false:=by rfl) :
  JE X cm W (.Call (.Name "isinstance" p1) [a,.Name x p2] [] pos) (e1 (oIs t) fa):=by
 refine(pe_callB call_isi hg hm (by decide +kernel) (pa_cons he (pa_cons (pe_bltn (v:=.ty (zdI t)) hgx hx hb rfl hn hdb) pa_nil he2) he1) (he:=he1) (hpl:=hpl)).imp λσ H Q q=>?_;obtain⟨p,e,s,re,rs,q⟩:=tD.bnd q;refine⟨p,e,s,re,rs,q.imp ?_⟩;rintro v H1 ⟨p,e,s,d,re,rs,r1,q⟩;unfold oIs at q
 cases h:zge s d t with
 | none=>rw[h]at q;exact q.elim
 | some k =>
  rw[h]at q;obtain⟨T,h1,h2⟩:=zlt rs r1 h;exact⟨v,.ty (zdI t),.type T,.type (zdI t),k,rfl,.ty _,h1,kit_ty h2,Po.ok q rs (jO _)⟩
theorem zfj{K:pX}{p:List Addr}{s:S}{H:Hp}{d:D}{x:V}(rs:RS K cm p s H)(r:RV K p H d x)(e:uD s d=true):tyV K "list" x H:=by
 unfold uD at e;split at e
 . rename_i n;split at e
   . rename_i ds h;obtain⟨t,vs,rfl,_,h1,rr⟩:=yu rs r h;exact .inl ⟨rfl,vs,SqL.of h1⟩
   . cases e
 . cases e
theorem zel{K:pX}{W:WX}{p:List Addr}{s:S}{σ:L2.St}{H:Hp}{n:Nat}{f:O->Option (O×D)}{Q:VK}(q:Po K cm W (RV K) p σ H (zkw n f s) Q):∃ o o' d,s[n]?=some o/\f o=some (o',d)/\Po K cm W (RV K) p σ H (some (.ok d (s.set n o'))) Q:=by
 unfold zkw at q
 cases h:s[n]? with
 | none=>rw[h]at q;exact q.elim
 | some o =>
  rw[h]at q
  cases h2:f o with
  | none=>simp only[h2]at q;exact q.elim
  | some r=>simp only[h2]at q;exact⟨o,r.1,r.2,rfl,h2,q⟩
theorem r_m{id:String}{m:Str}{f:D->List D->M D}{apos cpos:Pos}{r:V->List V->Hp->VK->Prop}(slot:Slot "list" m id)(hty:typeOf (.builtin id)=pure (.type "method_descriptor"))(hm:MtR X id r)
   (hr:∀(W:WX) p s σ H x xs d ds Q,RS X.K cm p s H->RV X.K p H d x->RVs X.K p H ds xs->Po X.K cm W (RV X.K) p σ H (f d ds s) Q->r x xs H Q) (ho:JE X cm W a fa) (ha:JA X cm W (b::es) fl)
   (hbase:attributeBase a m X.env (eval a X.env)=eval a X.env:=by rfl)
   (hfew:((backTo cpos (starEach (b::es) X.env)).all (λx=>!x.1)&&(backToKw cpos (keywordEach [] X.env)).all (λx=>x.1.isSome)
    && decide ((b::es).length+([]:List Keyword).length+(if ([]:List Keyword).isEmpty then 0 else 1)<30))=true:=by rfl)
   (hline:(apos.endLine == cpos.line)=true:=by rfl) (hs:starEach (b::es) X.env=(false,eval b X.env)::starEach es X.env:=by rfl) (hplain:(backTo cpos (starEach es X.env)).any (·.1)=false:=by rfl) :
   JE X cm W (.Call (.Attribute a m apos) (b::es) [] cpos) (eM f fa fl):=by
 refine(pe_bm PySem.F.plainAttrs_list slot hty hm ho ha hbase hfew hline hs hplain).imp λσ H Q q=>?_;obtain⟨p,e,s,re,rs,q⟩:=q;refine⟨p,e,s,re,rs,(Po.bnd (rel1:=RV X.K) q).imp ?_⟩;rintro x H1 ⟨d,p1,s1,f1,rs1,r1,q⟩;split at q
 . rename_i h;refine⟨zfj rs1 r1 h,p1,e,s1,re.mono f1,rs1,(Po.bnd (rel1:=RVs X.K) q).imp ?_⟩;rintro xs H2 ⟨ds,p2,s2,f2,rs2,r2,q⟩;exact hr W p2 s2 σ H2 x xs d ds Q rs2 (r1.mono f2) r2 q
 . exact q.elim
theorem zsq{id:String}{m:Str}{f:D->List D->M D}{apos cpos:Pos}{r:V->List V->Hp->VK->Prop}(slot:Slot "list" m id)(hty:typeOf (.builtin id)=pure (.type "method_descriptor"))(hm:MtR X id r)
   (hr:∀(W:WX) p s σ H x d Q,RS X.K cm p s H->RV X.K p H d x->Po X.K cm W (RV X.K) p σ H (f d [] s) Q->r x [] H Q) (ho:JE X cm W a fa)
   (hbase:attributeBase a m X.env (eval a X.env)=eval a X.env:=by rfl) (hline:(apos.endLine == cpos.line)=true:=by rfl) :
   JE X cm W (.Call (.Attribute a m apos) [] [] cpos) (eM f fa zj):=by
 refine(pe_bm0 PySem.F.plainAttrs_list slot hty hm ho hbase hline).imp λσ H Q q=>?_;obtain⟨p,e,s,re,rs,q⟩:=q;refine⟨p,e,s,re,rs,(Po.bnd (rel1:=RV X.K) q).imp ?_⟩;rintro x H1 ⟨d,p1,s1,f1,rs1,r1,q⟩;split at q
 . rename_i h;exact⟨zfj rs1 r1 h,hr W p1 s1 σ H1 x d Q rs1 r1 q⟩
 . exact q.elim
theorem RVs.dropLast{K:pX}{p:List Addr}{H:Hp}{ds:List D}{vs:List V}(h:RVs K p H ds vs):RVs K p H ds.dropLast vs.dropLast:=by
 rw[pG,pG,h.length];exact h.take _
theorem yO{apos cpos:Pos}(ho:JE X cm W a fa)(ha:JA X cm W [b] fl)
   (hbase:attributeBase a "append" X.env (eval a X.env)=eval a X.env:=by rfl)
   (hfew:((backTo cpos (starEach [b] X.env)).all (λx=>!x.1)&&(backToKw cpos (keywordEach [] X.env)).all (λx=>x.1.isSome)
     && decide (([b]:List Expr).length+([]:List Keyword).length+(if ([]:List Keyword).isEmpty then 0 else 1)<30))=true:=by rfl)
   (hline:(apos.endLine == cpos.line)=true:=by rfl) (hs:starEach [b] X.env=(false,eval b X.env)::starEach [] X.env:=by rfl) (hplain:(backTo cpos (starEach [] X.env)).any (·.1)=false:=by rfl) :
   JE X cm W (.Call (.Attribute a "append" apos) [b] [] cpos) (eM yc fa fl):=by
 refine r_m PySem.F.slot_list_append PySem.F.type_list_append mt_append (λW p s σ H x xs d ds Q rs rx rxs q=>?_) ho ha hbase hfew hline hs hplain;unfold yc at q;split at q
 . rename_i n y;obtain⟨o,o',d',h1,h2,q⟩:=zel q;split at h2
   . rename_i ds';split at h2
     . rename_i hlen;cases h2;obtain⟨z,rfl,ry⟩:=xU rxs;obtain⟨t,vs,rfl,hp,hH,rr⟩:=yu rs rx h1
       have c:RC X.K cm p H t (.lst (ds'++[y])) (.lst (vs++[z])):=⟨_,rfl,rr.append rxs⟩
       obtain⟨f,rs'⟩:=rs.put hp hH trivial c;exact⟨t,vs,z,rfl,rfl,hH,by rw[← rr.length,sizeLine_eq];exact hlen,q _ _ _ f rs' zhE⟩
     . cases h2
   . cases h2
 . exact q.elim
theorem zjC{apos cpos:Pos}(ho:JE X cm W a fa)
   (hbase:attributeBase a "pop" X.env (eval a X.env)=eval a X.env:=by rfl) (hline:(apos.endLine == cpos.line)=true:=by rfl) :
   JE X cm W (.Call (.Attribute a "pop" apos) [] [] cpos) (eM zmL fa zj):=by
 refine zsq PySem.F.slot_list_pop PySem.F.type_list_pop mt_pop (λW p s σ H x d Q rs rx q=>?_) ho hbase hline;unfold zmL at q;split at q
 . rename_i n;obtain⟨o,o',d',h1,h2,q⟩:=zel q;split at h2
   . rename_i ds';obtain⟨y,hy,e⟩:=tY.mp h2;cases e;obtain⟨t,vs,rfl,hp,hH,rr⟩:=yu rs rx h1;obtain⟨z,hz,rz⟩:=rr.get hy
     have c:RC X.K cm p H t (.lst ds'.dropLast) (.lst vs.dropLast):=⟨_,rfl,rr.dropLast⟩
     obtain⟨f,rs'⟩:=rs.put hp hH trivial c;exact⟨t,vs,z,rfl,rfl,hH,by rw[← rr.length];exact hz,q _ _ _ f rs' (rz.mono f)⟩
   . cases h2
 . exact q.elim
theorem zjB{apos:Pos}(ho:JE X cm W a fa)(hbase:attributeBase a "bit_length" X.env (eval a X.env)=eval a X.env:=by rfl)(hline:(apos.endLine == pos.line)=true:=by rfl):JE X cm W (.Call (.Attribute a "bit_length" apos) [] [] pos) (e1 zbt fa):=by
 refine(pe_bits ho hbase hline).imp λσ H Q q=>?_;obtain⟨p,e,s,re,rs,q⟩:=tD.bnd q;refine⟨p,e,s,re,rs,q.imp ?_⟩;rintro x H1 ⟨p,e,s,d,re,rs,r1,q⟩;unfold zbt at q;split at q
 . exact⟨_,yo r1,Po.ok q rs (xQ _)⟩
 . exact q.elim
theorem zhn{K:pX}{p:List Addr}{s:S}{H:Hp}{d:D}{x:V}(rs:RS K cm p s H)(r:RV K p H d x)(e:isDict s d=true):∃ n a o,d=.ref n/\x=.ref a/\p[n]?=some a/\s[n]?=some o/\IsD H a:=by
 unfold isDict at e;split at e
 . rename_i n;simp only[RV]at r;obtain⟨a,ha,rfl⟩:=r;unfold rd at e
   cases h:s[n]? with
   | none=>rw[h]at e;cases e
   | some o =>
    rw[h]at e;obtain⟨b,hb,q⟩:=rs.at h;rw[ha]at hb;cases hb;refine⟨n,a,o,rfl,rfl,ha,h,?_⟩
    cases o with
    | dK kvs=>obtain⟨u,h1,ws,rfl,_⟩:=q;exact .inl ⟨ws,.inl h1⟩
    | dT kvs=>obtain⟨u,h1,ws,rfl,_⟩:=q;exact .inr ⟨ws,.inl h1⟩
    | lck o' =>
     obtain⟨od,u,h1,_,c⟩:=q
     cases o' with
     | dK kvs=>obtain⟨ws,rfl,_⟩:=c;exact .inl ⟨ws,.inr ⟨od,h1⟩⟩
     | dT kvs=>obtain⟨ws,rfl,_⟩:=c;exact .inr ⟨ws,.inr ⟨od,h1⟩⟩
     | _=>cases e
    | _=>cases e
 . cases e
theorem zkE{k:Nat}{apos cpos:Pos}(hr:Room k X.A)(ha:JE X cm W a fa)(hb:JE X cm W b fb)(hc:JE X cm W c fc)(m:M2 X a "get" apos b c cpos:=by exact⟨rfl,rfl,rfl,rfl⟩):JE X cm W (.Call (.Attribute a "get" apos) [b,c] [] cpos) (zaV fa fb fc):=by
 refine(pe_dget2 (hu_of hr) ha hb hc m).imp λσ H Q q=>?_;obtain⟨p,e,s,re,rs,q⟩:=q;refine⟨p,e,s,re,rs,(Po.bnd (rel1:=RV X.K) q).imp ?_⟩;rintro x H1 ⟨d,p1,s1,f1,rs1,r1,q1⟩;split at q1
 . rename_i h;obtain⟨n,t,o,hd,rfl,h1,h2,h3⟩:=zhn rs1 r1 h;subst hd;refine⟨t,rfl,h3,p1,e,s1,re.mono f1,rs1,(Po.bnd (rel1:=RV X.K) q1).imp ?_⟩;rintro y H2 ⟨d2,p2,s2,f2,rs2,r2,q2⟩;refine⟨p2,e,s2,(re.mono f1).mono f2,rs2,(Po.bnd (rel1:=RV X.K) q2).imp ?_⟩;rintro z H3 ⟨d3,p3,s3,f3,rs3,r3,q3⟩
   cases h4:ug s3 (.ref n) d2 with
   | none=>rw[h4]at q3;exact q3.elim
   | some r =>
    rw[h4]at q3;unfold ug rd at h4;obtain⟨o3,h5,h6⟩:=qb.mp h4;obtain⟨o4,h7,rfl⟩:=tY.mp h5;obtain⟨t',et,h⟩:=zdY rs3 ((r1.mono f2).mono f3) h7 (r2.mono f3) h6;cases et
    rcases h with ⟨d',v,rfl,g,rv⟩ | ⟨rfl,g⟩
    . exact⟨_,g,Po.ok q3 rs3 rv⟩
    . exact⟨_,g,Po.ok q3 rs3 r3⟩
 . exact q1.elim
end
end Fc
namespace L2
open PySem
theorem PG.imp{X:Cx}{x:Expr}{t t':TG}(h:PG X x t)(k:∀ v σ H Q,t' v σ H Q->t v σ H Q):PG X x t':=⟨λpins s σ H v u Q I r q=>h.run pins s σ H v u Q I r (k v σ H Q q)⟩
theorem PG.or{X:Cx}{x:Expr}{t t':TG}(h:PG X x t)(h':PG X x t'):PG X x (λv σ H Q=>t v σ H Q\/t' v σ H Q):=⟨λpins s σ H v u Q I r q=>q.elim (h.run pins s σ H v u Q I r) (h'.run pins s σ H v u Q I r)⟩
theorem PGs.imp{X:Cx}{x:List Expr}{t t':TGs}(h:PGs X x t)(k:∀ v σ H Q,t' v σ H Q->t v σ H Q):PGs X x t':=⟨λpins s σ H v u Q I r q=>h.run pins s σ H v u Q I r (k v σ H Q q)⟩
theorem PS.imp{X:Cx}{x:Stmt}{t t':TS}(h:PS X x t)(k:∀ D σ H,t' D σ H->t D σ H):PS X x t':=⟨λpins s σ H D I q=>h.run pins s σ H D I (k D σ H q)⟩
theorem PSs.imp{X:Cx}{x:List Stmt}{t t':TS}(h:PSs X x t)(k:∀ D σ H,t' D σ H->t D σ H):PSs X x t':=⟨λpins s σ H D I q=>h.run pins s σ H D I (k D σ H q)⟩
theorem PSet.or{X:Cx}{t t':TSet}(h:PSet X t)(h':PSet X t'):PSet X (λo i v H Q=>t o i v H Q\/t' o i v H Q):=λpins s σ H o i v ov iv u Q I ro ri rv q=>q.elim (h pins s σ H o i v ov iv u Q I ro ri rv) (h' pins s σ H o i v ov iv u Q I ro ri rv)
theorem PI.or{X:Cx}{tg e:Expr}{t t':TI}(h:PI X tg e t)(h':PI X tg e t'):PI X tg e (λσ H R=>t σ H R\/t' σ H R):=⟨λpins s σ H R I q=>q.elim (h.run pins s σ H R I) (h'.run pins s σ H R I)⟩
end L2
namespace Fc
open PySem PySem.Spec PyProof.Rows L2
variable{K:pX}{cm:CM}{W:WX}
section
variable(K:pX)(cm:CM)
def tG(g:G)(vs:List Nat):TG:=λv σ H Q=>∃ p e s d e',RE K p H e σ/\RS K cm p s H/\RV K p H d v/\g d e s=some e'/\∀ σ',RE K p H e' σ'->(∀ i,i∉vs->σ'[i]?=σ[i]?)->Q σ' H
def tGs(g:GL)(vs:List Nat):TGs:=λv σ H Q=>∃ p e s d e',RE K p H e σ/\RS K cm p s H/\RVs K p H d v/\g d e s=some e'/\∀ σ',RE K p H e' σ'->(∀ i,i∉vs->σ'[i]?=σ[i]?)->Q σ' H
end
abbrev JG(X:Cx)(cm:CM)(x:Expr)(g:G)(vs:List Nat):Prop:=PG X x (tG X.K cm g vs)
abbrev JGs(X:Cx)(cm:CM)(x:List Expr)(g:GL)(vs:List Nat):Prop:=PGs X x (tGs X.K cm g vs)
theorem RE.set{p:List Addr}{H:Hp}{e:Env}{σ:L2.St}(re:RE K p H e σ)(i:Nat){d:D}{v:V}(r:RV K p H d v):RE K p H (e.set i (some d)) (σ.set i (some v)):=by
 refine⟨by simp[re.1],λj d' h=>?_⟩;rw[qC]at h ⊢;by_cases hij:i=j
 . rw[if_pos hij]at h ⊢;split at h
   . rename_i hl;rw[if_pos (by rw[← re.1];exact hl)];cases h;exact⟨v,rfl,r⟩
   . cases h
 . rw[if_neg hij]at h ⊢;exact re.2 j d' h
theorem RE.unset{p:List Addr}{H:Hp}{e:Env}{σ:L2.St}(re:RE K p H e σ)(i:Nat):RE K p H (e.set i none) (σ.set i none):=by
 refine⟨by simp[re.1],λj d' h=>?_⟩;rw[qC]at h ⊢;by_cases hij:i=j
 . rw[if_pos hij]at h;split at h <;> cases h
 . rw[if_neg hij]at h ⊢;exact re.2 j d' h
section
variable{X:Cx}{es:List Expr}{a:Expr}{pos:Pos}
theorem zK(i:Nat){x:Str}(hN:X.N.Nodup)(hi:X.N[i]?=some x:=by rfl)(hx:Loc X.env.scope x:=by first | exact Or.inl rfl | exact Or.inr rfl)(hf:X.fn x=true\/X.env.scope.names.lookup x=some .local:=by first | exact .inl rfl | exact .inr rfl):JG X cm (.Name x pos) (gName i) [i]:=by
 refine(pg_name hN hi hx hf).imp ?_;rintro v σ H Q ⟨p,e,s,d,e',re,rs,rv,h,q⟩;cases h;refine q _ (re.set i rv) λj hj=>?_;rw[sV (λe=>hj (by simp[e]))]
theorem vp:JGs X cm [] gNil []:=by
 refine pgs_nil.imp ?_;rintro v σ H Q ⟨p,e,s,d,e',re,rs,rv,h,q⟩;unfold gNil at h;split at h
 . cases h;simp only[RVs]at rv;exact⟨rv,q σ re λ_ _=>rfl⟩
 . cases h
theorem zW{g:G}{r:GL}{vs ws:List Nat}(h1:JG X cm a g vs)(h2:JGs X cm es r ws)(hs:(assignEach (a::es) X.env).map (·.2)=assign a X.env::(assignEach es X.env).map (·.2):=by rfl):JGs X cm (a::es) (gCons g r) (vs++ws):=by
 refine(pgs_cons h1 h2 hs).imp ?_;rintro v σ H Q ⟨p,e,s,d,e',re,rs,rv,h,q⟩;unfold gCons at h;split at h
 . rename_i d ds;obtain⟨e1,h3,h4⟩:=qb.mp h;simp only[RVs]at rv;obtain⟨v,r',rfl,r1,r2⟩:=rv;refine⟨v,r',rfl,p,e,s,d,e1,re,rs,r1,h3,λσ1 re1 k1=>⟨p,e1,s,ds,e',re1,rs,r2,h4,λσ2 re2 k2=>q σ2 re2 λi hi=>?_⟩⟩;simp only[tZ,not_or]at hi;rw[k2 i hi.2,k1 i hi.1]
 . cases h
theorem vq{k:Nat}{r:GL}{vs:List Nat}{n:Nat}(hc:X.calm=true)(h:JGs X cm es r vs)(hn:(assignEach es X.env).length=n:=by rfl)(hst:(assignEach es X.env).findIdx? (·.1)=none:=by rfl):JG X cm (.Tuple es k pos) (gTup n r) vs:=by
 refine(PG.or (pg_tup hc h hn hst) (pg_lst hc h hn hst)).imp ?_;rintro v σ H Q ⟨p,e,s,d,e',re,rs,rv,h,q⟩;unfold gTup at h;split at h
 . rename_i ds;split at h
   . rename_i hl;obtain⟨a,xs,rfl,h1,rr⟩:=xV rv;exact .inl ⟨a,xs,rfl,SqT.of h1,by rw[← rr.length];exact hl,p,e,s,ds,e',re,rs,rr,h,q⟩
   . cases h
 . rename_i n';split at h
   . rename_i ds hs;split at h
     . rename_i hl;obtain⟨a,xs,rfl,_,h1,rr⟩:=yu rs rv hs;exact .inr ⟨a,xs,rfl,SqL.of h1,by rw[← rr.length];exact hl,p,e,s,ds,e',re,rs,rr,h,q⟩
     . cases h
   . cases h
 . cases h
end
variable(K cm W) in
def PoS(p:List Addr)(H:Hp)(r:Option R)(Dn:Ends):Prop:=match r with
 | none=>False
 | some (.nx e s)=>∀ p' H' σ',Fut p H p' H'->RS K cm p' s H'->RE K p' H' e σ'->Dn.nx σ' H'
 | some (.rt d s)=>∀ p' H' v,Fut p H p' H'->RS K cm p' s H'->RV K p' H' d v->Dn.rt v H'
 | some (.bk e s)=>∀ p' H' σ',Fut p H p' H'->RS K cm p' s H'->RE K p' H' e σ'->Dn.bk σ' H'
 | some (.ct e s)=>∀ p' H' σ',Fut p H p' H'->RS K cm p' s H'->RE K p' H' e σ'->Dn.ct σ' H'
 | some (.xc c fs e s)=>∀ p' H' σ' cls dd,Fut p H p' H'->RS K cm p' s H'->RE K p' H' e σ'->RX K cm p' H' c fs cls dd->W cls dd σ' H'
variable(K cm W) in
def tS(f:C):TS:=λDn σ H=>∃ p e s,RE K p H e σ/\RS K cm p s H/\PoS K cm W p H (f e s) Dn
abbrev JS(X:Cx)(cm:CM)(W:WX)(x:Stmt)(f:C):Prop:=PS X x (tS X.K cm W f)
abbrev JSs(X:Cx)(cm:CM)(W:WX)(x:List Stmt)(f:C):Prop:=PSs X x (tS X.K cm W f)
theorem PoS.fut{p p':List Addr}{H H':Hp}{r:Option R}{Dn:Ends}(h:PoS K cm W p H r Dn)(f:Fut p H p' H'):PoS K cm W p' H' r Dn:=by
 match r,h with
 | some (.nx _ _),h=>exact λp2 H2 v f2=>h p2 H2 v (f.trans f2)
 | some (.rt _ _),h=>exact λp2 H2 v f2=>h p2 H2 v (f.trans f2)
 | some (.bk _ _),h=>exact λp2 H2 v f2=>h p2 H2 v (f.trans f2)
 | some (.ct _ _),h=>exact λp2 H2 v f2=>h p2 H2 v (f.trans f2)
 | some (.xc _ _ _ _),h=>exact λp2 H2 σ' cls dd f2=>h p2 H2 σ' cls dd (f.trans f2)
theorem PoS.ex{α β:Type}{rel:List Addr->Hp->α->β->Prop}{p:List Addr}{H:Hp}{σ:L2.St}{e:Env}{r:Option (Res α)}{k:α->S->Option R}{Dn:Ends}(h:PoS K cm W p H (ex e r k) Dn)(re:RE K p H e σ) :
   Po K cm W rel p σ H r λx H1=>∃ y p1 s1,Fut p H p1 H1/\RS K cm p1 s1 H1/\rel p1 H1 y x/\PoS K cm W p1 H1 (k y s1) Dn:=by
 unfold Fc.ex at h;split at h
 . exact h
 . exact λp1 H1 v f rs r1=>⟨_,p1,_,f,rs,r1,PoS.fut h f⟩
 . exact λp1 H1 cls dd f rs rx=>h p1 H1 σ cls dd f rs (re.mono f) rx
section
variable{X:Cx}{st:Stmt}{rest sts:List Stmt}{a b c:Expr}{fa fb fc:E}{ft:T}{f g:C}{pos:Pos}
theorem yC:JSs X cm W [] yL:=by
 refine pss_nil.imp ?_;rintro D σ H ⟨p,e,s,re,rs,q⟩;exact q p H σ Fut.refl rs re
theorem zF(h:JS X cm W st f):JSs X cm W [st] f:=pss_one h
theorem PoS.seq{p:List Addr}{H:Hp}{e:Env}{s:S}{Dn:Ends}(h:PoS K cm W p H (zG f g e s) Dn):PoS K cm W p H (f e s) { Dn with nx:=tS K cm W g Dn }:=by
 unfold zG at h;split at h
 . rename_i e' s' hf;rw[hf]
   exact λp' H' σ' fu rs re=>⟨p',e',s',re,rs,PoS.fut h fu⟩
 . rename_i r hr
   cases hf:f e s with
   | none=>rw[hf]at h;exact h
   | some r =>
    rw[hf]at h
    cases r with
    | nx e' s'=>exact absurd hf (hr e' s')
    | _=>exact h
theorem zA(h1:JS X cm W st f)(h2:JSs X cm W rest g):JSs X cm W (st::rest) (zG f g):=by
 refine(pss_cons h1 h2).imp ?_;rintro D σ H ⟨p,e,s,re,rs,q⟩;exact⟨p,e,s,re,rs,q.seq⟩
theorem wU(ha:JE X cm W a fa)(hs:swapsWith a none pos.line X.env=pure false:=by rfl):JS X cm W (.Expr a pos) (yE fa):=by
 refine(ps_expr ha hs).imp ?_;rintro D σ H ⟨p,e,s,re,rs,q⟩;refine⟨p,e,s,re,rs,(PoS.ex (rel:=RV X.K) q re).imp ?_⟩;rintro x H1 ⟨y,p1,s1,f,rs1,r1,q⟩;exact q p1 H1 σ Fut.refl rs1 (re.mono f)
theorem yz(ha:JE X cm W a fa):JS X cm W (.Return (some a) pos) (zY fa):=by
 refine(ps_ret ha).imp ?_;rintro D σ H ⟨p,e,s,re,rs,q⟩;refine⟨p,e,s,re,rs,(PoS.ex (rel:=RV X.K) q re).imp ?_⟩;rintro x H1 ⟨y,p1,s1,f,rs1,r1,q⟩;exact q p1 H1 x Fut.refl rs1 r1
theorem xJ(ht:JT X cm W c ft)(h1:JSs X cm W sts f)(h2:JSs X cm W rest g):JS X cm W (.If c sts rest pos) (cIf ft f g):=by
 refine(ps_if ht h1 h2).imp ?_;rintro D σ H ⟨p,e,s,re,rs,q⟩;refine⟨p,e,s,re,rs,(PoS.ex (rel:=rB) q re).imp ?_⟩;rintro x H1 ⟨y,p1,s1,f,rs1,r1,q⟩;obtain rfl:y=x:=r1
 cases y with
 | true=>exact iteT ⟨p1,e,s1,re.mono f,rs1,q⟩
 | false=>exact iteF ⟨p1,e,s1,re.mono f,rs1,q⟩
theorem PoS.set{p:List Addr}{H:Hp}{e:Env}{σ:L2.St}{g:G}{s:S}{Dn:Ends}{vs:List Nat}(h:PoS K cm W p H (zR fa g e s) Dn)(re:RE K p H e σ) :
  Po K cm W (RV K) p σ H (fa e s) λx H1=>tG K cm g vs x σ H1 Dn.nx:=by
 refine(PoS.ex (rel:=RV K) h re).imp ?_;rintro x H1 ⟨y,p1,s1,f,rs1,r1,q⟩
 cases hg:g y e s1 with
 | none=>rw[hg]at q;exact q.elim
 | some e' =>
  rw[hg]at q;exact⟨p1,e,s1,y,e',re.mono f,rs1,r1,hg,λσ' re' _=>q p1 H1 σ' Fut.refl rs1 re'⟩
theorem zmb{tg:Expr}{g:G}{vs:List Nat}(ha:JE X cm W a fa)(hg:JG X cm tg g vs)(hs:swapsWithSole [tg] a pos.line X.env=pure false:=by rfl)(hw:swappedStores [tg] a X.env=pure none:=by rfl)
  (h1:(assignEach [tg] X.env).map (·.2)=[assign tg X.env]:=by rfl):JS X cm W (.Assign [tg] a pos) (zR fa g):=by
 refine(ps_asg ha hg hs hw h1).imp ?_;rintro D σ H ⟨p,e,s,re,rs,q⟩;exact⟨p,e,s,re,rs,q.set re⟩
theorem ziB{p:List Addr}{H:Hp}{e:Env}{s:S}{σ:L2.St}{Q:L2.St->Hp->Prop}{i:Nat}{x:V}(h:tG K cm (gName i) [i] x σ H Q):L2.gName i x σ H Q:=by
 obtain⟨p,e,s,d,e',re,rs,rv,h,q⟩:=h;cases h;refine q _ (re.set i rv) λj hj=>?_;rw[sV (λe=>hj (by simp[e]))]
theorem yV(i:Nat){x:Str}{pos':Pos}(hN:X.N.Nodup)(ha:JE X cm W a fa)(hi:X.N[i]?=some x:=by rfl)(hx:Loc X.env.scope x:=by first | exact Or.inl rfl | exact Or.inr rfl)(hs:swapsWith a (some (.Name x pos')) pos.line X.env=pure false:=by rfl)
  (hf:X.fn x=true\/X.env.scope.names.lookup x=some .local:=by first | exact .inl rfl | exact .inr rfl):JS X cm W (.Assign [.Name x pos'] a pos) (zR fa (gName i)):=by
 refine(ps_set hN hi hx ha hs hf).imp ?_;rintro D σ H ⟨p,e,s,re,rs,q⟩;exact⟨p,e,s,re,rs,(PoS.set q re (vs:=[i])).imp λx H1 h=>ziB (p:=p) (e:=e) (s:=s) h⟩
theorem zgn(i j:Nat){x y:Str}{fl:EL}{px py pt:Pos}{kt k2:Nat}{pt2:Pos}(hc:X.calm=true)(hN:X.N.Nodup)(ha:JA X cm W [a,b] fl)(hi:X.N[i]?=some x:=by rfl)(hj:X.N[j]?=some y:=by rfl)(hij:i≠j:=by decide)
   (hx:X.env.scope.names.lookup x=some .local:=by rfl) (hy:X.env.scope.names.lookup y=some .local:=by rfl)
   (hw:swappedStores [.Tuple [.Name x px,.Name y py] kt pt] (.Tuple [a,b] k2 pt2) X.env=pure (some [x,y]):=by rfl)
   (hs:swapsWithSole [.Tuple [.Name x px,.Name y py] kt pt] (.Tuple [a,b] k2 pt2) pos.line X.env=pure false:=by rfl) :
   JS X cm W (.Assign [.Tuple [.Name x px,.Name y py] kt pt] (.Tuple [a,b] k2 pt2) pos) (zda i j fl):=by
 refine(ps_par hc hN hi hj hij hx hy ha hw hs).imp ?_;rintro D σ H ⟨p,e,s,re,rs,q⟩;refine⟨p,e,s,re,rs,(PoS.ex (rel:=RVs X.K) q re).imp ?_⟩;rintro xs H1 ⟨ds,p1,s1,f,rs1,r1,q⟩;split at q
 . obtain⟨u,v,rfl,ru,rv⟩:=ziE r1;exact⟨u,v,rfl,q p1 H1 _ Fut.refl rs1 (((re.mono f).set i ru).set j rv)⟩
 . exact q.elim
def SI(X:Cx)(cm:CM)(op:Operator)(f:D->D->M D):Prop:=∃ r:TIp,PIp X op r/\∀(W:WX) p s σ H x y dx dy Q,RS X.K cm p s H->RV X.K p H dx x->RV X.K p H dy y->Po X.K cm W (RV X.K) p σ H (f dx dy s) Q->r x y H Q
theorem zpH{op:Operator}{r:R2}{f:D->D->M D}(h:OpR X (inplaceOp op) r)(h2:∀(W:WX) p s σ H x y dx dy Q,RS X.K cm p s H->RV X.K p H dx x->RV X.K p H dy y->Po X.K cm W (RV X.K) p σ H (f dx dy s) Q->r x y H Q):SI X cm op f :=
 ⟨r,λpins s σ H x y v u Q I rx ry q=>h pins s σ H x y v u Q I rx ry q,h2⟩
def zcy:D->D->M D:=λx y s=>match x,y with
 | .int i,.int j=>some (.ok (.int (i+j)) s)
 | .str a,.str b=>if sz (a.length+b.length)then some (.ok (.str (a++b)) s)else none
 | _,_=>none
theorem zjl:SI X cm .Add zcy:=by
 refine zpH (iop_add.or iop_add_str) λW p s σ H x y dx dy Q rs rx ry q=>?_;unfold zcy at q;split at q
 . exact .inl ⟨_,_,yo rx,yo ry,Po.ok q rs (xQ _)⟩
 . split at q
   . rename_i h;exact .inr ⟨_,_,xq rx,xq ry,zbI h,Po.ok q rs (uN _)⟩
   . exact q.elim
 . exact q.elim
theorem set_dict(hu:X.A.units+1<cLine):PSet X (λo i v H Q=>∃ a H4,o=.ref a/\DPut H a i v H4/\Q H4):=by
 intro pins s σ H o i v ov iv u Q I ro ri rv h;obtain⟨a,H4,rfl,g,q⟩:=h;cases (show ov=Value.ref a from ro)
 exact d_setItem hu I g ri rv λs4 I4=>⟨H4,I4,q⟩
theorem RKs.putK{κ:Type}[DecidableEq κ]{p:List Addr}{H:Hp}(k:κ){d:D}{v:V}(rv:RV K p H d v){ds:List (κ×D)}{vs:List (κ×V)}(r:RKs K p H ds vs):RKs K p H (kput ds k d) (L2.putK vs k v):=by
 have hany:∀{ds:List (κ×D)}{vs:List (κ×V)},RKs K p H ds vs->(ds.any λkv=>decide (kv.1=k))=vs.any λkv=>decide (kv.1=k):=by
   intro ds
   induction ds with
   | nil=>intro vs r;simp only[RKs]at r;rw[r];rfl
   | cons x ds ih =>
    intro vs r;simp only[RKs]at r;obtain⟨w,r',rfl,r1,r2⟩:=r;simp only[List.any_cons,ih r2]
 have hmap:∀{ds:List (κ×D)}{vs:List (κ×V)},RKs K p H ds vs->RKs K p H (ds.map λkv=>if kv.1=k then (kv.1,d)else kv) (vs.map λkv=>if kv.1=k then (kv.1,v)else kv):=by
   intro ds
   induction ds with
   | nil=>intro vs r;simp only[RKs]at r;rw[r];simp[RKs]
   | cons x ds ih =>
    intro vs r;simp only[RKs]at r;obtain⟨w,r',rfl,r1,r2⟩:=r;simp only[tM];by_cases hk:x.1=k
    . rw[if_pos hk,if_pos hk];simp only[RKs];exact⟨v,_,rfl,rv,ih r2⟩
    . rw[if_neg hk,if_neg hk];simp only[RKs];exact⟨w,_,rfl,r1,ih r2⟩
 have happ:∀{ds:List (κ×D)}{vs:List (κ×V)},RKs K p H ds vs->RKs K p H (ds++[(k,d)]) (vs++[(k,v)]):=by
   intro ds
   induction ds with
   | nil=>intro vs r;simp only[RKs]at r;rw[r];simp only[qu,RKs];exact⟨v,[],rfl,rv,rfl⟩
   | cons x ds ih =>
    intro vs r;simp only[RKs]at r;obtain⟨w,r',rfl,r1,r2⟩:=r;simp only[List.cons_append,RKs];exact⟨w,_,rfl,r1,ih r2⟩
 unfold kput L2.putK;rw[hany r];split
 . exact hmap r
 . exact happ r
theorem zlb{p:List Addr}{s:S}{H:Hp}{n:Nat}{a:Addr}{o o':O}{k d:D}{y v:V}(rs:RS K cm p s H)(ha:p[n]?=some a)(h:s[n]?=some o)(rk:RV K p H k y)(rv:RV K p H d v)(e:dput o k d=some o') :
   ∃ u,DPut H a y v (upd H a u)/\Fut p H p (upd H a u)/\RS K cm p (s.set n o') (upd H a u):=by
 obtain⟨b,hb,q⟩:=rs.at h;rw[ha]at hb;cases hb;unfold dput at e;split at e
 . rename_i kvs;split at e
   . rename_i hl;obtain⟨k',e1,rfl⟩:=tY.mp e;obtain⟨u,hu,ws,rfl,c⟩:=q;have ek:=zfl e1 rk;subst ek;obtain⟨f,rs'⟩:=rs.put (o:=.dK (kput kvs k' d)) (u:=.dK (L2.putK ws k' v)) ha hu trivial ⟨_,rfl,c.putK k' rv⟩;exact⟨_,DPut.k hu (by rw[← c.length,sizeLine_eq];exact hl),f,rs'⟩
   . cases e
 . rename_i kvs;split at e
   . rename_i hl;split at e
     . rename_i ds;obtain⟨k',e1,rfl⟩:=tY.mp e;obtain⟨u,hu,ws,rfl,c⟩:=q;obtain⟨t,vs,rfl,ht,rr⟩:=xV rk;have ek:=zef e1 rr;subst ek;obtain⟨f,rs'⟩:=rs.put (o:=.dT (kput kvs k' d)) (u:=.dT (L2.putK ws k' v)) ha hu trivial ⟨_,rfl,c.putK k' rv⟩;exact⟨_,DPut.t hu ht (by rw[← c.length,sizeLine_eq];exact hl),f,rs'⟩
     . cases e
   . cases e
 . cases e
theorem zdz{k:Nat}{pos':Pos}(hr:Room k X.A)(hb:JE X cm W b fb)(hc:JE X cm W c fc)(ha:JE X cm W a fa)
   (hsub:∀ v,assign (.Subscript b c pos') X.env v=(do
     let ov ← holding [v] (eval b X.env)
     let iv ← holding [v,ov] (eval c X.env)
     standAt pos'
     holding [v,ov,iv] (setItem ov iv v)
     release [v,ov,iv] []):=by intro _;rfl)
   (hs:swapsWithSole [.Subscript b c pos'] a pos.line X.env=pure false:=by rfl) (hw:swappedStores [.Subscript b c pos'] a X.env=pure none:=by rfl)
   (h1:(assignEach [.Subscript b c pos'] X.env).map (·.2)=[assign (.Subscript b c pos') X.env]:=by rfl):JS X cm W (.Assign [.Subscript b c pos'] a pos) (zaf fb fc fa):=by
 refine(ps_asg ha (pg_sub hb hc (set_list.or (set_dict (hu_of hr))) hsub) hs hw h1).imp ?_;rintro D σ H ⟨p,e,s,re,rs,q⟩;refine⟨p,e,s,re,rs,(PoS.ex (rel:=RV X.K) q re).imp ?_⟩;rintro v H1 ⟨d1,p1,s1,f1,rs1,r1,q1⟩;refine⟨p1,e,s1,re.mono f1,rs1,(PoS.ex (rel:=RV X.K) q1 (re.mono f1)).imp ?_⟩;rintro o H2 ⟨d2,p2,s2,f2,rs2,r2,q2⟩;refine⟨p2,e,s2,(re.mono f1).mono f2,rs2,(PoS.ex (rel:=RV X.K) q2 ((re.mono f1).mono f2)).imp ?_⟩;rintro i H3 ⟨d3,p3,s3,f3,rs3,r3,q3⟩;have re3:=((re.mono f1).mono f2).mono f3;have r1':=(r1.mono f2).mono f3;have r2':=r2.mono f3;split at q3
 . rename_i n;split at q3
   . rename_i ds h;split at q3
     . rename_i kk;obtain⟨t,vs,rfl,hp,hH,rr⟩:=yu rs3 r2' h
       cases hj:ixN ds.length kk with
       | none=>rw[hj]at q3;exact q3.elim
       | some j =>
        rw[hj]at q3;obtain⟨f,rs'⟩:=rs3.put (o:=.lst (ds.set j d1)) (u:=.lst (vs.set j v)) hp hH trivial ⟨_,rfl,rr.set j r1'⟩;exact .inl ⟨t,vs,kk,j,rfl,yo r3,hH,by rw[← rr.length];exact hj,q3 p3 _ σ f rs' (re3.mono f)⟩
     . exact q3.elim
   . rename_i o' h0 h
     cases hd:dput o' d3 d1 with
     | none=>rw[hd]at q3;exact q3.elim
     | some o2 =>
       rw[hd]at q3;simp only[RV]at r2';obtain⟨t,ht,rfl⟩:=r2';obtain⟨u,g,f,rs'⟩:=zlb rs3 ht h r3 r1' hd;exact .inr ⟨t,_,rfl,g,q3 p3 _ σ f rs' (re3.mono f)⟩
   . exact q3.elim
 . exact q3.elim
theorem RKs.putF{p:List Addr}{H:Hp}(f:Str){d:D}{v:V}(rv:RV K p H d v):∀{ds:List (Str×D)}{vs:List (Str×V)},RKs K p H ds vs->RKs K p H (fput f d ds) (L2.putF f v vs)
 | [],vs,r=>by
  simp only[RKs]at r;subst r;simp only[fput,L2.putF,RKs];exact⟨v,[],rfl,rv,rfl⟩
 | (g,x)::ds,vs,r=>by
  simp only[RKs]at r;obtain⟨w,r',rfl,r1,r2⟩:=r;unfold fput L2.putF;by_cases hk:g=f
  . rw[if_pos hk,if_pos hk];simp only[RKs];exact⟨v,r',rfl,rv,r2⟩
  . rw[if_neg hk,if_neg hk];simp only[RKs];exact⟨w,_,rfl,r1,RKs.putF f rv r2⟩
theorem zkF{f:Str}{pos':Pos}(T:FldOk X.K cm f)(hb:JE X cm W b fb)(ha:JE X cm W a fa)(hs:swapsWith a (some (.Attribute b f pos')) pos.line X.env=pure false:=by rfl):JS X cm W (.Assign [.Attribute b f pos'] a pos) (zmG f fb fa):=by
 refine(ps_fld hb ha hs).imp ?_;rintro D σ H ⟨p,e,s,re,rs,q⟩;refine⟨p,e,s,re,rs,(PoS.ex (rel:=RV X.K) q re).imp ?_⟩;rintro v H1 ⟨d1,p1,s1,f1,rs1,r1,q1⟩;refine⟨p1,e,s1,re.mono f1,rs1,(PoS.ex (rel:=RV X.K) q1 (re.mono f1)).imp ?_⟩;rintro o H2 ⟨d2,p2,s2,f2,rs2,r2,q2⟩;split at q2
 . rename_i n;split at q2
   . rename_i c fs h;split at q2
     . rename_i hl;simp only[RV]at r2;obtain⟨t,ht,rfl⟩:=r2;obtain⟨t',ht',u,hu,C,dx,gs,hC,rfl,rk⟩:=rs2.at h;rw[ht]at ht';cases ht';obtain⟨k1,k2⟩:=T.ins c C hC;obtain⟨fu,rs'⟩:=rs2.put (o:=.ins c (fput f d1 fs)) (u:=.ins C dx (L2.putF f v gs)) ht hu trivial ⟨C,dx,_,hC,rfl,rk.putF f (r1.mono f2)⟩
       have hlen:gs.length<1000:=by rw[← rk.length];omega
       exact⟨t,C,dx,gs,rfl,hu,k1,k2,hlen,q2 p2 _ σ fu rs' (((re.mono f1).mono f2).mono fu)⟩
     . exact q2.elim
   . exact q2.elim
 . exact q2.elim
end
end Fc
namespace Fc
open PySem PySem.Spec PyProof.Rows L2
variable{K:pX}{cm:CM}{W:WX}
def NF(X:Cx)(d:Addr):Prop:=∀ o' u',X.H_0 d≠some (.frz o' u')
def Ul(X:Cx)(P:Hp->Prop)(H':Hp):Prop:=P H'\/∃ d od u,H' d=some (.frz od u)/\NF X d/\P (upd H' d u)
section
variable{X:Cx}{e:Expr}{te:TE}{st:Stmt}{t:TS}
theorem zfw(h:PE X e te):PE X e (λσ H Q=>te σ H λx H1=>Q x H1\/∃ d u,H1 d=some u/\Mut (some u)/\∀ od,NF X d->Q x (upd H1 d (.frz od u))):=by
 refine⟨λpins s σ H Q I q=>thn (h.run pins s σ H _ I q) ?_⟩;rintro v s1 ⟨x,H1,I1,r,q | ⟨d,u,h1,mu,q⟩⟩
 . exact⟨x,H1,I1,r,q⟩
 . obtain⟨od,I2⟩:=I1.lock h1 mu;exact⟨x,_,I2,r,q od (I1.nofrz h1 mu)⟩
theorem zdJ{pins:List (Addr×Obj)}{σ:L2.St}{H:Hp}{s:Shared}{P:Hp->Prop}(I:Inv X pins σ H s)(h:Ul X P H):∃ H',Inv X pins σ H' s/\P H':=by
 rcases h with h | ⟨d,od,u,h1,nf,h⟩
 . exact⟨H,I,h⟩
 . exact⟨_,I.unlock h1 nf,h⟩
theorem zgk(h:PE X e te):PE X e (λσ H Q=>te σ H λx H1=>Ul X (Q x) H1):=by
 refine⟨λpins s σ H Q I q=>thn (h.run pins s σ H _ I q) ?_⟩;rintro v s1 ⟨x,H1,I1,r,q⟩;obtain⟨H2,I2,q⟩:=zdJ I1 q;exact⟨x,H2,I2,r,q⟩
def ulE(X:Cx)(D:Ends):Ends:=⟨λσ=>Ul X (D.nx σ),λv=>Ul X (D.rt v),λσ=>Ul X (D.bk σ),λσ=>Ul X (D.ct σ)⟩
theorem zce(h:PS X st t):PS X st (λD σ H=>t (ulE X D) σ H):=by
 refine⟨λpins s σ H D I q=>thn (h.run pins s σ H _ I q) ?_⟩;intro f s1 q
 cases f with
 | next =>
  obtain⟨σ',H1,I1,q⟩:=q;obtain⟨H2,I2,q⟩:=zdJ I1 q;exact⟨σ',H2,I2,q⟩
 | brk =>
  obtain⟨σ',H1,I1,q⟩:=q;obtain⟨H2,I2,q⟩:=zdJ I1 q;exact⟨σ',H2,I2,q⟩
 | cont =>
  obtain⟨σ',H1,I1,q⟩:=q;obtain⟨H2,I2,q⟩:=zdJ I1 q;exact⟨σ',H2,I2,q⟩
 | ret u =>
  obtain⟨v,σ',H1,I1,r,q⟩:=q;obtain⟨H2,I2,q⟩:=zdJ I1 q;exact⟨v,σ',H2,I2,r,q⟩
end
structure WalkD(K:pX)(cm:CM)(J:It)(ds:List D)(G:List Addr->Hp->Prop):Prop where
 go:∀ p H i,G p H->i<ds.length->J.go i H
 st:∀ p H,G p H->J.stop ds.length H
 yl:∀ p H s i x H',G p H->RS K cm p s H->i<ds.length->J.yld i H x H'->∃ d,ds[i]?=some d/\Fut p H p H'/\RS K cm p s H'/\RV K p H' d x
 fu:∀ p H p' H',G p H->Fut p H p' H'->G p' H'
def Drv(X:Cx)(cm:CM)(sk:SK)(p:List Addr)(H:Hp)(s:S)(R:It->Hp->Prop):Prop:=match sk with
 | .vals ds=>∀ J G,WalkD X.K cm J ds G->G p H->R J H
 | .list n k=>(∃ ds,s[n]?=some (.lst ds)/\ds.length=k)->∀ a,p[n]?=some a->R (Itl X.K a) H
 | .dict n ds=>match s[n]? with
  | some (.lck o)=>∀ J G,WalkD X.K cm J ds G->G p H->R J H
  | some o=>∀ a u od J G,p[n]?=some a->H a=some u->Mut (some u)->RC X.K cm p H a o u->NF X a->(∀ ys,u≠.lst ys)->WalkD X.K cm J ds G->G p (upd H a (.frz od u))->R J (upd H a (.frz od u))
  | none=>False
def PoI(X:Cx)(cm:CM)(W:WX)(p:List Addr)(σ:L2.St)(H:Hp)(r:Option (Res SK))(R:It->Hp->Prop):Prop:=match r with
 | none=>False
 | some (.ok sk s1)=>∀ p1 H1,Fut p H p1 H1->RS X.K cm p1 s1 H1->Drv X cm sk p1 H1 s1 R
 | some (.exc c fs s')=>∀ p' H' cls dd,Fut p H p' H'->RS X.K cm p' s' H'->RX X.K cm p' H' c fs cls dd->W cls dd σ H'
def JI(X:Cx)(cm:CM)(W:WX)(tg iter:Expr)(src:SrcE):Prop:=∃ wi:TI,PI X tg iter wi/\∀ p e s σ H R,RE X.K p H e σ->RS X.K cm p s H->PoI X cm W p σ H (src e s) R->wi σ H R
section
variable{X:Cx}{tg a b:Expr}{fa:E}{pos:Pos}
theorem ziN{a:Addr}{vs:List V}{ds:List D}:WalkD K cm (Itt K a) ds (λp H=>H a=some (.tup vs)/\RVs K p H ds vs) where
 go:=λp H i ⟨h,r⟩ hi=>⟨vs,vs[i]'(by rw[← r.length];exact hi),SqT.of h,by simp[← r.length,hi]⟩
 st:=λp H ⟨h,r⟩=>⟨vs,SqT.of h,by rw[← r.length];exact tX _⟩
 yl:=λp H s i x H' ⟨h,r⟩ rs hi ⟨e,y⟩=>by
  subst e
  have e1:ds[i]?=some ds[i]:=by simp[hi]
  obtain⟨v,h1,h2⟩:=r.get e1;have:=y vs (SqT.of h);rw[h1]at this;cases this;exact⟨ds[i],e1,Fut.refl,rs,h2⟩
 fu:=λp H p' H' ⟨h,r⟩ f=>⟨f.tup _ _ h,r.mono f⟩
theorem ziM{a:Addr}{vs:List V}{ds:List D}:WalkD K cm (Itt K a) ds (λp H=>StT K a vs/\RVs K p H ds vs) where
 go:=λp H i ⟨h,r⟩ hi=>⟨vs,vs[i]'(by rw[← r.length];exact hi),h.sq,by simp[← r.length,hi]⟩
 st:=λp H ⟨h,r⟩=>⟨vs,h.sq,by rw[← r.length];exact tX _⟩
 yl:=λp H s i x H' ⟨h,r⟩ rs hi ⟨e,y⟩=>by
  subst e
  have e1:ds[i]?=some ds[i]:=by simp[hi]
  obtain⟨v,h1,h2⟩:=r.get e1;have:=y vs h.sq;rw[h1]at this;cases this;exact⟨ds[i],e1,Fut.refl,rs,h2⟩
 fu:=λp H p' H' ⟨h,r⟩ f=>⟨h,r.mono f⟩
theorem ziL{z:Str}:WalkD K cm (Its z) (signs z) (λ_ _=>True) where
 go:=λp H i _ hi=>by
  have h:=hi;simp[signs]at h;exact h
 st:=λp H _=>by simp[signs,Its]
 yl:=λp H s i x H' _ rs hi ⟨e,c,hc,y⟩=>by
  subst e;refine⟨.str ⟨#[c]⟩,?_,Fut.refl,rs,by rw[y];exact uN _⟩;unfold signs;rw[sX,pH,hc];rfl
 fu:=λ_ _ _ _ _ _=>True.intro
theorem zeO{i j:Int}:WalkD K cm (Itr i (j - i).toNat) (yP i j) (λ_ _=>True) where
 go:=λp H k _ hk=>by
  have h:=hk;simp only[yP,tR,List.length_range]at h;exact h
 st:=λp H _=>by
  show _<=_;simp only[yP,tR,List.length_range];omega
 yl:=λp H s k x H' _ rs hk ⟨e,y⟩=>by
  subst e;refine⟨.int (i+(k:Int)),?_,Fut.refl,rs,by rw[y];exact xQ _⟩
  have hk':k<(j - i).toNat:=by simpa[yP]using hk
  unfold yP;rw[sX,List.getElem?_range hk'];rfl
 fu:=λ_ _ _ _ _ _=>True.intro
theorem zfD{p:List Addr}{H:Hp}(k:Key):RV K p H (dOf k) (kV k):=by
 cases k with
 | inl i=>exact xQ i
 | inr x=>exact uN x
theorem RKs.at{κ:Type}{p:List Addr}{H:Hp}:∀{ds:List (κ×D)}{vs:List (κ×V)}{i:Nat}{k:κ}{v:V},RKs K p H ds vs->vs[i]?=some (k,v)->∃ d,ds[i]?=some (k,d)/\RV K p H d v
 | [],vs,i,k,v,r,e=>by simp only[RKs]at r;rw[r]at e;simp at e
 | x::ds,vs,i,k,v,r,e=>by
  simp only[RKs]at r;obtain⟨w,r',rfl,r1,r2⟩:=r
  cases i with
  | zero =>
   simp at e;obtain⟨rfl,rfl⟩:=e;exact⟨x.2,rfl,r1⟩
  | succ i =>
   obtain⟨d,h1,h2⟩:=RKs.at r2 (by simpa using e);exact⟨d,by simpa using h1,h2⟩
theorem zcn{d:Addr}{o:Obj}{ws:List (Key×V)}{kvs:List (Key×D)}:WalkD K cm (Itk d o ws) (kvs.map λkv=>dOf kv.1) (λp H=>H d=some (.frz o (.dK ws))/\RKs K p H kvs ws) where
 go:=λp H i ⟨h,r⟩ hi=>⟨h,by rw[← r.length];simpa using hi⟩
 st:=λp H ⟨h,r⟩=>⟨h,by rw[← r.length];simp⟩
 yl:=λp H s i x H' ⟨h,r⟩ rs hi ⟨e,k,v,h1,y⟩=>by
  subst e;obtain⟨d',h2,_⟩:=r.at h1;exact⟨dOf k,by rw[sX,h2];rfl,Fut.refl,rs,by rw[y];exact zfD k⟩
 fu:=λp H p' H' ⟨h,r⟩ f=>⟨f.frz _ _ _ h,r.mono f⟩
theorem zey{p:List Addr}{H:Hp}:∀ ks:List Key,RVs K p H (ks.map dOf) (ks.map kV)
 | []=>by simp[RVs]
 | k::ks=>by
  simp only[tM,RVs];exact⟨_,_,rfl,zfD k,zey ks⟩
theorem zeN{d:Addr}{o:Obj}{ws:List (List Key×V)}{kvs:List (List Key×D)}:WalkD K cm (Itkt d o ws) (kvs.map λkv=>.tup (kv.1.map dOf)) (λp H=>H d=some (.frz o (.dT ws))/\RKs K p H kvs ws) where
 go:=λp H i ⟨h,r⟩ hi=>⟨h,by rw[← r.length];simpa using hi⟩
 st:=λp H ⟨h,r⟩=>⟨h,by rw[← r.length];simp⟩
 yl:=λp H s i x H' ⟨h,r⟩ rs hi ⟨e,k,v,q,h1,y,h3⟩=>by
  subst e;obtain⟨d',h2,_⟩:=r.at h1;refine⟨.tup (k.map dOf),by rw[sX,h2];rfl,Fut.refl,rs,?_⟩;rw[y];exact zam h3 (zey k)
 fu:=λp H p' H' ⟨h,r⟩ f=>⟨f.frz _ _ _ h,r.mono f⟩
theorem zgz{d:Addr}{o:Obj}{ws:List (Key×V)}{kvs:List (Key×D)}:WalkD K cm (Itd d o ws) (kvs.map (·.2)) (λp H=>H d=some (.frz o (.dK ws))/\RKs K p H kvs ws) where
 go:=λp H i ⟨h,r⟩ hi=>⟨h,by rw[← r.length];simpa using hi⟩
 st:=λp H ⟨h,r⟩=>⟨h,by rw[← r.length];simp⟩
 yl:=λp H s i x H' ⟨h,r⟩ rs hi ⟨e,k,h1⟩=>by
  subst e;obtain⟨d',h2,rv⟩:=r.at h1;exact⟨d',by rw[sX,h2];rfl,Fut.refl,rs,rv⟩
 fu:=λp H p' H' ⟨h,r⟩ f=>⟨f.frz _ _ _ h,r.mono f⟩
theorem zeM{d:Addr}{o:Obj}{ws:List (Key×V)}{kvs:List (Key×D)}:WalkD K cm (Iti d o ws) (kvs.map pairD) (λp H=>H d=some (.frz o (.dK ws))/\RKs K p H kvs ws) where
 go:=λp H i ⟨h,r⟩ hi=>⟨h,by rw[← r.length];simpa using hi⟩
 st:=λp H ⟨h,r⟩=>⟨h,by rw[← r.length];simp⟩
 yl:=λp H s i x H' ⟨h,r⟩ rs hi ⟨t,k,v,h1,y,h3,e⟩=>by
  subst e;obtain⟨d',h2,rv⟩:=r.at h1;have sm:=vm (u:=HO.tup [kV k,v]) h3;refine⟨pairD (k,d'),by rw[sX,h2];rfl,Fut.same sm,rs.same sm,?_⟩;rw[y];refine zam upd_same ?_;simp only[RVs];exact⟨_,_,rfl,zfD k,_,_,rfl,rv.mono (Fut.same sm),rfl⟩
 fu:=λp H p' H' ⟨h,r⟩ f=>⟨f.frz _ _ _ h,r.mono f⟩
theorem Fut0.lock{p:List Addr}{H:Hp}{a:Addr}{u:HO}{od:Obj}(h:H a=some u)(mu:Mut (some u)):Fut p H p (upd H a (.frz od u)):=Fut.put h mu
theorem dwalk{k:Src}{o:O}{ds:List D}{u:HO}{p:List Addr}{H H':Hp}{a:Addr}{od:Obj}(e:zcU k o=some ds)(c:RC K cm p H a o u)(f:Fut0 p H p H')(h:H' a=some (.frz od u)) :
   ((k=.seq\/k=.keys)/\((∃ ws,u=.dK ws/\∃ G,WalkD K cm (Itk a od ws) ds G/\G p H')\/(k=.seq/\∃ ws,u=.dT ws/\∃ G,WalkD K cm (Itkt a od ws) ds G/\G p H'))) \/
   (k=.items/\∃ ws,u=.dK ws/\∃ G,WalkD K cm (Iti a od ws) ds G/\G p H')\/(k=.vals/\∃ ws,u=.dK ws/\∃ G,WalkD K cm (Itd a od ws) ds G/\G p H'):=by
 unfold zcU at e;split at e
 . cases e;obtain⟨ws,rfl,c⟩:=c;exact .inl ⟨.inr rfl,.inl ⟨ws,rfl,_,zcn,h,c.yG f⟩⟩
 . cases e
 . cases e;obtain⟨ws,rfl,c⟩:=c;exact .inl ⟨.inl rfl,.inl ⟨ws,rfl,_,zcn,h,c.yG f⟩⟩
 . cases e;obtain⟨ws,rfl,c⟩:=c;exact .inl ⟨.inl rfl,.inr ⟨rfl,ws,rfl,_,zeN,h,c.yG f⟩⟩
 . cases e;obtain⟨ws,rfl,c⟩:=c;exact .inr (.inl ⟨rfl,ws,rfl,_,zeM,h,c.yG f⟩)
 . cases e;obtain⟨ws,rfl,c⟩:=c;exact .inr (.inr ⟨rfl,ws,rfl,_,zgz,h,c.yG f⟩)
 . cases e
def DW(k:Src)(a:Addr)(od:Obj)(u:HO)(R:It->Hp->Prop)(H':Hp):Prop :=
 ((k=.seq\/k=.keys)/\((∃ ws,u=.dK ws/\R (Itk a od ws) H')\/(k=.seq/\∃ ws,u=.dT ws/\R (Itkt a od ws) H'))) \/
  (k=.items/\∃ ws,u=.dK ws/\R (Iti a od ws) H')\/(k=.vals/\∃ ws,u=.dK ws/\R (Itd a od ws) H')
theorem zgT{k:Src}{o:O}{ds:List D}{u:HO}{p:List Addr}{H H':Hp}{a:Addr}{od:Obj}{R:It->Hp->Prop}(e:zcU k o=some ds)(c:RC K cm p H a o u)(f:Fut0 p H p H')(h:H' a=some (.frz od u))
   (q:∀ J G,WalkD K cm J ds G->G p H'->R J H'):DW k a od u R H':=by
 rcases dwalk e c f h with ⟨h1,⟨ws,h2,G,h3,h4⟩ | ⟨h5,ws,h2,G,h3,h4⟩⟩ | ⟨h1,ws,h2,G,h3,h4⟩ | ⟨h1,ws,h2,G,h3,h4⟩
 . exact .inl ⟨h1,.inl ⟨ws,h2,q _ _ h3 h4⟩⟩
 . exact .inl ⟨h1,.inr ⟨h5,ws,h2,q _ _ h3 h4⟩⟩
 . exact .inr (.inl ⟨h1,ws,h2,q _ _ h3 h4⟩)
 . exact .inr (.inr ⟨h1,ws,h2,q _ _ h3 h4⟩)
theorem zaH{k:Src}{o:O}{ds:List D}{u:HO}{p:List Addr}{H:Hp}{a:Addr}(e:zcU k o=some ds)(c:RC K cm p H a o u):Mut (some u):=by
 unfold zcU at e
 split at e <;> first
  | (cases e;done)
  | (obtain⟨ws,rfl,_⟩:=c;exact True.intro)
theorem zcr{k:Src}{o:O}{ds:List D}{u:HO}{p:List Addr}{H:Hp}{a:Addr}(e:zcU k o=some ds)(c:RC K cm p H a o u):∀ ys,u≠.lst ys:=by
 unfold zcU at e
 split at e <;> first
  | (cases e;done)
  | (obtain⟨ws,rfl,_⟩:=c;exact λys z=>by cases z)
theorem zke{k:Src}{n:Nat}{o:O}{ds:List D}{p:List Addr}{H:Hp}{s:S}{v:V}{R:It->Hp->Prop}(hs:s[n]?=some o)(e:zcU k (unl o)=some ds)(rs:RS X.K cm p s H)(rv:RV X.K p H (.ref n) v)(q:Drv X cm (.dict n ds) p H s R) :
  ∃ a,v=.ref a/\((∃ od u,H a=some (.frz od u)/\DW k a od u R H)\/∃ u,H a=some u/\Mut (some u)/\∀ od,NF X a->DW k a od u R (upd H a (.frz od u))):=by
 simp only[RV]at rv;obtain⟨a,ha,rfl⟩:=rv;obtain⟨b,hb,hr⟩:=rs.at hs;rw[ha]at hb;cases hb;refine⟨a,rfl,?_⟩;simp only[Drv,hs]at q
 cases o with
 | lck o' =>
  obtain⟨od,u,e1,_,c⟩:=hr;exact .inl ⟨od,u,e1,zgT e c Fut.refl.toFut0 e1 q⟩
 | err _ _=>simp[unl,zcU]at e
 | lst _ =>
  obtain⟨u,e1,c⟩:=hr;have mu:=zaH e c;exact .inr ⟨u,e1,mu,λod nf=>zgT e c (Fut0.lock e1 mu).toFut0 upd_same λJ G w g=>q a u od J G ha e1 mu c nf (zcr e c) w g⟩
 | dK _ =>
  obtain⟨u,e1,c⟩:=hr;have mu:=zaH e c;exact .inr ⟨u,e1,mu,λod nf=>zgT e c (Fut0.lock e1 mu).toFut0 upd_same λJ G w g=>q a u od J G ha e1 mu c nf (zcr e c) w g⟩
 | dT _ =>
  obtain⟨u,e1,c⟩:=hr;have mu:=zaH e c;exact .inr ⟨u,e1,mu,λod nf=>zgT e c (Fut0.lock e1 mu).toFut0 upd_same λJ G w g=>q a u od J G ha e1 mu c nf (zcr e c) w g⟩
 | dN _=>simp[unl,zcU]at e
 | ins _ _ =>
  obtain⟨u,e1,c⟩:=hr;have mu:=zaH e c;exact .inr ⟨u,e1,mu,λod nf=>zgT e c (Fut0.lock e1 mu).toFut0 upd_same λJ G w g=>q a u od J G ha e1 mu c nf (zcr e c) w g⟩
theorem PoI.cases{k:Src}{p:List Addr}{σ:L2.St}{H:Hp}{e:Env}{s:S}{R:It->Hp->Prop}(q:PoI X cm W p σ H (yd k fa e s) R) :
  (∃ c fs s',fa e s=some (.exc c fs s')/\∀ Q:VK,Po X.K cm W (RV X.K) p σ H (fa e s) Q)\/∃ d s1 sk,fa e s=some (.ok d s1)/\srcOf k d s1=some sk/\∀ p1 H1,Fut p H p1 H1->RS X.K cm p1 s1 H1->Drv X cm sk p1 H1 s1 R:=by
 unfold yd bnd at q
 cases h:fa e s with
 | none=>rw[h]at q;exact q.elim
 | some r =>
  rw[h]at q
  cases r with
  | exc c fs s'=>exact .inl ⟨c,fs,s',rfl,λQ=>q⟩
  | ok d s1 =>
   cases hs:srcOf k d s1 with
   | none=>simp only[hs]at q;exact q.elim
   | some sk =>
    simp only[hs]at q;exact .inr ⟨d,s1,sk,rfl,hs,q⟩
theorem yX(ha:JE X cm W a fa):JI X cm W tg a (yd .seq fa):=by
 refine⟨_,(pi_list ha).or ((pi_tup ha).or ((pi_str ha).or (pi_keys (zfw ha)))),?_⟩;intro p e s σ H R re rs q
 rcases PoI.cases q with ⟨c,fs,s',h,q⟩ | ⟨d,s1,sk,h,hs,q⟩
 . exact .inl ⟨p,e,s,re,rs,q _⟩
 . unfold srcOf at hs;split at hs
   . rename_i ds;cases hs;refine .inr (.inl ⟨p,e,s,re,rs,?_⟩);rw[h];intro p1 H1 v f rs1 rv;obtain⟨t,vs,rfl,h1,rr⟩:=xV rv;exact⟨t,rfl,⟨vs,SqT.of h1⟩,q p1 H1 f rs1 _ _ ziN ⟨h1,rr⟩⟩
   . rename_i ds;cases hs;refine .inr (.inl ⟨p,e,s,re,rs,?_⟩);rw[h];intro p1 H1 v f rs1 rv;simp only[RV]at rv;obtain⟨t,vs,rfl,h1,rr⟩:=rv;exact⟨t,rfl,⟨vs,h1.sq⟩,q p1 H1 f rs1 _ _ ziM ⟨h1,rr⟩⟩
   . rename_i z;cases hs;refine .inr (.inr (.inl ⟨p,e,s,re,rs,?_⟩));rw[h];intro p1 H1 v f rs1 rv;exact⟨z,xq rv,q p1 H1 f rs1 _ _ ziL True.intro⟩
   . rename_i n;split at hs
     . rename_i ds hn;cases hs;refine .inl ⟨p,e,s,re,rs,?_⟩;rw[h];intro p1 H1 v f rs1 rv;obtain⟨t,vs,rfl,hp,h1,rr⟩:=yu rs1 rv hn;exact⟨t,rfl,⟨vs,SqL.of h1⟩,q p1 H1 f rs1 ⟨ds,hn,rfl⟩ t hp⟩
     . rename_i o hn;obtain⟨ds,e1,rfl⟩:=tY.mp hs;refine .inr (.inr (.inr ⟨p,e,s,re,rs,?_⟩));rw[h];intro p1 H1 v f rs1 rv;obtain⟨t,rfl,⟨od,u,h1,dw⟩ | ⟨u,h1,mu,dw⟩⟩:=zke ‹_› e1 rs1 rv (q p1 H1 f rs1)
       . refine .inl ⟨t,od,rfl,?_⟩
         rcases dw with ⟨_,⟨ws,rfl,z⟩ | ⟨_,ws,rfl,z⟩⟩ | ⟨z,_⟩ | ⟨z,_⟩
         . exact .inl ⟨ws,h1,z⟩
         . exact .inr ⟨ws,h1,z⟩
         . cases z
         . cases z
       . refine .inr ⟨t,u,h1,mu,λod nf=>⟨t,od,rfl,?_⟩⟩
         rcases dw od nf with ⟨_,⟨ws,rfl,z⟩ | ⟨_,ws,rfl,z⟩⟩ | ⟨z,_⟩ | ⟨z,_⟩
         . exact .inl ⟨ws,upd_same,z⟩
         . exact .inr ⟨ws,upd_same,z⟩
         . cases z
         . cases z
     . cases hs
   . cases hs
theorem PoI.view{k:Src}(hk:k≠.seq){p:List Addr}{σ:L2.St}{H:Hp}{e:Env}{s:S}{R:It->Hp->Prop}(q:PoI X cm W p σ H (yd k fa e s) R){Q:VK}
   (hQ:∀ a od u H1,H1 a=some (.frz od u)->DW k a od u R H1->Q (.ref a) H1) :
   Po X.K cm W (RV X.K) p σ H (fa e s) λx H1=>Q x H1\/∃ d u,H1 d=some u/\Mut (some u)/\∀ od,NF X d->Q x (upd H1 d (.frz od u)):=by
 rcases PoI.cases q with ⟨c,fs,s',h,q⟩ | ⟨d,s1,sk,h,hs,q⟩
 . exact q _
 . rw[h];unfold srcOf at hs;split at hs
   . split at hs
     . exact absurd rfl hk
     . cases hs
   . split at hs
     . exact absurd rfl hk
     . cases hs
   . split at hs
     . exact absurd rfl hk
     . cases hs
   . rename_i n;split at hs
     . split at hs
       . exact absurd rfl hk
       . cases hs
     . rename_i o hn;obtain⟨ds,e1,rfl⟩:=tY.mp hs;intro p1 H1 v f rs1 rv;obtain⟨t,rfl,⟨od,u,h1,dw⟩ | ⟨u,h1,mu,dw⟩⟩:=zke ‹_› e1 rs1 rv (q p1 H1 f rs1)
       . exact .inl (hQ t od u H1 h1 dw)
       . exact .inr ⟨t,u,h1,mu,λod nf=>hQ t od u _ upd_same (dw od nf)⟩
     . cases hs
   . cases hs
theorem zed{elts:List Expr}{kk:Nat}{tpos apos cpos:Pos}(ha:JE X cm W a fa)(hbase:attributeBase a "items" X.env (eval a X.env)=eval a X.env:=by rfl)(hline:(apos.endLine == cpos.line)=true:=by rfl) :
  JI X cm W (.Tuple elts kk tpos) (.Call (.Attribute a "items" apos) [] [] cpos) (yd .items fa):=by
 refine⟨_,pi_items (zfw ha) hbase hline,?_⟩;intro p e s σ H R re rs q;refine⟨p,e,s,re,rs,PoI.view (λh=>by cases h) q λt od u H1 h1 dw=>?_⟩
 rcases dw with ⟨z | z,_⟩ | ⟨_,ws,rfl,z⟩ | ⟨z,_⟩ <;> first | (cases z;done) | exact⟨t,od,ws,rfl,h1,z⟩
theorem zjJ{i:Int}(h:small i=true):-(2 ^ 62)<=i/\i<2 ^ 62:=by
 unfold small at h;simpa using h
theorem vg{pf pos:Pos}(hm:X.mg "range"=none)(ha:JE X cm W a fa)(hg:Gl X "range":=by rfl)(hs:starEach [a] X.env=[(false,eval a X.env)]:=by rfl) :
  JI X cm W tg (.Call (.Name "range" pf) [a] [] pos) (xm (eC (.int 0)) fa):=by
 refine⟨_,pi_range1 hg hm (zm ha zu (by rw[hs];rfl)) hs,?_⟩;intro p e s σ H R re rs q;refine⟨p,e,s,re,rs,?_⟩;show Po X.K cm W (RVs X.K) p σ H (za fa zj e s) _;unfold xm eC at q;unfold za zj;unfold bnd at q ⊢;simp only[bnd]at q ⊢
 cases h:fa e s with
 | none=>rw[h]at q;exact q.elim
 | some r =>
  rw[h]at q
  cases r with
  | exc c fs s'=>exact q
  | ok d s1 =>
   simp only[ret]at q ⊢;split at q
   . rename_i i j hi;cases hi;split at q
     . rename_i hsm;rw[rG]at hsm;intro p1 H1 vs f rs1 rr;obtain⟨x,rfl,rx⟩:=xU rr;have b2:=zjJ hsm.2;refine⟨j,by rw[yo rx],b2.1,b2.2,?_⟩;have z:=q p1 H1 f rs1 _ _ zeO True.intro;rw[show(j - 0).toNat=j.toNat by rw[Int.sub_zero]]at z;exact z
     . exact q.elim
   . exact q.elim
end
section
variable{X:Cx}
def LoopW(J:It)(g:TG)(tb:TS)(Dn:Ends)(σ:L2.St)(H:Hp):Prop:=∃ W:Nat->Nat->L2.St->Hp->Prop,(∃ m,W 0 m σ H)/\∀ i m σ H,W i m σ H ->
 (J.stop i H/\Dn.nx σ H)\/(J.go i H/\∃ N:L2.St->Hp->Prop,(∀ σ' H',N σ' H'->∃ m',m'<m/\W (i+1) m' σ' H')/\∀ x H',J.yld i H x H'->g x σ H' λσ2 H2=>tb { Dn with nx:=N,ct:=N,bk:=Dn.nx } σ2 H2)
theorem zbm{J:It}{ds:List D}{G:List Addr->Hp->Prop}(w:WalkD K cm J ds G){g:Fc.G}{vs:List Nat}{b:C}{p:List Addr}{e:Env}{s:S}{σ:L2.St}{H:Hp}{Dn:Ends}(hG:G p H)(re:RE K p H e σ)(rs:RS K cm p s H)(q:PoS K cm W p H (zbL g b ds e s) Dn) :
   LoopW J (tG K cm g vs) (tS K cm W b) Dn σ H:=by
 refine⟨λi m σ H=>i<=ds.length/\m=ds.length - i/\∃ p e s,G p H/\RE K p H e σ/\RS K cm p s H/\PoS K cm W p H (zbL g b (ds.drop i) e s) Dn,⟨_,Nat.zero_le _,rfl,p,e,s,hG,re,rs,by simpa using q⟩,?_⟩;rintro i m σ H ⟨hi,rfl,p,e,s,hG,re,rs,q⟩;by_cases hlt:i<ds.length
 . refine .inr ⟨w.go p H i hG hlt,λσ' H'=>∃ p e s,G p H'/\RE K p H' e σ'/\RS K cm p s H'/\PoS K cm W p H' (zbL g b (ds.drop (i+1)) e s) Dn,λσ' H' n=>⟨ds.length - (i+1),by omega,hlt,rfl,n⟩,λx H' y=>?_⟩;obtain⟨d,e1,f,rs',rv⟩:=w.yl p H s i x H' hG rs hlt y
   have hd:ds.drop i=d::ds.drop (i+1):=by
    have e2:ds[i]=d:=by
     have:=rE hlt;rw[this]at e1;exact Option.some.inj e1
    rw[← e2];exact qG hlt
   rw[hd]at q;unfold zbL at q
   cases hg:g d e s with
   | none=>rw[hg]at q;exact q.elim
   | some e' =>
    simp only[hg]at q;refine⟨p,e,s,d,e',re.mono f,rs',rv,hg,λσ' re' _=>⟨p,e',s,re',rs',?_⟩⟩;have q:=q.fut f;have hG':=w.fu p H p H' hG f
    cases hb:b e' s with
    | none=>rw[hb]at q;exact q.elim
    | some r =>
     rw[hb]at q
     cases r with
     | nx e2 s2=>exact λp2 H2 σ2 f2 rs2 re2=>⟨p2,e2,s2,w.fu _ _ _ _ hG' f2,re2,rs2,q.fut f2⟩
     | ct e2 s2=>exact λp2 H2 σ2 f2 rs2 re2=>⟨p2,e2,s2,w.fu _ _ _ _ hG' f2,re2,rs2,q.fut f2⟩
     | bk e2 s2=>exact q
     | rt d2 s2=>exact q
     | xc c fs e2 s2=>exact q
 . have e1:i=ds.length:=by omega
   subst e1;rw[List.drop_length]at q;exact .inl ⟨w.st p H hG,q p H σ Fut.refl rs re⟩
theorem zhy{a:Addr}{n k:Nat}{g:Fc.G}{vs:List Nat}{b:C}{p:List Addr}{e:Env}{s:S}{σ:L2.St}{H:Hp}{Dn:Ends}(ha:p[n]?=some a)(re:RE K p H e σ)(rs:RS K cm p s H)(q:PoS K cm W p H (forL n g b k 0 e s) Dn) :
  LoopW (Itl K a) (tG K cm g vs) (tS K cm W b) Dn σ H:=by
 refine⟨λi m σ H=>∃ p e s,p[n]?=some a/\RE K p H e σ/\RS K cm p s H/\PoS K cm W p H (forL n g b m i e s) Dn,⟨k,p,e,s,ha,re,rs,q⟩,?_⟩;rintro i m σ H ⟨p,e,s,ha,re,rs,q⟩;have rn:RV K p H (.ref n) (.ref a):=vh ha
 cases m with
 | zero =>
  unfold forL at q;split at q
  . rename_i ds hd;split at q
    . rename_i hl
      have hd':s[n]?=some (.lst ds):=by
        unfold yx at hd;split at hd
        . rename_i h;cases hd;exact h
        . cases hd
      obtain⟨t,vs,h0,h1,h2,h3⟩:=yu rs rn hd';cases h0;exact .inl ⟨⟨vs,SqL.of h2,by rw[← h3.length,hl];exact tX _⟩,q p H σ Fut.refl rs re⟩
    . exact q.elim
  . exact q.elim
 | succ m =>
  unfold forL at q;split at q
  . rename_i ds hd;split at q
    . rename_i hl
      have hd':s[n]?=some (.lst ds):=by
        unfold yx at hd;split at hd
        . rename_i h;cases hd;exact h
        . cases hd
      obtain⟨t,ws,h0,h1,h2,h3⟩:=yu rs rn hd';cases h0;split at q
      . rename_i d hdi;obtain⟨v,hv,rv⟩:=h3.get hdi;refine .inr ⟨⟨ws,v,SqL.of h2,hv⟩,λσ' H'=>∃ p e s,p[n]?=some a/\RE K p H' e σ'/\RS K cm p s H'/\PoS K cm W p H' (forL n g b m (i+1) e s) Dn,λσ' H' z=>⟨m,by omega,z⟩,λx H' y=>?_⟩;obtain⟨rfl,y⟩:=y;have y:=y ws (SqL.of h2);rw[hv]at y;cases y
        cases hg:g d e s with
        | none=>simp only[hg]at q;exact q.elim
        | some e' =>
          simp only[hg]at q;refine⟨p,e,s,d,e',re,rs,rv,hg,λσ' re' _=>⟨p,e',s,re',rs,?_⟩⟩
          cases hb:b e' s with
          | none=>rw[hb]at q;exact q.elim
          | some r =>
           rw[hb]at q
           cases r with
           | nx e2 s2=>exact λp2 H2 σ2 f2 rs2 re2=>⟨p2,e2,s2,f2.pre _ _ ha,re2,rs2,q.fut f2⟩
           | ct e2 s2=>exact λp2 H2 σ2 f2 rs2 re2=>⟨p2,e2,s2,f2.pre _ _ ha,re2,rs2,q.fut f2⟩
           | bk e2 s2=>exact q
           | rt d2 s2=>exact q
           | xc c fs e2 s2=>exact q
      . exact q.elim
    . exact q.elim
  . exact q.elim
theorem zdK{n:Nat}{a:Addr}{od:Obj}{u:HO}{o:O}{p p':List Addr}{H H':Hp}{s:S}(ha:p[n]?=some a)(h0:H a=some u)(mu:Mut (some u))(c:RC K cm p H a o u)(nl:∀ ys,u≠.lst ys)(f:Fut p (upd H a (.frz od u)) p' H')(rs:RS K cm p' s H') :
  H' a=some (.frz od u)/\Fut p H p' (upd H' a u)/\RS K cm p' (s.set n o) (upd H' a u)/\Fut0 p' H' p' (upd H' a u):=by
 have hf:H' a=some (.frz od u):=f.frz a od u upd_same
 have f0:Fut0 p' H' p' (upd H' a u):=by
  have ne:∀ b w,H' b=some w->(∀ o ys,w=.frz o (.lst ys)->True)->(w≠.frz od u)->upd H' a u b=some w:=λb w e _ hw=>by
   rw[upd_ne]
   . exact e
   . rintro rfl;rw[hf]at e;cases e;exact hw rfl
  refine⟨λ_ _ e=>e,λb ys e=>ne b _ e (λ_ _ _=>True.intro) (by intro z;cases z),λb o' ys e=>ne b _ e (λ_ _ _=>True.intro) (λz=>by cases z;exact nl _ rfl),λb fs e=>ne b _ e (λ_ _ _=>True.intro) (by intro z;cases z)⟩
 have fl:Fut0 p H p' H':=(Fut0.lock (od:=od) h0 mu).toFut0.trans f.toFut0;have fa:=fl.trans f0;refine⟨hf,⟨fa,λb o' w e=>?_⟩,rs.zpp (f.pre _ _ ha) hf f0 ((c.yG fa).ro upd_same),f0⟩
 have hb:b≠a:=by
  rintro rfl;rw[h0]at e;cases e;exact mu
 rw[upd_ne hb];exact f.frz b o' w (by rw[upd_ne hb];exact e)
theorem PoS.unlock{n:Nat}{a:Addr}{od:Obj}{u:HO}{o:O}{p:List Addr}{H:Hp}{r:Option R}{Dn:Ends}(nf:NF X a)(ha:p[n]?=some a)(h0:H a=some u)(mu:Mut (some u))(c:RC K cm p H a o u)(nl:∀ ys,u≠.lst ys)
  (hx:∀ c fs e s,r=some (.xc c fs e s)->∀ p' H' σ' cls dd,Fut p (upd H a (.frz od u)) p' H'->RS K cm p' s H'->RE K p' H' e σ'->RX K cm p' H' c fs cls dd->W cls dd σ' H')
  (q:PoS K cm W p H (zcH n o r) Dn):PoS K cm W p (upd H a (.frz od u)) r (ulE X Dn):=by
 have key:∀{p' H' s},Fut p (upd H a (.frz od u)) p' H'->RS K cm p' s H'->H' a=some (.frz od u)/\Fut p H p' (upd H' a u)/\RS K cm p' (s.set n o) (upd H' a u)/\Fut0 p' H' p' (upd H' a u):=λf rs=>zdK ha h0 mu c nl f rs
 match r,q with
 | some (.nx e s),q =>
  intro p' H' σ' f rs re;obtain⟨k1,k2,k3,k4⟩:=key f rs;exact .inr ⟨a,od,u,k1,nf,q _ _ _ k2 k3 (re.yG k4)⟩
 | some (.rt d s),q =>
  intro p' H' v f rs rv;obtain⟨k1,k2,k3,k4⟩:=key f rs;exact .inr ⟨a,od,u,k1,nf,q _ _ _ k2 k3 (RV.yG k4 _ rv)⟩
 | some (.bk e s),q =>
  intro p' H' σ' f rs re;obtain⟨k1,k2,k3,k4⟩:=key f rs;exact .inr ⟨a,od,u,k1,nf,q _ _ _ k2 k3 (re.yG k4)⟩
 | some (.ct e s),q =>
  intro p' H' σ' f rs re;obtain⟨k1,k2,k3,k4⟩:=key f rs;exact .inr ⟨a,od,u,k1,nf,q _ _ _ k2 k3 (re.yG k4)⟩
 | some (.xc c fs e s),q=>exact hx c fs e s rfl
theorem zgp{n:Nat}{o:O}{r:Option R}{c:Str}{fs:List (Str×D)}{e:Env}{s:S}(h:r=some (.xc c fs e s)):zcH n o r=r:=by subst h;rfl
theorem zhw{n:Nat}{s:S}{o:O}{f:S->Option R}(h:s[n]?=some (.lck o)):zbP n s f=f s:=by
 unfold zbP;rw[h]
theorem zgh{n:Nat}{s:S}{o:O}{f:S->Option R}(h:s[n]?=some o)(hn:∀ o',o≠.lck o'):zbP n s f=zcH n o (f (s.set n (.lck o))):=by
 unfold zbP;rw[h]
 cases o with
 | lck o'=>exact absurd rfl (hn o')
 | _=>rfl
theorem wG{tg iter:Expr}{src:SrcE}{g:Fc.G}{vs:List Nat}{body:List Stmt}{b:C}{pos:Pos}(hp:PassesOwn (model X.prog X.w) X.A X.env X.xe)(hc:X.calm=true)(hi:JI X cm W tg iter src)(hg:JG X cm tg g vs)(hb:JSs X cm W body b)
  (hs:∀ x,foldedSetIterable iter X.env x=pure x:=by intro _;rfl):JS X cm W (.For tg iter body [] pos) (xf src g b):=by
 obtain⟨wi,hi,hw⟩:=hi;refine⟨λpins s0 σ H Dn I q=>?_⟩;obtain⟨p,e,s,re,rs,q⟩:=q;have plain:∀(R:Ends),(PoI X cm W p σ H (src e s) λJ H1=>LoopW J (tG X.K cm g vs) (tS X.K cm W b) R σ H1)->tFor wi (tG X.K cm g vs) (tS X.K cm W b) R σ H:=λR z=>hw p e s σ H _ re rs z;unfold xf Fc.ex at q
 cases h:src e s with
 | none=>rw[h]at q;exact q.elim
 | some r =>
  cases r with
  | exc c fs s' =>
   rw[h]at q;refine(ps_for hp hc hi hg hb hs).run pins s0 σ H Dn I (plain Dn ?_);rw[h];exact λp1 H1 cls dd f rs1 rx=>q p1 H1 σ cls dd f rs1 (re.mono f) rx
  | ok sk s1 =>
   rw[h]at q
   cases sk with
   | vals ds =>
    refine(ps_for hp hc hi hg hb hs).run pins s0 σ H Dn I (plain Dn ?_);rw[h];exact λp1 H1 f rs1 J G w hG=>zbm w hG (re.mono f) rs1 (PoS.fut q f)
   | list n k =>
    refine(ps_for hp hc hi hg hb hs).run pins s0 σ H Dn I (plain Dn ?_);rw[h];exact λp1 H1 f rs1 _ a ha=>zhy ha (re.mono f) rs1 (PoS.fut q f)
   | dict n ds =>
    simp only at q;refine(zce (ps_for hp hc hi hg hb hs)).run pins s0 σ H Dn I (plain (ulE X Dn) ?_);rw[h];intro p1 H1 f rs1;have q:=PoS.fut q f;have re1:=re.mono f;show Drv X cm (.dict n ds) p1 H1 s1 _
    cases hn:s1[n]? with
    | none=>unfold zbP at q;rw[hn]at q;exact q.elim
    | some o =>
     by_cases hl:∃ o',o=.lck o'
     . obtain⟨o',rfl⟩:=hl;rw[zhw hn]at q;simp only[Drv,hn];intro J G w hG
       have ul:∀{r:Option R},PoS X.K cm W p1 H1 r Dn->PoS X.K cm W p1 H1 r (ulE X Dn):=λ{r} q=>by
        match r,q with
        | some (.nx e s),q=>exact λp' H' σ' f rs re=>.inl (q p' H' σ' f rs re)
        | some (.rt e s),q=>exact λp' H' σ' f rs re=>.inl (q p' H' σ' f rs re)
        | some (.bk e s),q=>exact λp' H' σ' f rs re=>.inl (q p' H' σ' f rs re)
        | some (.ct e s),q=>exact λp' H' σ' f rs re=>.inl (q p' H' σ' f rs re)
        | some (.xc c fs e s),q=>exact q
       exact zbm w hG re1 rs1 (ul q)
     . have hl':∀ o',o≠.lck o':=λo' z=>hl ⟨o',z⟩;rw[zgh hn hl']at q
       have goal:∀ a u od J G,p1[n]?=some a->H1 a=some u->Mut (some u)->RC X.K cm p1 H1 a o u->NF X a->(∀ ys,u≠.lst ys)->WalkD X.K cm J ds G->G p1 (upd H1 a (.frz od u))->LoopW J (tG X.K cm g vs) (tS X.K cm W b) (ulE X Dn) σ (upd H1 a (.frz od u)):=by
        intro a u od J G ha h0 mu c nf nl w hG;have fl:=Fut0.lock (od:=od) (p:=p1) h0 mu;have rs2:=rs1.zpp (o:=.lck o) ha h0 fl.toFut0 ⟨od,u,upd_same,mu,c.yG fl.toFut0⟩;refine zbm w hG (re1.mono fl) rs2 (PoS.unlock nf ha h0 mu c nl ?_ q);intro c fs e' s' er p' H' σ' cls dd f' rs' re' rx;rw[zgp er,er]at q;exact q p' H' σ' cls dd (fl.trans f') rs' re' rx
       simp only[Drv,hn]
       cases o with
       | lck o'=>exact absurd rfl (hl' o')
       | _=>exact λa u od J G ha h0 mu c nf nl w hG=>goal a u od J G ha h0 mu c nf nl w hG
end
end Fc
namespace L2
open PySem
theorem PTs.imp{X:Cx}{x:List Expr}{t t':TT}(h:PTs X x t)(k:∀ σ H Q,t' σ H Q->t σ H Q):PTs X x t':=⟨λpins s σ H Q I q=>h.run pins s σ H Q I (k σ H Q q)⟩
end L2
namespace Fc
open PySem PySem.Spec PyProof.Rows L2
variable{K:pX}{cm:CM}{W:WX}
section
variable{X:Cx}{c:Expr}{t:T}{b:C}{body:List Stmt}{pos:Pos}
theorem zet(hp:PassesOwn (model X.prog X.w) X.A X.env X.xe)(hc:JT X cm W c t)(hb:JSs X cm W body b):JS X cm W (.While c body [] pos) (wM t b):=by
 refine(ps_while hp hc hb).imp ?_;rintro Dn σ H ⟨p,e,s,re,rs,q⟩;unfold wM at q;split at q
 . rename_i h;obtain⟨n,hn⟩:=Classical.choose_spec h;rw[← hn]at q
   clear hn
   refine⟨λm σ H=>∃ p e s,RE X.K p H e σ/\RS X.K cm p s H/\PoS X.K cm W p H (wg t b m e s) Dn,⟨n,p,e,s,re,rs,q⟩,?_⟩;rintro m σ H ⟨p,e,s,re,rs,q⟩
   cases m with
   | zero=>exact q.elim
   | succ m =>
    unfold wg at q;refine⟨p,e,s,re,rs,(PoS.ex (rel:=rB) q re).imp ?_⟩;rintro k H1 ⟨k',p1,s1,f1,rs1,rk,q⟩;obtain rfl:k'=k:=rk
    cases k' with
    | true =>
     rw[if_pos rfl]at q ⊢;refine⟨λσ' H'=>∃ p e s,RE X.K p H' e σ'/\RS X.K cm p s H'/\PoS X.K cm W p H' (wg t b m e s) Dn,λσ' H' z=>⟨m,qT _,z⟩,p1,e,s1,re.mono f1,rs1,?_⟩
     cases hb:b e s1 with
     | none=>rw[hb]at q;exact q.elim
     | some r =>
      rw[hb]at q
      cases r with
      | nx e2 s2=>exact λp2 H2 σ2 f2 rs2 re2=>⟨p2,e2,s2,re2,rs2,q.fut f2⟩
      | ct e2 s2=>exact λp2 H2 σ2 f2 rs2 re2=>⟨p2,e2,s2,re2,rs2,q.fut f2⟩
      | bk e2 s2=>exact q
      | rt d2 s2=>exact q
      | xc c fs e2 s2=>exact q
    | false =>
     rw[if_neg qU]at q ⊢;exact q p1 H1 σ Fut.refl rs1 (re.mono f1)
 . exact q.elim
end
def Wf:WX:=λ_ _ _ _=>False
abbrev JTs(X:Cx)(cm:CM)(W:WX)(ifs:List Expr)(t:T):Prop:=PTs X ifs (tT X.K cm W t)
theorem xr{X:Cx}:JTs X cm W [] Fc.tYes:=by
 refine pts_nil.imp ?_;rintro σ H Q ⟨p,e,s,re,rs,q⟩;exact Po.ok q rs rfl
theorem ue{X:Cx}{c:Expr}{t:T}(h:JT X cm W c t):JTs X cm W [c] t:=pts_one h
theorem RE.wipe{p:List Addr}{H:Hp}{e:Env}{σ:L2.St}(re:RE K p H e σ):∀ vs,RE K p H (Fc.wipe e vs) (L2.wipe σ vs)
 | []=>re
 | v::vs=>(RE.wipe re vs).unset v
theorem zfX(e:Env):∀ vs,(Fc.wipe e vs).length=e.length
 | []=>rfl
 | v::vs=>by simp[Fc.wipe,zfX e vs]
theorem zaO(σ:L2.St):∀(vs:List Nat) (i:Nat),(L2.wipe σ vs)[i]?=if i<σ.length then (if i∈vs then some none else σ[i]?)else none
 | [],i=>by
  by_cases h:i<σ.length
  . simp[L2.wipe,h]
  . simp[L2.wipe,h]
 | v::vs,i=>by
  show((L2.wipe σ vs).set v none)[i]?=_;rw[qC,zaO σ vs i,L2.wipe_length];by_cases hv:v=i
  . subst hv;by_cases h:v<σ.length
    . simp[h]
    . simp[h]
  . rw[if_neg hv];by_cases h:i<σ.length
    . simp only[h,if_true,tU];by_cases hi:i∈vs
      . simp[hi]
      . simp[hi,sH hv]
    . simp[h]
theorem ziO{σ σ':L2.St}{vs ws:List Nat}(hl:σ'.length=σ.length)(h:∀ i,i∉ws->σ'[i]?=(L2.wipe σ vs)[i]?)(hs:∀ i∈ws,i∈vs):L2.wipe σ' vs=L2.wipe σ vs:=by
 apply List.ext_getElem?;intro i;rw[zaO,zaO,hl];by_cases hi:i<σ.length
 . simp only[hi,if_true];by_cases hv:i∈vs
   . simp[hv]
   . simp only[hv,if_false];have:=h i λz=>hv (hs i z);rw[this,zaO];simp[hi,hv]
 . simp[hi]
theorem zhu{D0:Nat}{Da:Addr}{d:D}{v:V}{s s':S}{p:List Addr}{H:Hp}(rs:RS K cm p s H)(rv:RV K p H d v)(hp:p[D0]?=some Da)(h:zbj D0 d s=some s') :
   ∃ acc,H Da=some (.lst acc)/\acc.length<sizeLine/\Fut p H p (upd H Da (.lst (acc++[v])))/\RS K cm p s' (upd H Da (.lst (acc++[v]))):=by
 unfold zbj at h;split at h
 . rename_i acc hs;split at h
   . rename_i hl;cases h;obtain⟨a,vs,h0,h1,h2,h3⟩:=yu rs (vh hp) hs;cases h0
     have hu:RC K cm p H Da (.lst (acc++[d])) (.lst (vs++[v])):=by
      refine⟨_,rfl,h3.append ?_⟩;simp only[RVs];exact⟨v,[],rfl,rv,rfl⟩
     obtain⟨f,rs'⟩:=rs.put hp h2 True.intro hu;exact⟨vs,h2,by rw[← h3.length,sizeLine_eq];exact hl,f,rs'⟩
   . cases h
 . cases h
def LcW(J:It)(g:TG)(tt:TT)(te:TE)(vs:List Nat)(Da:Addr)(σ:L2.St)(H1:Hp)(Qd:Hp->Prop):Prop:=∃ W:Nat->Nat->Hp->Prop,(∃ m,W 0 m (upd H1 Da (.lst [])))/\∀ i m H,W i m H ->
 (J.stop i H/\Qd H)\/(J.go i H/\∃ Nx:Hp->Prop,(∀ H',Nx H'->∃ m',m'<m/\W (i+1) m' H')/\∀ x H',J.yld i H x H'->g x (L2.wipe σ vs) H' λσ2 H2=>L2.wipe σ2 vs=L2.wipe σ vs/\tt σ2 H2 λb H3 =>
  if b=true then te σ2 H3 λy H4=>∃ acc,H4 Da=some (.lst acc)/\acc.length<sizeLine/\Nx (upd H4 Da (.lst (acc++[y])))else Nx H3)
section
variable{g:Fc.G}{gs vs:List Nat}{t:T}{el:E}{e:Env}{σ:L2.St}
theorem zhv(hsub:∀ i∈gs,i∈vs)(hgl:∀ d e s e',g d e s=some e'->e'.length=e.length){p p0:List Addr}{H H0:Hp}{s:S}{d:D}{x:V}{D0:Nat}{Da:Addr}{k:S->Option S}{sF:S}{Nx:Hp->Prop}
    (re:RE K p H e σ) (rs:RS K cm p s H) (rv:RV K p H d x) (hD:p[D0]?=some Da) (f0:Fut p0 H0 p H)
    (h : (match g d (Fc.wipe e vs) s with
      | some σ1=>match t σ1 s with
        | some (.ok true s1)=>match el σ1 s1 with
          | some (.ok y s2)=>(zbj D0 y s2).bind k
          | _=>none
        | some (.ok false s1)=>k s1
        | _=>none
      | none=>none)=some sF)
    (nx:∀ p2 s2 H2,Fut p H p2 H2->RS K cm p2 s2 H2->k s2=some sF->Nx H2) :
    tG K cm g gs x (L2.wipe σ vs) H λσ2 H2=>L2.wipe σ2 vs=L2.wipe σ vs/\tT K cm Wf t σ2 H2 λb H3 =>
      if b=true then tD K cm Wf el σ2 H3 λy H4=>∃ acc,H4 Da=some (.lst acc)/\acc.length<sizeLine/\Nx (upd H4 Da (.lst (acc++[y])))else Nx H3:=by
  cases hg:g d (Fc.wipe e vs) s with
  | none=>rw[hg]at h;cases h
  | some e1 =>
    simp only[hg]at h;refine⟨p,Fc.wipe e vs,s,d,e1,re.wipe vs,rs,rv,hg,λσ2 re2 hs=>⟨ziO ?_ hs hsub,p,e1,s,re2,rs,?_⟩⟩
    . rw[← re2.1,hgl _ _ _ _ hg,zfX,re.1]
    . cases ht:t e1 s with
      | none=>rw[ht]at h;cases h
      | some r =>
        rw[ht]at h
        cases r with
        | exc c fs s'=>cases h
        | ok k1 s1 =>
          intro p1 H1 k2 f1 rs1 rk;obtain rfl:k1=k2:=rk
          cases k1 with
          | false =>
            rw[if_neg qU];exact nx p1 s1 H1 f1 rs1 h
          | true =>
            rw[if_pos rfl];simp only at h;refine⟨p1,e1,s1,re2.mono f1,rs1,?_⟩
            cases he:el e1 s1 with
            | none=>rw[he]at h;cases h
            | some r =>
              rw[he]at h
              cases r with
              | exc c fs s'=>cases h
              | ok y s2 =>
                intro p2 H2 v f2 rs2 rv2;obtain⟨s3,h1,h2⟩:=qb.mp h;obtain⟨acc,a1,a2,a3,a4⟩:=zhu rs2 rv2 (f2.pre _ _ (f1.pre _ _ hD)) h1;exact⟨acc,a1,a2,nx p2 s3 _ ((f1.trans f2).trans a3) a4 h2⟩
theorem zeh(hsub:∀ i∈gs,i∈vs)(hgl:∀ d e s e',g d e s=some e'->e'.length=e.length){J:It}{ds:List D}{G:List Addr->Hp->Prop}(w:WalkD K cm J ds G){p:List Addr}{s:S}{H:Hp}{Q:VK}{Da:Addr}(hG:G p H)(re:RE K p H e σ)(rs:RS K cm p s H)
  (q:Po K cm W (RV K) p σ H (wX s λD0 s2=>lcV D0 vs g t el ds e s2) Q) (hDa:H Da=none):LcW J (tG K cm g gs) (tT K cm Wf t) (tD K cm Wf el) vs Da σ H (Q (.ref Da)):=by
 unfold wX at q;dsimp only at q
 cases hf:lcV s.length vs g t el ds e (s++[.lst []])with
 | none=>rw[hf]at q;exact q.elim
 | some sF =>
  rw[hf]at q;obtain⟨f1,rs1,e1⟩:=rs.new (o:=.lst []) (u:=.lst []) hDa ⟨[],rfl,by simp[RVs]⟩;refine⟨λi m H'=>i<=ds.length/\m=ds.length - i/\∃ p' s',G p' H'/\RS K cm p' s' H'/\p'[s.length]?=some Da/\Fut p H p' H'/\lcV s.length vs g t el (ds.drop i) e s'=some sF,⟨_,Nat.zero_le _,rfl,p++[Da],s++[.lst []],w.fu _ _ _ _ hG f1,rs1,e1,f1,by simpa using hf⟩,?_⟩;rintro i m H' ⟨hi,rfl,p',s',hG',rs',hD',f',hF⟩;by_cases hlt:i<ds.length
  . refine .inr ⟨w.go p' H' i hG' hlt,λH'=>∃ p' s',G p' H'/\RS K cm p' s' H'/\p'[s.length]?=some Da/\Fut p H p' H'/\lcV s.length vs g t el (ds.drop (i+1)) e s'=some sF,λH' n=>⟨ds.length - (i+1),by omega,hlt,rfl,n⟩,λx H2 y=>?_⟩;obtain⟨d,e2,f2,rs2,rv⟩:=w.yl p' H' s' i x H2 hG' rs' hlt y
    have hd:ds.drop i=d::ds.drop (i+1):=by
     have e3:ds[i]=d:=by
      have:=rE hlt;rw[this]at e2;exact Option.some.inj e2
     rw[← e3];exact qG hlt
    rw[hd]at hF;unfold lcV at hF;have f02:=f'.trans f2;refine zhv hsub hgl (re.mono f02) rs2 rv hD' f02 hF λp3 s3 H3 f3 rs3 h3=>?_;exact⟨p3,s3,w.fu _ _ _ _ (w.fu _ _ _ _ hG' f2) f3,rs3,f3.pre _ _ hD',f02.trans f3,h3⟩
  . have e2:i=ds.length:=by omega
    subst e2;rw[List.drop_length]at hF;cases hF;exact .inl ⟨w.st p' H' hG',q p' H' _ f' rs' (vh hD')⟩
theorem wJ{s:S}{n:Nat}{ds:List D}(h:yx s n=some ds):s[n]?=some (.lst ds):=by
 unfold yx at h;split at h
 . rename_i z;cases h;exact z
 . cases h
theorem lc_list(hsub:∀ i∈gs,i∈vs)(hgl:∀ d e s e',g d e s=some e'->e'.length=e.length){a:Addr}{n k:Nat}{p:List Addr}{s:S}{H:Hp}{Q:VK}{Da:Addr}(ha:p[n]?=some a)(re:RE K p H e σ)(rs:RS K cm p s H)
  (q:Po K cm W (RV K) p σ H (wX s λD0 s2=>lcL D0 n vs g t el k 0 e s2) Q) (hDa:H Da=none):LcW (Itl K a) (tG K cm g gs) (tT K cm Wf t) (tD K cm Wf el) vs Da σ H (Q (.ref Da)):=by
 unfold wX at q;dsimp only at q
 cases hf:lcL s.length n vs g t el k 0 e (s++[.lst []])with
 | none=>rw[hf]at q;exact q.elim
 | some sF =>
  rw[hf]at q;obtain⟨f1,rs1,e1⟩:=rs.new (o:=.lst []) (u:=.lst []) hDa ⟨[],rfl,by simp[RVs]⟩;refine⟨λi m H'=>∃ p' s',RS K cm p' s' H'/\p'[s.length]?=some Da/\Fut p H p' H'/\lcL s.length n vs g t el m i e s'=some sF,⟨k,p++[Da],s++[.lst []],rs1,e1,f1,hf⟩,?_⟩;rintro i m H' ⟨p',s',rs',hD',f',hF⟩;have rn:RV K p' H' (.ref n) (.ref a):=vh (f'.pre _ _ ha)
  cases m with
  | zero =>
   unfold lcL at hF;split at hF
   . rename_i ds hd;split at hF
     . rename_i hl;cases hF;obtain⟨t',ws,h0,h1,h2,h3⟩:=yu rs' rn (wJ hd);cases h0;exact .inl ⟨⟨ws,SqL.of h2,by rw[← h3.length,hl];exact tX _⟩,q p' H' _ f' rs' (vh hD')⟩
     . cases hF
   . cases hF
  | succ m =>
   unfold lcL at hF;split at hF
   . rename_i ds hd;split at hF
     . rename_i hl;obtain⟨t',ws,h0,h1,h2,h3⟩:=yu rs' rn (wJ hd);cases h0;split at hF
       . rename_i d hdi;obtain⟨v,hv,rv⟩:=h3.get hdi;refine .inr ⟨⟨ws,v,SqL.of h2,hv⟩,λH'=>∃ p' s',RS K cm p' s' H'/\p'[s.length]?=some Da/\Fut p H p' H'/\lcL s.length n vs g t el m (i+1) e s'=some sF,λH' z=>⟨m,by omega,z⟩,λx H2 y=>?_⟩;obtain⟨rfl,y⟩:=y;have y:=y ws (SqL.of h2);rw[hv]at y;cases y;refine zhv hsub hgl (re.mono f') rs' rv hD' f' hF λp3 s3 H3 f3 rs3 h3=>?_;exact⟨p3,s3,rs3,f3.pre _ _ hD',f'.trans f3,h3⟩
       . cases hF
     . cases hF
   . cases hF
theorem zgg{n:Nat}{s:S}{o:O}{f:S->Option (Res D)}(h:s[n]?=some (.lck o)):uL n s f=f s:=by
 unfold uL;rw[h]
theorem zeg{n:Nat}{s:S}{o:O}{f:S->Option (Res D)}(h:s[n]?=some o)(hn:∀ o',o≠.lck o'):uL n s f=match f (s.set n (.lck o))with
  | some (.ok d s')=>some (.ok d (s'.set n o))
  | r=>r:=by
 unfold uL;rw[h]
 cases o with
 | lck o'=>exact absurd rfl (hn o')
 | _=>rfl
theorem Po.unlock{X:Cx}{n:Nat}{a:Addr}{od:Obj}{u:HO}{o:O}{p:List Addr}{H:Hp}{r:Option (Res D)}{Q:VK}(nf:NF X a)(ha:p[n]?=some a)(h0:H a=some u)(mu:Mut (some u))(c:RC K cm p H a o u)(nl:∀ ys,u≠.lst ys)
  (q:Po K cm W (RV K) p σ H (match r with
   | some (.ok d s')=>some (.ok d (s'.set n o))
   | r=>r) Q):Po K cm W (RV K) p σ (upd H a (.frz od u)) r λx H1=>Ul X (Q x) H1:=by
 have fl:=Fut0.lock (od:=od) (p:=p) h0 mu
 match r,q with
 | some (.ok d s),q =>
  intro p' H' v f rs rv;obtain⟨k1,k2,k3,k4⟩:=zdK (od:=od) ha h0 mu c nl f rs;exact .inr ⟨a,od,u,k1,nf,q _ _ _ k2 k3 (RV.yG k4 _ rv)⟩
 | some (.exc c fs s),q=>exact λp' H' cls dd f rs rx=>q p' H' cls dd (fl.trans f) rs rx
theorem zku{X:Cx}{tg iter:Expr}{src:SrcE}{wi:TI}(hw:∀ p e s σ H R,RE X.K p H e σ->RS X.K cm p s H->PoI X cm W p σ H (src e s) R->wi σ H R)(hsub:∀ i∈gs,i∈vs)(hgl:∀ d e s e',g d e s=some e'->e'.length=e.length)
  {p:List Addr}{s:S}{H:Hp}{Q:VK} (re:RE X.K p H e σ) (rs:RS X.K cm p s H) (q:Po X.K cm W (RV X.K) p σ H (eLc vs src g t el e s) Q) :
  tLc wi (tG X.K cm g gs) (tT X.K cm Wf t) (tD X.K cm Wf el) vs σ H λx H1=>Ul X (Q x) H1:=by
 refine hw p e s σ H _ re rs ?_;unfold eLc bnd at q
 cases h:src e s with
 | none=>rw[h]at q;exact q.elim
 | some r =>
  rw[h]at q
  cases r with
  | exc c fs s'=>exact q
  | ok sk s1 =>
   intro p1 H1 f rs1;have q:=Po.fut q f;have re1:=re.mono f
   cases sk with
   | vals ds=>exact λJ G w hG Da hDa=>zeh (Q:=λx H1=>Ul X (Q x) H1) hsub hgl w hG re1 rs1 (q.imp λv H z=>Or.inl z) hDa
   | list n k=>exact λ_ a ha Da hDa=>lc_list (Q:=λx H1=>Ul X (Q x) H1) hsub hgl ha re1 rs1 (q.imp λv H z=>Or.inl z) hDa
   | dict n ds =>
    simp only at q;show Drv X cm (.dict n ds) p1 H1 s1 _
    cases hn:s1[n]? with
    | none=>unfold uL at q;rw[hn]at q;exact q.elim
    | some o =>
     by_cases hl:∃ o',o=.lck o'
     . obtain⟨o',rfl⟩:=hl;rw[zgg hn]at q;simp only[Drv,hn];exact λJ G w hG Da hDa=>zeh (Q:=λx H1=>Ul X (Q x) H1) hsub hgl w hG re1 rs1 (q.imp λv H z=>Or.inl z) hDa
     . have hl':∀ o',o≠.lck o':=λo' z=>hl ⟨o',z⟩;rw[zeg hn hl']at q
       have goal:∀ a u od J G,p1[n]?=some a->H1 a=some u->Mut (some u)->RC X.K cm p1 H1 a o u->NF X a->(∀ ys,u≠.lst ys)->WalkD X.K cm J ds G->G p1 (upd H1 a (.frz od u))->∀ Da,upd H1 a (.frz od u) Da=none->LcW J (tG X.K cm g gs) (tT X.K cm Wf t) (tD X.K cm Wf el) vs Da σ (upd H1 a (.frz od u)) λH=>Ul X (Q (.ref Da)) H:=by
        intro a u od J G ha h0 mu c nf nl w hG Da hDa;have fl:=Fut0.lock (od:=od) (p:=p1) h0 mu;have rs2:=rs1.zpp (o:=.lck o) ha h0 fl.toFut0 ⟨od,u,upd_same,mu,c.yG fl.toFut0⟩;exact zeh (Q:=λx H1=>Ul X (Q x) H1) hsub hgl w hG (re1.mono fl) rs2 (Po.unlock nf ha h0 mu c nl q) hDa
       simp only[Drv,hn]
       cases o with
       | lck o'=>exact absurd rfl (hl' o')
       | _=>exact λa u od J G ha h0 mu c nf nl w hG Da hDa=>goal a u od J G ha h0 mu c nf nl w hG Da hDa
end
section
variable{X:Cx}{elt tg iter:Expr}{ifs:List Expr}{scope:Scope}{own:List (Str×Nat)}{pos spos:Pos}{src:SrcE}{g:Fc.G}{gs:List Nat}{t:T}{el:E}
theorem zcC(hc:X.calm=true)(hN:X.N.Nodup)(own:List (Str×Nat))(hi:JI X cm W tg iter src)
  (hg:∀(s:Shared) (H:Hp) (C:Addr) (cl:List (Str×Addr)) (fp:List Addr),JG (X.blk s H scope (compEnvC scope cl C X.env) fp) cm tg g gs)
  (ht:∀(s:Shared) (H:Hp) (C:Addr) (cl:List (Str×Addr)) (fp:List Addr),JTs (X.blk s H scope (compEnvC scope cl C X.env) fp) cm Wf ifs t)
  (he:∀(s:Shared) (H:Hp) (C:Addr) (cl:List (Str×Addr)) (fp:List Addr),JE (X.blk s H scope (compEnvC scope cl C X.env) fp) cm Wf elt el)
  (hgl:∀ d e s e',g d e s=some e'->e'.length=e.length) (ok:BlkOk X.N X.env.scope scope own:=by exact blkOk_by (by rfl)) (hsub:∀ i∈gs,i∈own.map (·.2):=by decide) (hs:∀ x,foldedSetIterable iter X.env x=pure x:=by intro _;rfl) :
  JE X cm W (.ListComp elt [⟨tg,iter,ifs,0⟩] scope pos) (eLc (own.map (·.2)) src g t el):=by
 obtain⟨wi,hi,hw⟩:=hi;refine(zgk (pe_lc (g:=tG X.K cm g gs) (tt:=tT X.K cm Wf t) (te:=tD X.K cm Wf el) hc hN hi ok hg ht he hs)).imp ?_;rintro σ H Q ⟨p,e,s,re,rs,q⟩;exact zku (tg:=tg) (iter:=iter) hw hsub hgl re rs q
theorem uU(hc:X.calm=true)(hN:X.N.Nodup)(i:Nat){y:Str}{py:Pos}(own:List (Str×Nat))(hi:JI X cm W tg iter src)
  (hg:∀(s:Shared) (H:Hp) (C:Addr) (cl:List (Str×Addr)) (fp:List Addr),JG (X.blk s H scope (compEnvC scope cl C X.env) fp) cm tg g gs)
  (ht:∀(s:Shared) (H:Hp) (C:Addr) (cl:List (Str×Addr)) (fp:List Addr),JTs (X.blk s H scope (compEnvC scope cl C X.env) fp) cm Wf ifs t)
  (he:∀(s:Shared) (H:Hp) (C:Addr) (cl:List (Str×Addr)) (fp:List Addr),JE (X.blk s H scope (compEnvC scope cl C X.env) fp) cm Wf elt el)
  (hgl:∀ d e s e',g d e s=some e'->e'.length=e.length) (hy:X.N[i]?=some y:=by rfl) (hyl:X.env.scope.names.lookup y=some .local:=by rfl)
  (hsw:swapsWith (.ListComp elt [⟨tg,iter,ifs,0⟩] scope pos) (some (.Name y py)) spos.line X.env=pure true:=by exact sw_true rfl rfl rfl (by decide +kernel)) (ok:BlkOk X.N X.env.scope scope own:=by exact blkOk_by (by rfl)) (hsub:∀ i∈gs,i∈own.map (·.2):=by decide) (hs:∀ x,foldedSetIterable iter X.env x=pure x:=by intro _;rfl) :
  JS X cm W (.Assign [.Name y py] (.ListComp elt [⟨tg,iter,ifs,0⟩] scope pos) spos) (zR (eLc (own.map (·.2)) src g t el) (gName i)):=by
 obtain⟨wi,hi,hw⟩:=hi;refine(zce (ps_setLc (g:=tG X.K cm g gs) (tt:=tT X.K cm Wf t) (te:=tD X.K cm Wf el) hc hN hy hyl hsw hi ok hg ht he hs)).imp ?_;rintro Dn σ H ⟨p,e,s,re,rs,q⟩;refine zku (tg:=tg) (iter:=iter) (Q:=λx H1=>Dn.nx (σ.set i (some x)) H1) hw hsub hgl re rs ?_;exact(PoS.set q re (vs:=[i])).imp λx H1 h=>ziB (p:=p) (e:=e) (s:=s) h
end
theorem zU{i:Nat}:∀ d e s e',gName i d e s=some e'->e'.length=e.length:=by
 intro d e s e' h;cases h;simp
theorem vz:∀ ds e s e',gNil ds e s=some e'->e'.length=e.length:=by
 intro d e s e' h;unfold gNil at h;split at h
 . cases h;rfl
 . cases h
theorem yh{g:Fc.G}{r:GL}(h1:∀ d e s e',g d e s=some e'->e'.length=e.length)(h2:∀ d e s e',r d e s=some e'->e'.length=e.length):∀ ds e s e',gCons g r ds e s=some e'->e'.length=e.length:=by
 intro d e s e' h;unfold gCons at h;split at h
 . obtain⟨e1,a,b⟩:=qb.mp h;rw[h2 _ _ _ _ b,h1 _ _ _ _ a]
 . cases h
theorem jw{k:Nat}{r:GL}(h1:∀ d e s e',r d e s=some e'->e'.length=e.length):∀ d e s e',gTup k r d e s=some e'->e'.length=e.length:=by
 intro d e s e' h;unfold gTup at h;split at h
 . split at h
   . exact h1 _ _ _ _ h
   . cases h
 . split at h
   . split at h
     . exact h1 _ _ _ _ h
     . cases h
   . cases h
 . cases h
end Fc
namespace Fc
open PySem PySem.Spec PyProof.Rows L2
variable{K:pX}{cm:CM}{W:WX}
structure Rg(k:Nat)(A:Around):Prop where
 room:Room k A
 gd:A.guards=some []
theorem Rg.mono{j k:Nat}{A:Around}(r:Rg k A)(h:j<=k):Rg j A:=⟨r.room.mono h,r.gd⟩
theorem Rg.deeper{k:Nat}{A:Around}(r:Rg (k+1) A)(env:PySem.Env):Rg k (A.deeper env):=⟨r.room.deeper env,r.gd⟩
theorem Rg.make{k:Nat}{A:Around}(r:Rg (k+1) A)(C:Addr)(us:List Value)(kw:List (Str×Value)):Rg k (A.under (.builtin "type.__call__" ⟨.ref C::us,kw⟩)):=by
 refine⟨r.room.make C us kw,?_⟩;simp only[Around.under]
 have e:(Code.builtin "type.__call__" ⟨.ref C::us,kw⟩).guards=[]:=by
  first | rfl | simp[Code.guards,Code.isGuard,guardIds]
 rw[e];exact r.gd
structure FnG(P:Program)(w:World)(K:pX)(mg:Str->Option Value)(base:Heap)(k:Nat)(f:Addr)(fd:FuncData)(ps:List Str)(sp:Sp):Prop where
 len:∀ vs H Q E,sp vs H Q E->vs.length=ps.length
 run:∀(A:Around) (outer:List PySem.Env) (s:Shared) (H:Hp) (args:Args) (us:List Value) (vs:List V) (Q:VK) (E:XK),Rg k A->Env0 P w K mg base A outer s H->BindsTo s fd args (ps.zip us)->Vals vs us->sp vs H Q E ->
  codeAny (model P w) A (.call (.ref f) args) (CR (L2.CX P w) outer P w H s Q E) s
abbrev Wx(E:XK):WX:=λc d _ H=>E c d H
def spD(K:pX)(cm:CM)(n:Nat)(F:Fc.F):Sp:=λvs H Q E=>∃ p s ds,RS K cm p s H/\RVs K p H ds vs/\ds.length=n/\Po K cm (Wx E) (RV K) p [] H (F ds s) Q
theorem zfA{p:List Addr}{H:Hp}{ds:List D}{vs:List V}{N:List Str}(r:RVs K p H ds vs):RE K p H (ds.map some++List.replicate (N.length - ds.length) none) (L2.start N vs):=by
 have hl:=r.length;refine⟨by simp[L2.start,hl],λi d h=>?_⟩;by_cases hi:i<ds.length
 . rw[rN (by simpa using hi)]at h;rw[sX]at h;obtain⟨d',h1,h2⟩:=tY.mp h;cases h2;obtain⟨v,h3,h4⟩:=r.get h1;refine⟨v,?_,h4⟩;unfold L2.start;rw[rN (by simpa[← hl]using hi),sX,h3];rfl
 . rw[rW (by simpa using hi),List.getElem?_replicate]at h;split at h <;> cases h
abbrev xj(P:Program)(w:World)(K:pX)(mg:Str->Option Value)(base:Heap)(N:List Str)(qual:Str)(scope:Scope)(f:Addr)(cdv:Value)(A:Around)(outer:List PySem.Env)(s:Shared)(H:Hp)(E:XK):Cx:=cxOf (L2.CX P w) P w K mg base N qual scope f cdv A outer s H E
section
variable{P:Program}{w:World}{mg:Str->Option Value}{base:Heap}{k:Nat}{f:Addr}{fd:FuncData}{x qual:Str}{params:Arguments}{body:List Stmt}{scope:Scope}{dvs:List V}{kws:List (Str×V)}{N ps:List Str}{b:C}
theorem FnG.of(F:FunD K x qual params body scope dvs kws f fd)(S:FnScope N ps scope)
  (hbody:∀(cdv:Value) (A:Around) (outer:List PySem.Env) (s:Shared) (H:Hp) (E:XK),Rg k (xj P w K mg base N qual scope f cdv A outer s H E).A->Takes (xj P w K mg base N qual scope f cdv A outer s H E) (Wx E) ->
   PassesOwn (model P w) (xj P w K mg base N qual scope f cdv A outer s H E).A (xj P w K mg base N qual scope f cdv A outer s H E).env (xj P w K mg base N qual scope f cdv A outer s H E).xe ->
   JSs (xj P w K mg base N qual scope f cdv A outer s H E) cm (Wx E) body b) :
  FnG P w K mg base (k+1) f fd ps (spD K cm ps.length (yt ps.length N.length b)):=by
 have len:∀ vs H Q E,spD K cm ps.length (yt ps.length N.length b) vs H Q E->vs.length=ps.length:=λvs H Q E ⟨p,s,ds,_,r,l,_⟩=>by rw[← r.length,l]
 obtain⟨oc,od,dV,kV,doc,pm,an,cdv,ct,osl,rfl,lk,hcd,_,_⟩:=F.ex;refine⟨len,λA outer s H args us vs Q E hr e0 hb r hsp=>?_⟩;have hl:=len _ _ _ _ hsp;have KX:K.In s.heap:=e0.mod.kin.keeps λb o e=>(e0.bs b o e).1;have lim:s.heap.NoLimit:=e0.mod.nolimit.keeps λb o e=>(e0.bs b o e).1
 have hkind:∀ y∈ps.zip us,scope.names.lookup y.1=some .local\/(scope.names.lookup y.1=some .cell/\((cellsFrom (s.heap.objs.size+1) scope.names []).lookup y.1).isSome=true):=λ⟨n,v⟩ hy =>
  (S.par n (List.of_mem_zip hy).1).elim .inl λq=>.inr ⟨q,PySem.W.cellsFrom_some _ _ _ (.inl q)⟩
 refine codeAny_call_function hr.room.depth (KX _ _ lk) rfl S.co S.gen rfl (PySem.W.codeRec_of KX hcd) (hb _ _ _ _ ?_);refine wpAny_newFunctionEnv_cells S.kind hkind λenv he s1 y=>?_;subst he;refine⟨lim.keeps y.toInCall.keep,codeAny_func ?_⟩;have ht:=hbody cdv A outer s H E (hr.deeper _) (takes_of (X:=xj P w K mg base N qual scope f cdv A outer s H E) rfl rfl rfl rfl) (passes_of (X:=xj P w K mg base N qual scope f cdv A outer s H E) rfl);have I:Inv (xj P w K mg base N qual scope f cdv A outer s H E) [] (L2.start N vs) H s1:=inv_start S hr.room.hd e0 hl r y;obtain⟨p,st,ds,rs,rv,hn,q⟩:=hsp
 have hq:tS K cm (Wx E) b { nx:=λ_ H'=>Q .non H',rt:=Q } (L2.start N vs) H:=by
  refine⟨p,_,st,zfA rv,rs,?_⟩;unfold yt at q;rw[if_pos hn,← hn]at q
  cases e:b (ds.map some++List.replicate (N.length - ds.length) none) st with
  | none=>rw[e]at q;exact q.elim
  | some rr =>
   rw[e]at q
   cases rr with
   | nx e' s'=>exact λp' H' σ' f rs' _=>q p' H' .non f rs' zhE
   | rt d s'=>exact q
   | bk _ _=>exact q.elim
   | ct _ _=>exact q.elim
   | xc c fs e' s'=>exact λp' H' σ' cls dd f rs' _ rx=>q p' H' cls dd f rs' rx
 refine wpAny_mono (ht.run [] s1 (L2.start N vs) H _ I hq) (λfl s' hs=>?_) λe s' hs=>hs
 have fin:∀{σ':L2.St}{H':Hp}{v:V}{u:Value},Inv (xj P w K mg base N qual scope f cdv A outer s H E) [] σ' H' s'->RelV v u->Q v H'->CE outer P w H s Q u s' :=
  λ{σ' H' v u} J rv q=>⟨v,H',J.os,J.bare,J.base,J.hok,rv,q⟩
 cases fl with
 | ret u =>
  obtain⟨v,σ',H',J,rv,q⟩:=hs;exact fin J rv q
 | next =>
  obtain⟨σ',H',J,q⟩:=hs;exact fin (v:=V.non) (u:=Value.none) J rfl q
 | brk =>
  obtain⟨_,_,_,q⟩:=hs;exact False.elim q
 | cont =>
  obtain⟨_,_,_,q⟩:=hs;exact False.elim q
end
def BindD(K:pX)(fd:FuncData)(ps:List Str)(dl:List D):Prop:=∃ ds dvs,Vals dvs ds/\Binds K fd ps ds/\∀ p H,RVs K p H dl dvs
structure FnV(P:Program)(w:World)(K:pX)(mg:Str->Option Value)(base:Heap)(cm:CM)(k:Nat)(f:Addr)(F:Fc.F)(dfls:List (List D)):Prop where
 ex:∃ n fd ps,FnG P w K mg base k f fd ps (spD K cm n F)/\(∀ ds s,ds.length≠n->F ds s=none)/\∀ dl∈dfls,BindD K fd ps dl
theorem zaG{np nn:Nat}{b:C}:∀ ds s,ds.length≠np->yt np nn b ds s=none:=λds s h=>by
 unfold yt;rw[if_neg h]
theorem Po.wish{p:List Addr}{σ:L2.St}{H:Hp}{r:Option (Res D)}{Q:VK}(q:Po K cm W (RV K) p σ H r Q):Po K cm (Wx λc d H=>W c d σ H) (RV K) p [] H r Q:=by
 match r,q with
 | some (.ok d s'),q=>exact q
 | some (.exc c fs s'),q=>exact q
section
variable{X:Cx}{k j:Nat}{f C:Addr}{F:Fc.F}{dfl:List D}{dfls:List (List D)}{x m:Str}{p pos apos:Pos}{e o:Expr}{es:List Expr}{fl:EL}{fo:E}
theorem znY(V:FnV X.prog X.w X.K X.mg X.base cm k f F dfls)(hr:Rg j X.A)(hk:k<=j)(tk:Takes X W)(hd:dfl∈dfls){pins:List (Addr×Obj)}{σ:L2.St}{H:Hp}{s:Shared}{Q:VK}{us:List Value}{vs:List L2.V}{pa:List Addr}{st:S}{ds:List D}
  (I:Inv X pins σ H s) (r:Vals vs us) (rs:RS X.K cm pa st H) (rv:RVs X.K pa H ds vs) (q:Po X.K cm W (RV X.K) pa σ H (F (ds++dfl) st) Q):wpAny (model X.prog X.w) X.A (call (.ref f) us) (EP X pins σ Q) X.xe s:=by
 obtain⟨n,fd,ps,G,ar,bd⟩:=V.ex;obtain⟨dd,dvs,r1,hb,r2⟩:=bd dfl hd
 have hn:(ds++dfl).length=n:=Classical.byContradiction λz=>by
  rw[ar _ _ z]at q;exact q
 have sp:spD X.K cm n F (vs++dvs) H Q (λc d H=>W c d σ H):=⟨pa,st,ds++dfl,rs,rv.append (r2 pa H),hn,q.wish⟩
 have r3:Vals (vs++dvs) (us++dd):=r.append r1
 have hl:(us++dd).length=ps.length:=by rw[← r3.length];exact G.len _ _ _ _ sp
 refine wpAny_call (codeAny_mono (G.run X.A X.stack s H ⟨us,[]⟩ (us++dd) (vs++dvs) Q _ (hr.mono hk) I.env0 (hb s us I.kIn hl) r3 sp) λr s' hq=>?_)
 cases r with
 | error e=>exact tk _ _ (XE.of_call I (λ_ _ _ h=>h) hq)
 | ok fl =>
  cases fl with
  | ret u=>exact I.after hq
  | next=>exact False.elim hq
  | brk=>exact False.elim hq
  | cont=>exact False.elim hq
structure FnAt(P:Program)(w:World)(K:pX)(mg:Str->Option Value)(base:Heap)(cm:CM)(k:Nat)(x:Str)(F:Fc.F)(dfls:List (List D)):Prop where
 ex:∃ f,FnV P w K mg base cm k f F dfls/\mg x=some (.ref f)/\PySem.W.keepIn K (.ref f)=true
theorem zau(V:FnAt X.prog X.w X.K X.mg X.base cm k x F dfls)(hr:Rg j X.A)(tk:Takes X W)(hk:k<=j)(hd:dfl∈dfls)(ha:JA X cm W (e::es) fl)(hg:Gl X x:=by rfl)(hdb:(x == ("__debug__":Str))=false:=by decide)
  (he:starEach (e::es) X.env=(false,eval e X.env)::starEach es X.env:=by rfl) (hpl:(backTo pos (starEach es X.env)).any (·.1)=false:=by rfl):JE X cm W (.Call (.Name x p) (e::es) [] pos) (zE F dfl fl):=by
 obtain⟨f,V,hm,kp⟩:=V.ex;refine⟨λpins s σ H Q I h=>?_⟩;obtain⟨pa,en,st,re,rs,q⟩:=h;refine wpAny_Call_Name_kw (ld_glob I hg hm ?_ hdb);refine PySem.W.callWith_K (h₀:=X.base) I.ok.mod.kin kp (thn (ha.run pos pins s σ H _ I ⟨pa,en,st,re,rs,Po.bnd (rel1:=RVs X.K) q⟩) λus s1 ⟨vs,H1,I1,r,q⟩=>⟨I1.kIn,?_⟩) he hpl;obtain⟨ds,p1,s1',f1,rs1,rv1,q⟩:=q;exact znY V hr hk tk hd I1 r rs1 rv1 q
structure MtAt(P:Program)(w:World)(K:pX)(mg:Str->Option Value)(base:Heap)(cm:CM)(k:Nat)(c m:Str)(F:Fc.F)(dfls:List (List D)):Prop where
 ex:∃ C f,cm.ins c=some C/\L2.Cls K C/\Meth K C m f/\FnV P w K mg base cm k f F dfls
theorem tD.meth{c:Str}{σ:L2.St}{H:Hp}{Q:VK}(h:tD K cm W (uC c m F dfl fo fl) σ H Q):tD K cm W fo σ H λx H1=>∃ a C dx gs,cm.ins c=some C/\x=.ref a/\H1 a=some (.ins C dx gs)/\gs.lookup m=none/\tL K cm W fl σ H1 λvs H2=>∃ pa st d ds,RS K cm pa st H2/\RV K pa H2 d x/\RVs K pa H2 ds vs/\Po K cm W (RV K) pa σ H2 (F (d::(ds++dfl)) st) Q:=by
 obtain⟨p,e,s,re,rs,q⟩:=h;refine⟨p,e,s,re,rs,(Po.bnd (rel1:=RV K) q).imp ?_⟩;rintro v H1 ⟨d,p1,s1,f1,rs1,rv,q1⟩;split at q1
 . rename_i n;split at q1
   . rename_i c' fs hn;split at q1
     . rename_i hc;obtain⟨rfl,hm⟩:=hc;have rv':=rv;simp only[RV]at rv';obtain⟨a,ha,rfl⟩:=rv';obtain⟨b,hb,u,e1,C,dx,gs,hC,rfl,rk⟩:=rs1.at hn;rw[ha]at hb;cases hb;refine⟨a,C,dx,gs,hC,rfl,e1,?_,p1,e,s1,re.mono f1,rs1,(Po.bnd (rel1:=RVs K) q1).imp ?_⟩
       . have:∀{fs:List (Str×D)}{gs:List (Str×V)},RKs K p1 H1 fs gs->fs.lookup m=none->gs.lookup m=none:=by
          intro fs
          induction fs with
          | nil=>intro gs r _;simp only[RKs]at r;subst r;rfl
          | cons z fs ih =>
           intro gs r hm;simp only[RKs]at r;obtain⟨v,r',rfl,r1,r2⟩:=r;obtain⟨z1,z2⟩:=z;by_cases hz:m=z1
           . subst hz;simp[List.lookup]at hm
           . have hz':(m == z1)=false:=by simpa using hz
             simp only[List.lookup,hz']at hm ⊢;exact ih r2 hm
         exact this rk hm
       . rintro vs H2 ⟨ds,p2,s2,f2,rs2,rv2,q2⟩;exact⟨p2,s2,_,ds,rs2,RV.mono f2 _ rv,rv2,q2⟩
     . exact q1.elim
   . exact q1.elim
 . exact q1.elim
theorem zcE{c:Str}{pl:Sem Bool}(V:MtAt X.prog X.w X.K X.mg X.base cm k c m F dfls)(hr:Rg j X.A)(tk:Takes X W)(hk:k<=j)(hd:dfl∈dfls)(ho:JE X cm W o fo)
  (ht:eval (.Call (.Attribute o m apos) [] [] pos) X.env=(do
   let ov ← eval o X.env
   standAt apos.atName
   let (f,first) ← holding [ov] (getMethod ov m pl)
   callWith pos f first (backTo pos (starEach [] X.env)) (backToKw pos (keywordEach [] X.env))):=by rfl) :
  JE X cm W (.Call (.Attribute o m apos) [] [] pos) (uC c m F dfl fo zj):=by
 obtain⟨C,f,hC,cl,mt,V⟩:=V.ex;refine⟨λpins s σ H Q I h=>?_⟩;refine PySem.W.methodCall_KW (pl:=pl) (thn (ho.run pins s σ H _ I (tD.meth h)) λu s1 ⟨x,H1,I1,rx,a,C',dx,gs,hC',ex,ea,l,q⟩=>?_) ht;rw[hC]at hC';cases hC';subst ex;obtain rfl:u=Value.ref a:=rx;refine getmeth_ok I1 ea cl mt l ?_;obtain⟨pa,en,st,re,rs,q⟩:=q;obtain⟨pb,sb,d,ds,rsb,rv,rvs,q⟩:=Po.ok (v:=([]:List L2.V)) q rs (by simp[RVs]);have e0:ds=[]:=pF.mp (by rw[rvs.length];rfl);subst e0;refine PySem.W.callWith_K0 (first:=[.ref a]) I1.kIn mt.kp (znY (us:=[.ref a]) (vs:=[L2.V.ref a]) (ds:=[d]) V hr hk tk hd I1 (.cons rfl .nil) rsb ?_ q);simp only[RVs];exact⟨_,_,rfl,rv,rfl⟩
structure MkAt(P:Program)(w:World)(K:pX)(mg:Str->Option Value)(base:Heap)(cm:CM)(k:Nat)(c:Str)(F:Fc.F)(dfls:List (List D)):Prop where
 ex:∃ C f,cm.ins c=some C/\L2.Mk K C f/\mg c=some (.ref C)/\FnV P w K mg base cm k f F dfls
theorem znZ{c:Str}(hC:cm.ins c=some C)(M:L2.Mk X.K C f)(V:FnV X.prog X.w X.K X.mg X.base cm k f F dfls)(hr:Rg j X.A)(hk:k+1<=j)(tk:Takes X W)(hd:dfl∈dfls){pins:List (Addr×Obj)}{σ:L2.St}{H:Hp}{s:Shared}{Q:VK}{us:List Value}{vs:List L2.V}{pa:List Addr}{st:S}{ds:List D}
  (I:Inv X pins σ H s) (r:Vals vs us) (rs:RS X.K cm pa st H) (rv:RVs X.K pa H ds vs)
  (q:Po X.K cm W (RV X.K) pa σ H (match F (.ref st.length::(ds++dfl)) (st++[.ins c []])with
    | some (.ok .non s')=>some (.ok (.ref st.length) s')
    | some (.exc x fs s')=>some (.exc x fs s')
    | _=>none) Q):wpAny (model X.prog X.w) X.A (call (.ref C) us) (EP X pins σ Q) X.xe s:=by
 obtain⟨n,fd,ps,G,ar,bd⟩:=V.ex;obtain⟨dd,dvs,r1,hb,r2⟩:=bd dfl hd;have hx:H (s.heap.objs.size+1)=none:=I.hok.fresh (Nat.le_succ _);have hdx:H s.heap.objs.size=none:=I.hok.fresh (tX _);have ne:s.heap.objs.size+1≠s.heap.objs.size:=Nat.succ_ne_self _;have k1:=vm (u:=HO.own (s.heap.objs.size+1)) hdx
 have hx2:(upd H s.heap.objs.size (.own (s.heap.objs.size+1))) (s.heap.objs.size+1)=none:=by rw[upd_ne ne];exact hx
 obtain⟨f1,rs1,e1⟩:=(rs.same k1).new (o:=.ins c []) (u:=.ins C s.heap.objs.size []) hx2 ⟨C,_,[],hC,rfl,by simp[RKs]⟩;have ft:=(Fut.same (p:=pa) k1).trans f1
 have hn:(D.ref st.length::(ds++dfl)).length=n:=Classical.byContradiction λz=>by
  rw[ar _ _ z]at q;exact q
 have I2:=Inv.made (C:=C) I
 have sp:spD X.K cm n F (L2.V.ref (s.heap.objs.size+1)::(vs++dvs)) (upd (upd H s.heap.objs.size (.own (s.heap.objs.size+1))) (s.heap.objs.size+1) (.ins C s.heap.objs.size [])) (λv H2=>v=.non/\Q (.ref (s.heap.objs.size+1)) H2) (λc d H=>W c d σ H):=by
  refine⟨_,_,.ref st.length::(ds++dfl),rs1,?_,hn,?_⟩
  . simp only[RVs];exact⟨_,_,rfl,vh e1,(rv.mono ft).append (r2 _ _)⟩
  . cases hf:F (.ref st.length::(ds++dfl)) (st++[.ins c []])with
    | none=>rw[hf]at q;exact q.elim
    | some rr =>
     rw[hf]at q
     cases rr with
     | exc x fs s'=>exact λp' H' cls dd f rs' rx=>q p' H' cls dd (ft.trans f) rs' rx
     | ok d s' =>
      cases d with
      | non=>exact λp' H' v f rs' rv'=>⟨zbE rv',q p' H' _ (ft.trans f) rs' (vh (f.pre _ _ e1))⟩
      | _=>exact q.elim
 have r3:Vals (L2.V.ref (s.heap.objs.size+1)::(vs++dvs)) (Value.ref (s.heap.objs.size+1)::(us++dd)):=.cons rfl (r.append r1)
 have hl:(Value.ref (s.heap.objs.size+1)::us++dd).length=ps.length:=by
  have e:=r3.length;rw[G.len _ _ _ _ sp]at e;exact e.symm
 refine wpAny_call (make_map (f:=f) I.kIn M.makes M.init (beq_iff_eq.mp M.fn) (codeAny_mono (G.run _ X.stack _ _ ⟨Value.ref (s.heap.objs.size+1)::us,[]⟩ (Value.ref (s.heap.objs.size+1)::(us++dd)) _ _ _ ((hr.mono hk).make C us [])
  (I2.env0.make C us []) (hb _ (Value.ref (s.heap.objs.size+1)::us) I2.kIn hl) r3 sp) λr s' hq'=>?_))
 cases r with
 | error e=>exact tk _ _ (XE.of_call I2 (λ_ _ _ h=>h) hq')
 | ok fl =>
  cases fl with
  | ret u =>
    obtain⟨v,H',I3,rv',ev,q3⟩:=I2.after hq';subst ev;exact⟨rv',⟨L2.V.ref (s.heap.objs.size+1),H',I3,rfl,q3⟩⟩
  | next=>exact False.elim hq'
  | brk=>exact False.elim hq'
  | cont=>exact False.elim hq'
theorem zfy{c:Str}(V:MkAt X.prog X.w X.K X.mg X.base cm k c F dfls)(hr:Rg j X.A)(tk:Takes X W)(hk:k+1<=j)(hd:dfl∈dfls)(ha:JA X cm W (e::es) fl)(hg:Gl X c:=by rfl)(hdb:(c == ("__debug__":Str))=false:=by decide)
  (he:starEach (e::es) X.env=(false,eval e X.env)::starEach es X.env:=by rfl) (hpl:(backTo pos (starEach es X.env)).any (·.1)=false:=by rfl):JE X cm W (.Call (.Name c p) (e::es) [] pos) (vD c F dfl fl):=by
 obtain⟨C,f,hC,M,hm,V⟩:=V.ex;refine⟨λpins s σ H Q I h=>?_⟩;obtain⟨pa,en,st,re,rs,q⟩:=h;refine wpAny_Call_Name_kw (ld_glob I hg hm ?_ hdb);refine PySem.W.callWith_K (h₀:=X.base) I.ok.mod.kin M.kp (thn (ha.run pos pins s σ H _ I ⟨pa,en,st,re,rs,Po.bnd (rel1:=RVs X.K) q⟩) λus s1 ⟨vs,H1,I1,r,q⟩=>⟨I1.kIn,?_⟩) he hpl;obtain⟨ds,p1,s1',f1,rs1,rv1,q⟩:=q;exact znZ hC M V hr hk tk hd I1 r rs1 rv1 q
end
theorem wV{X:Cx}:Takes X Wf:=λu s' ⟨_,_,_,_,_,_,_,_,_,_,_,_,_,_,_,_,w⟩=>w.elim
end Fc
namespace Fc
open PySem
def enc(s:S)(d:D):PyData:=(dat s 60 d).getD .none
def zcK(xs:List PyData):Bool:=(xs.all λx=>match x with
 | .tuple (_::_)=>true
 | _=>false)||xs.all λx=>match x with
 | .none=>false
 | .tuple _=>false
 | _=>true
def zbF(s:S)(ds:List D):Bool:=(dats s 60 ds).isSome&&sz ds.length&&((ds.map (enc s)).all λx=>(ds.map (enc s)).all λy=>PySem.W.alike x y)&&zcK (ds.map (enc s))
def zgr(s:S)(ds:List D):List D:=ds.mergeSort (PySem.W.dataLe false (enc s))
def zgZ:List D->M D:=λxs s=>match xs with
 | [.ref n]=>match s[n]? with
  | some (.lst ds)=>if zbF s ds then new (.lst (zgr s ds)) s else none
  | _=>none
 | _=>none
def zcZ:C:=λ_ _=>none
def zep:D->M D:=λx s=>match x with
 | .ref n=>match s[n]? with
  | some (.lst ds)=>new (.lst ds.reverse) s
  | _=>none
 | _=>none
end Fc
namespace Fc
open PySem PySem.Spec PyProof.Rows L2
variable{W:WX}
section
variable{K:pX}
mutual
theorem zdd(s:S):∀(n:Nat) (d:D) {x:PyData},dat s n d=some x->x.depth<=n
 | n,.non,x,h=>by cases n <;> (simp only[dat]at h;cases h;simp[PyData.depth])
 | n,.bl b,x,h=>by cases n <;> (simp only[dat]at h;cases h;simp[PyData.depth])
 | n,.int b,x,h=>by cases n <;> (simp only[dat]at h;cases h;simp[PyData.depth])
 | n,.str b,x,h=>by cases n <;> (simp only[dat]at h;cases h;simp[PyData.depth])
 | n,.rol b,x,h=>by cases n <;> (simp only[dat]at h;cases h)
 | 0,.tup b,x,h=>by simp only[dat]at h;cases h
 | 0,.ref b,x,h=>by simp only[dat]at h;cases h
 | 0,.stu b,x,h=>by simp only[dat]at h;cases h
 | n+1,.tup ds,x,h=>by
  simp only[dat,tY]at h;obtain⟨xs,h,rfl⟩:=h;have:=uZ s n ds h;simp only[PyData.depth];omega
 | n+1,.stu ds,x,h=>by
  simp only[dat,tY]at h;obtain⟨xs,h,rfl⟩:=h;have:=uZ s n ds h;simp only[PyData.depth];omega
 | n+1,.ref a,x,h=>by
  simp only[dat]at h;split at h
  . rename_i ds hl;obtain⟨xs,h',rfl⟩:=tY.mp h;have:=uZ s n ds h';simp only[PyData.depth];omega
  . cases h
theorem uZ(s:S):∀(n:Nat) (ds:List D) {xs:List PyData},dats s n ds=some xs->PyData.depthAll xs<=n
 | n,[],xs,h=>by cases n <;> (simp only[dats]at h;cases h;simp[PyData.depthAll])
 | n,d::ds,xs,h=>by
  simp only[dats]at h;split at h
  . rename_i x xs' e1 e2;cases h;have h1:=zdd s n d e1;have h2:=uZ s n ds e2;simp only[PyData.depthAll];omega
  . cases h
end
theorem zeV{s:S}:∀{ds:List D}{xs:List PyData},dats s 60 ds=some xs->(∀ d∈ds,dat s 60 d=some (enc s d))
 | [],_,_,d,h=>by cases h
 | e::ds,xs,h,d,hd=>by
  simp only[dats]at h;split at h
  . rename_i x xs' e1 e2
    rcases tU.mp hd with rfl | hd
    . unfold enc;rw[e1];rfl
    . exact zeV e2 d hd
  . cases h
theorem zdZ{p:List Addr}{H:Hp}{R:Value->D->Prop}:∀{ds:List D}{vs:List L2.V}{us:List Value},RVs K p H ds vs->Vals vs us->(∀ d∈ds,∀ v u,RV K p H d v->RelV v u->R u d)->PySem.W.EachIs R us ds
 | [],_,_,r,v,h=>by
  simp only[RVs]at r;subst r;cases v;exact .nil
 | d::ds,_,_,r,v,h=>by
  simp only[RVs]at r;obtain⟨x,r',rfl,r1,r2⟩:=r
  cases v with
  | cons a b=>exact .cons (h d (tH) x _ r1 a) (zdZ r2 b λd' hd=>h d' (tQ _ hd))
theorem zhV{p:List Addr}{H:Hp}:∀{ds:List D}{us:List Value},PySem.W.EachIs (λu d=>∃ v,RV K p H d v/\RelV v u) us ds->∃ vs,RVs K p H ds vs/\Vals vs us
 | [],_,h=>by cases h;exact⟨[],by simp[RVs],.nil⟩
 | d::ds,_,h=>by
  cases h with
  | cons a b =>
   obtain⟨v,h1,h2⟩:=a;obtain⟨vs,h3,h4⟩:=zhV b;refine⟨v::vs,?_,.cons h2 h4⟩;simp only[RVs];exact⟨v,vs,rfl,h1,h3⟩
end
section
theorem zfE{K:pX}{p:List Addr}{H:Hp}:∀ xs:List Int,RVs K p H (xs.map D.int) (xs.map L2.V.int)
 | []=>by simp[RVs]
 | x::xs=>by
  simp only[tM,RVs];exact⟨_,_,rfl,xQ x,zfE xs⟩
end
end Fc
namespace Fc
open PySem PySem.Spec PyProof.Rows L2
variable{K:pX}{cm:CM}
theorem zlA{P:Program}{w:World}{mg mb:Str->Option Value}{k:Nat}{fa a:Addr}{fd:FuncData}{x:Str}{Fn:Fc.F}{s1:Shared}{vs:List Value}{ns:List Int}{H:Hp}
  (KX:K.In s1.heap) (hns:s1.heap.Ns mainGlobals mg) (hb:s1.heap.Ns builtinsNs mb) (hbb:∀ x:Str,x≠"__name__"->mb x=bootBuiltins x) (hlim:s1.heap.NoLimit) (hg:s1.gens=#[])
  (ha:s1.heap.get? a=some { cls:=.type "list",data:=.seq vs.toArray }) (hr:Rg k callerA)
  (F:∀ base:Heap,K.In base->base.Ns mainGlobals mg->FnG P w K mg base k fa fd [x] (spD K cm 1 Fn)) (hbind:∀(s:Shared) (u:Value),BindsTo s fd ⟨[u],[]⟩ [(x,u)])
  (hF:∃ s',Fn [.rol (ns.map D.int)] []=some (.ok (.bl true) s')) (hO:Only H) (hS:SqL K H a (ns.map V.int)) (hok:HOk P w H s1.heap) (hA:∀ b,H b≠none->b=a) (hK:H a≠none->K.lookup a=none) :
  codeAny (model P w) callerA (.call (.ref fa) ⟨[.ref a],[]⟩) (λr s'=>r=.ok (.ret (.bool true))/\OldK s1.heap s'.heap/\s'.os=s1.os/\AllBare s'.gens) s1:=by
 have out:∀{b:Addr},H b=none\/b=a:=λ{b}=>by
  cases q:H b with
  | none=>exact .inl rfl
  | some u=>exact .inr (hA b (by rw[q];simp))
 have stays:∀{b:Addr}{o:Obj},s1.heap.get? b=some o->H b=none->(hidT s1.heap H).get? b=some o:=λe n=>hidT_get e n
 have nsK:∀{b:Addr}{m:Str->Option Value},s1.heap.Ns b m->(hidT s1.heap H).Ns b m:=λ{b m} ⟨o,es,ep,e,d,r⟩=>by
  refine⟨o,es,ep,stays e ?_,d,r⟩
  rcases out (b:=b)with z | rfl
  . exact z
  . rw[ha]at e;cases e;have d':Data.seq vs.toArray _=Data.dict es ep:=d;cases d'
 have hKb:K.In (hidT s1.heap H):=λb o e=>stays (KX b o e) (by
  rcases out (b:=b)with z | rfl
  . exact z
  . cases q:H b with
    | none=>rfl
    | some u=>rw[hK (by rw[q];simp)]at e;cases e)
 have hM:Mod K mg (hidT s1.heap H):=⟨hKb,nsK hns,⟨mb,nsK hb,hbb⟩,let ⟨mc,h1,h2⟩:=hlim;⟨mc,nsK h1,h2⟩⟩
 have noFr:∀ b:Addr,b∉frs []:=λb z=>absurd (show b∈([]:List Addr)from z) (by simp)
 have e0:Env0 P w K mg (hidT s1.heap H) callerA [] s1 H:=⟨rfl,hM,λb o e=>of_hidT e,Nat.le_of_eq (hidT_size _ _),trivial,λb z=>absurd z (noFr b),hok,.of_eq hg⟩
 obtain⟨sF,hF⟩:=hF
 have sp:spD K cm 1 Fn [V.ref a] H (λv _=>v=.bl true) (λ_ _ _=>False):=by
  refine⟨[],[],[.rol (ns.map D.int)],⟨rfl,qH,λn o b h=>by simp at h⟩,?_,rfl,?_⟩
  . simp only[RVs,RV];exact⟨_,_,rfl,⟨a,_,rfl,RolAt.of hO hS,zfE ns⟩,rfl⟩
  . rw[hF];exact λp' H' v _ _ rv=>jW rv
 refine codeAny_mono ((F _ hKb (nsK hns)).run callerA [] s1 H ⟨[.ref a],[]⟩ [.ref a] [V.ref a] _ _ hr e0 (hbind s1 (.ref a)) (.cons rfl .nil) sp) λr s' h=>?_
 cases r with
 | error e =>
  obtain⟨_,_,_,_,_,_,_,_,_,_,_,_,z⟩:=h;exact z.elim
 | ok fl =>
  cases fl with
  | next=>exact h.elim
  | brk=>exact h.elim
  | cont=>exact h.elim
  | ret u =>
    obtain⟨v,H',os,bare,un,hok',r',q⟩:=h;have q':v=.bl true:=q;subst q';obtain rfl:u=Value.bool true:=r';refine⟨rfl,OldK.of_keep λb o e=>?_,os,bare⟩
    cases q:H b with
    | none=>exact un.keep b o e q (noFr b) (by simp)
    | some u =>
     rcases hO b with z | ⟨ob,xs,z⟩
     . rw[q]at z;cases z
     . have z2:=un.frzs b ob _ z;obtain⟨e1,_⟩:=hok b _ z;obtain⟨e2,_⟩:=hok' b _ z2;rw[e]at e1;cases e1;exact e2
theorem zjX{l:PySem.W.OpenLaw}{n k:Nat}{q:Program}{loose:List Str}{XP:(Str->Option Value)->Heap->Prop}{YP:World->Heap->Prop}{d:DefRec}{x:Str}{Fn:Fc.F}
  (hn:l.most=some n) (hn2:n<=sizeLine) (hdf:d.params.defaults=[]) (hr:Rg k callerA) (hF:∀ ns:List Int,ns.length<=n->∃ s',Fn [.rol (ns.map D.int)] []=some (.ok (.bl true) s'))
  (F:∀(w:World) (mg:Str->Option Value) (fa:Addr) (h:Heap),YP w h->h.Ns mainGlobals mg->mg d.name=some (.ref fa) ->
    ∃(K:pX) (cm:CM) (fd:FuncData),K.In h/\(∀(s:Shared) (u:Value),BindsTo s fd ⟨[u],[]⟩ [(x,u)])/\∀ base:Heap,K.In base->base.Ns mainGlobals mg->FnG l.prog w K mg base k fa fd [x] (spD K cm 1 Fn)) :
  PySem.W.WalkO q loose XP YP l.row.toRowW d [] (λf vs=>PySem.call f vs):=by
 refine Att.attach_call hn hdf λw s0 s1 mg mb fa o pm cd doc a vs ns G Y ho hd hcd hmg hobj hints hlen hg=>?_;obtain⟨K,cm,fd,KX,hb,F⟩:=F w mg fa _ Y G.T.g hmg;have rv:=vals_ints hints;have lenV:=hints.length;have hl:ns.length<=sizeLine:=sW hlen hn2;have run:=λ{H:Hp}=>zlA (H:=H) (cm:=cm) KX G.T.g G.T.b G.T.builtins G.T.nolimit hg hobj hr F hb (hF ns hlen)
 cases hk:K.lookup a with
 | some o =>
  have e:=KX a o hk;rw[hobj]at e;cases e;exact run (H:=λ_=>none) (λ_=>.inl rfl) (.inr ⟨_,vs.toArray,_,hk,rfl,rfl,rfl,by rw[qW,lenV];exact hl,by simpa using rv⟩) (λb u z=>by cases z) (λb z=>absurd rfl z) λz=>absurd rfl z
 | none =>
  refine run (H:=λb=>if b=a then some (.frz { cls:=.type "list",data:=.seq vs.toArray } (.lst (ns.map V.int)))else none) (λb=>?_) (.inl (.inr ⟨_,if_pos rfl⟩)) (λb u z=>?_) (λb z=>?_) λ_=>hk
  . by_cases hb:b=a
    . exact .inr ⟨_,_,if_pos hb⟩
    . exact .inl (if_neg hb)
  . dsimp only at z;by_cases hb:b=a
    . rw[if_pos hb]at z;cases z;subst hb;exact⟨hobj,by rw[tR];exact hl,vs,_,rv,hobj⟩
    . rw[if_neg hb]at z;cases z
  . by_cases hb:b=a
    . exact hb
    . rw[if_neg hb]at z;exact absurd rfl z
theorem zdS{k:Nat}(h:3*k+200<recursionLimit:=by decide)(h2:16*k+300<cLine:=by decide)(hd:callerA.depth+3*k+5<recursionLimit:=by decide)(hu:callerA.units+16*k+200<cLine:=by decide):Rg k callerA:=⟨⟨rfl,hd,hu⟩,rfl⟩
theorem uY{x qual:Str}{params:Arguments}{body:List Stmt}{scope:Scope}{kws:List (Str×V)}{f:Addr}{fd:FuncData}{ps:List Str}(F:FunD K x qual params body scope [] kws f fd)
  (h:∀(kV doc pm:Value) (an:Option Addr) (cdv ct:Value) (us:List Value),us.length=ps.length->bindArgs (PySem.W.fnOf x qual params body scope .none kV doc pm an cdv ct) ⟨us,[]⟩=pure (ps.zip us)):BindD K fd ps [] :=
 ⟨[],[],.nil,F.bindsN h,λp H=>by simp[RVs]⟩
theorem zct{mg:Str->Option Value}{x:Str}{i:Int}(h:∃ t,mg x=some (.int i t)):GlobC K mg x (.int i):=⟨let ⟨t,e⟩:=h;⟨V.int i,_,e,⟨t,rfl⟩,λ_ _=>xQ i⟩⟩
theorem zaJ{mg:Str->Option Value}{x z:Str}(h:∃ t,mg x=some (.str z t)):GlobC K mg x (.str z):=⟨let ⟨t,e⟩:=h;⟨V.str z,_,e,⟨t,rfl⟩,λ_ _=>uN z⟩⟩
theorem fnAt_of{P:Program}{w:World}{mg:Str->Option Value}{base:Heap}{k:Nat}{f:Addr}{fd:FuncData}{x:Str}{ps:List Str}{np nn:Nat}{b:C}{dfls:List (List D)}(G:FnG P w K mg base k f fd ps (spD K cm np (yt np nn b)))(hm:mg x=some (.ref f))(kp:PySem.W.keepIn K (.ref f)=true)
 (hb:∀ dl∈dfls,BindD K fd ps dl):FnAt P w K mg base cm k x (yt np nn b) dfls:=⟨⟨f,⟨np,fd,ps,G,zaG,hb⟩,hm,kp⟩⟩
theorem zgC{κ:Type}{p:κ->Prop}{a:κ}(h:p a):∀ x∈[a],p x:=λx hx=>by
 rcases tU.mp hx with rfl | hx
 . exact h
 . cases hx
theorem all_cons{κ:Type}{p:κ->Prop}{a:κ}{l:List κ}(h:p a)(hl:∀ x∈l,p x):∀ x∈a::l,p x:=λx hx=>by
 rcases tU.mp hx with rfl | hx
 . exact h
 . exact hl x hx
theorem all_nil{κ:Type}{p:κ->Prop}:∀ x∈([]:List κ),p x:=λx hx=>by cases hx
theorem zmd{X:Cx}{W:WX}{st:Stmt}:JS X cm W st zcZ:=⟨λpins s σ H Dn I h=>by
 obtain⟨_,_,_,_,_,q⟩:=h
 exact q.elim⟩
theorem znT{X:Cx}{W:WX}{a:Expr}{fa:E}{k:Nat}{p1 p2 p3 pos:Pos}(ha:JE X cm W a fa):JE X cm W (.Subscript a (.Slice none none (some (.UnaryOp .USub (.Constant (.int 1) k p1) p2)) p3) pos) (e1 zep fa):=by
 refine(pe_revL ha).imp λσ H Q q=>?_;obtain⟨p,e,s,re,rs,q⟩:=tD.bnd q;refine⟨p,e,s,re,rs,q.imp ?_⟩;rintro x H1 ⟨p,e,s,d,re,rs,r1,q⟩;unfold zep at q;split at q
 . rename_i n;split at q
   . rename_i ds hn;obtain⟨t,vs,rfl,_,h1,rr⟩:=yu rs r1 hn;refine⟨t,vs,rfl,SqL.of h1,λb hb=>Po.newl q rs ?_ hb⟩;refine RVs.of_get (by simp[rr.length]) λi d v e1 e2=>?_;have hl:=rr.length
     have hi:i<ds.length:=by
      have:=(sU.mp e1).1;simpa using this
     rw[List.getElem?_reverse hi]at e1;rw[List.getElem?_reverse (by rw[← hl];exact hi),← hl]at e2;obtain⟨w,w1,w2⟩:=rr.get e1;rw[e2]at w1;cases w1;exact w2
   . exact q.elim
 . exact q.elim
end Fc
namespace Fc
open PySem PySem.Spec PyProof.Rows L2
variable{cm:CM}{W:WX}
def xR:List String:=["NoneType","bool","int","str","tuple","list","dict"]
structure IsCF(K:pX)(cm:CM)(mg:Str->Option Value)(x:Str)(sub:List Str):Prop where
 ex:∃ A,mg x=some (.ref A)/\(∀ t∈xR,PySem.W.kitOne K (.type t) (.ref A)=some false)/\∀ c C,cm.ins c=some C->C8.InsC K C/\PySem.W.kitOne K (.ref C) (.ref A)=some (sub.contains c)
end Fc
namespace Fc
open PySem PySem.Spec PyProof.Rows L2
variable{cm:CM}{W:WX}
def zne(K:pX)(C f:Addr):Bool:=match K.lookup C with
 | some ⟨.type "type",_,.cls cd,sl⟩=>(match cd.mro,sl.toList with
  | [.ref C',.type "object"],[_,_,_,_,some (.builtin n),_]=>decide (C'=C)&&(decide (n="object.__new__")&&(!cd.hasDel&&(PySem.W.nsOkIn K cd.ns&&(He.eqO (PySem.W.nsIn K cd.ns "__eq__") (some (some (.ref f)))&&He.eqO (PySem.W.nsIn K cd.ns "__ne__") (some none)))))
  | _,_=>false)&&(match K.lookup f with
   | some o=>decide (o.cls=.type "function")
   | none=>false)
 | _=>false
theorem zpW{K:pX}{h:Heap}{N:Addr}{mN:Str->Option Value}{x:Str}{v:Value}(X:K.In h)(G:h.Ns N mN)(e:PySem.W.nsIn K N x=some (some v)):mN x=some v:=by
 obtain⟨o,es,ep,h1,h2,_,h3⟩:=G;unfold PySem.W.nsIn at e;split at e
 . rename_i c d es' n' sl q;have z:=X _ _ q;rw[h1]at z;cases z;cases h2;split at e
   . rename_i en he;cases e;rw[← h3];unfold nsFind findBy;rw[← Array.find?_toList,he];rfl
   . split at e <;> cases e
 . cases e
theorem zlc{K:pX}{C f:Addr}(e:zne K C f=true){h:Heap}(X:K.In h){x:Addr}{o:Obj}(hx:h.get? x=some o)(hc:o.cls=.ref C):h.OwnEqNoNe x C f "object" [.type "object"]:=by
 unfold zne at e;split at e
 . rename_i dd cd sl ho;obtain⟨e1,e2⟩:=He.ba e;split at e1
   . rename_i C' k0 k1 k2 k3 n k5 hm hs;obtain⟨a1,e1⟩:=He.ba e1;obtain⟨a2,e1⟩:=He.ba e1;obtain⟨a3,e1⟩:=He.ba e1;obtain⟨a4,e1⟩:=He.ba e1;obtain⟨a5,a6⟩:=He.ba e1;have a1:=of_decide_eq_true a1;have a2:=of_decide_eq_true a2;subst a1 a2;have ns:h.Ns cd.ns (h.nsMap cd.ns):=.of_isNs (PySem.W.isNs_of_in X a4)
     have hsl:sl=#[k0,k1,k2,k3,some (.builtin "object.__new__"),k5]:=by
       obtain⟨l⟩:=sl;simp only at hs;rw[hs]
     split at e2
     . rename_i of hf;have hf2:=of_decide_eq_true e2;have eq1:=zpW X ns (He.eqO_ok a5);have ne1:=PySem.W.ns_none_of X ns (He.eqO_ok a6);obtain⟨nm,bs,mro,nsA,qn,hd,sn,sub,ab,col,del⟩:=cd
       have a3':del=false:=by
        cases del
        . rfl
        . cases a3
       dsimp only at hm ns eq1 ne1;subst hm hsl a3';refine⟨o,of,nm,qn,nsA,bs,hd,sn,sub,ab,col,dd,k0,k1,k2,k3,k5,"object.__new__",_,some (.builtin "object.__eq__"),hx,hc,X _ _ ho,ns,eq1,X _ _ hf,hf2,PySem.F.cmp_object.mro,PySem.F.cmp_object.eq.lookup,ne1⟩
     . cases e2
   . cases e1
 . cases e
structure EqAt(P:Program)(w:World)(K:pX)(mg:Str->Option Value)(base:Heap)(cm:CM)(k:Nat)(c:Str)(F:Fc.F):Prop where
 ex:∃ C f,cm.ins c=some C/\zne K C f=true/\PySem.W.findIn K (.ref C) "__eq__"=some (some (.ref f))/\PySem.W.isFn K (.ref f)=true/\FnV P w K mg base cm k f F [[]]
def zlS(c:Str)(F:Fc.F)(x y:D)(s:S):Option (Bool×S):=match x,y with
 | .ref m,.ref n=>match s[m]?,s[n]? with
  | some (.ins c1 _),some (.ins c2 _)=>if c1=c/\c2=c then match F [x,y] s with
    | some (.ok (.bl b) s')=>some (b,s')
    | _=>none
   else none
  | _,_=>none
 | _,_=>none
def zgi(c:Str)(F:Fc.F):D->D->M D:=λx y s=>(zlS c F x y s).map λr=>.ok (.bl (!r.1)) r.2
section
variable{X:Cx}{k j:Nat}{c:Str}{F:Fc.F}
def rOwn(K:pX)(cm:CM)(c:Str)(F:Fc.F)(g:Bool->Bool):R2:=λx y H Q=>∃ p s dx dy b s',RS K cm p s H/\RV K p H dx x/\RV K p H dy y/\zlS c F dx dy s=some (b,s')/\∀ p' H',Fut p H p' H'->RS K cm p' s' H'->Q (.bl (g b)) H'
theorem zjw{K:pX}{dx dy:D}{x y:V}{p:List Addr}{s s':S}{H:Hp}{b:Bool}(rs:RS K cm p s H)(rx:RV K p H dx x)(ry:RV K p H dy y)(e:zlS c F dx dy s=some (b,s')) :
   ∃ C a a' dx1 dx2 gs gs',cm.ins c=some C/\x=.ref a/\y=.ref a'/\H a=some (.ins C dx1 gs)/\H a'=some (.ins C dx2 gs')/\F [dx,dy] s=some (.ok (.bl b) s'):=by
 unfold zlS at e;split at e
 . rename_i m n;split at e
   . rename_i c1 fs1 c2 fs2 h1 h2;split at e
     . rename_i hc;obtain⟨rfl,rfl⟩:=hc;split at e
       . rename_i b' s2 hF;cases e;simp only[RV]at rx ry;obtain⟨a,ha,rfl⟩:=rx;obtain⟨a',ha',rfl⟩:=ry;obtain⟨t,ht,u,e1,C,d1,gs,hC,rfl,_⟩:=rs.at h1;obtain⟨t',ht',u',e1',C',d1',gs',hC',rfl,_⟩:=rs.at h2;rw[ha]at ht;cases ht;rw[ha']at ht';cases ht';rw[hC]at hC';cases hC';exact⟨C,a,a',d1,d1',gs,gs',hC,rfl,rfl,e1,e1',hF⟩
       . cases e
     . cases e
   . cases e
 . cases e
theorem run_eq{A:Around}(V:FnV X.prog X.w X.K X.mg X.base cm k f F [[]])(hr:Rg k A){pins:List (Addr×Obj)}{σ:L2.St}{H:Hp}{s:Shared}{a a':Addr}{p:List Addr}{st s':S}{dx dy:D}{b:Bool}{Q:VK}{E:Value->Shared->Prop}{Q':Value->Shared->Prop}
  (I:Inv X pins σ H s) (e0:Env0 X.prog X.w X.K X.mg X.base A X.stack s H) (rs:RS X.K cm p st H) (rx:RV X.K p H dx (.ref a)) (ry:RV X.K p H dy (.ref a')) (hF:F [dx,dy] st=some (.ok (.bl b) s')) (q:∀ p' H',Fut p H p' H'->RS X.K cm p' s' H'->Q (.bl b) H')
  (fin:∀ s',EP X pins σ (λv H'=>v=.bl b/\Q v H') (.bool b) s'->Q' (.bool b) s'):wpAny (model X.prog X.w) A (call (.ref f) [.ref a,.ref a']) Q' E s:=by
 obtain⟨n,fd,ps,G,ar,bd⟩:=V.ex;obtain⟨dd,dvs,r1,hb,r2⟩:=bd [] (tV.mpr rfl)
 have hdv:dvs=[]:=by have:=r2 p H;simpa[RVs]using this
 subst hdv;cases r1
 have hn:([dx,dy]:List D).length=n:=Classical.byContradiction λz=>by
  rw[ar _ _ z]at hF;cases hF
 have sp:spD X.K cm n F [L2.V.ref a,L2.V.ref a'] H (λv H'=>v=.bl b/\Q v H') (λ_ _ _=>False):=by
  refine⟨p,st,[dx,dy],rs,?_,hn,?_⟩
  . simp only[RVs];exact⟨_,_,rfl,rx,_,_,rfl,ry,rfl⟩
  . rw[hF]
    exact λp' H' v f rs' rv=>by
     cases jW rv;exact⟨rfl,q p' H' f rs'⟩
 have r3:Vals [L2.V.ref a,L2.V.ref a'] [Value.ref a,Value.ref a']:=.cons rfl (.cons rfl .nil)
 have hl:([Value.ref a,Value.ref a']++[]).length=ps.length:=by
  have:=G.len _ _ _ _ sp;simpa using this
 have hb':=hb s [Value.ref a,Value.ref a'] I.kIn hl;rw[sE]at hb';refine wpAny_call (codeAny_mono (G.run A X.stack s H ⟨[.ref a,.ref a'],[]⟩ _ _ _ _ hr e0 hb' r3 sp) λr s2 hq=>?_)
 cases r with
 | error e =>
  obtain⟨_,_,_,_,_,_,_,_,_,_,_,_,z⟩:=hq;exact z.elim
 | ok fl =>
  cases fl with
  | ret u =>
    have z:=I.after hq;obtain⟨v,H',I',rv,ev,q'⟩:=z;subst ev;cases rv;exact fin s2 ⟨.bl b,H',I',rfl,rfl,q'⟩
  | next=>exact False.elim hq
  | brk=>exact False.elim hq
  | cont=>exact False.elim hq
theorem zlQ(V:EqAt X.prog X.w X.K X.mg X.base cm k c F)(hr:Rg (j+1) X.A)(hk:k<=j):OpR X (compareOp .NotEq) (rOwn X.K cm c F not):=by
 intro pins s σ H x y v u Q I rx ry h;obtain⟨p,st,dx,dy,b,s',rs,r1,r2,e,q⟩:=h;obtain⟨C,a,a',d1,d2,gs,gs',hC,rfl,rfl,h1,h2,hF⟩:=zjw rs r1 r2 e;obtain⟨C0,f,hC0,he,hs,hf,VV⟩:=V.ex;rw[hC]at hC0;cases hC0;cases rx;cases ry;obtain⟨mA,J,_⟩:=ins_get I.hok h1;obtain⟨mB,J',_⟩:=ins_get I.hok h2;have X1:=zlc he I.kIn J.obj rfl;obtain⟨hp,g,d,t,os⟩:=s
 have rg:Rg j X.A.in1:=⟨hr.room.in1,hr.gd⟩
 refine compareOp_ne_ownEq PySem.F.cmp_object X1 J'.obj rfl (by have:=hr.room.un;omega) ?_
 exact run_eq VV (rg.mono hk) I I.env0.in1 rs r1 r2 hF (Q:=λ_ H'=>Q (.bl (!b)) H') q λs' z=>by
  obtain⟨v,H',I',rv,ev,q'⟩:=z;subst ev;exact⟨b,rfl,⟨.bl (!b),H',I',rfl,q'⟩⟩
theorem s_oNeI(V:EqAt X.prog X.w X.K X.mg X.base cm k c F)(hr:Rg (j+1) X.A)(hk:k<=j):S2 X cm (compareOp .NotEq) (zgi c F):=by
 refine⟨_,zlQ V hr hk,λW p s σ H x y dx dy Q rs rx ry q=>?_⟩;unfold zgi at q
 cases e:zlS c F dx dy s with
 | none=>rw[e]at q;exact q.elim
 | some r =>
  rw[e]at q;exact⟨p,s,dx,dy,r.1,r.2,rs,rx,ry,e,λp' H' f rs'=>q p' H' _ f rs' (jO _)⟩
end
end Fc
namespace Fc
open PySem PySem.Spec PyProof.Rows L2
variable{W:WX}
section
variable{X:Cx}{pins:List (Addr×Obj)}{σ:L2.St}{H:Hp}{s:Shared}
theorem zjk(I:Inv X pins σ H s){H':Hp}{h':Heap}{t':Nat}(k:∀ b u,s.heap.get? b=some u->h'.get? b=some u)(old:∀ b,b<s.heap.objs.size->H' b=H b)(sm:∀ b o,H b=some o->H' b=some o)
   (new:∀ b o,H' b=some o->H b=none->ObjOk X.prog X.w H' h' b o):Inv X pins σ H' { s with heap:=h',toks:=t' }:=by
 refine I.un ⟨λb u q _ _ _=>k b u q,λb u q _ _ _=>⟨u.slots,k b u q⟩,λb u q n _=>?_,λb u q _=>⟨u,k b u q⟩,λb xs q=>sm b _ q,λb o u q=>sm b _ q,λb ps q=>⟨#[],?_⟩⟩ λb u e=>?_
 . rw[old b (Heap.lt_size q)];exact n
 . rw[sm b _ q];simp
 . cases hb:H b with
   | none=>exact new b u e hb
   | some u0 =>
    have z:=sm b u0 hb;rw[e]at z;cases z;exact(I.hok b u hb).stay (λc v _ q=>k c v q) (λc q=>sm c _ q) λc xs q=>sm c _ q
def zlZ:V->List V->Hp->VK->Prop:=λx xs H Q=>∃(a:Addr) (kvs:List (L2.Key×V)),x=.ref a/\xs=[]/\H a=some (.dK kvs)/\∀ p,H p=none->Q (.ref p) (upd H p (L2.DX.itemsO p a))
theorem zhH:MtR X "dict.items" zlZ:=by
 intro pins s σ H x xs v us Q I rx rxs h;obtain⟨a,kvs,rfl,rfl,ha,q⟩:=h;cases rx;cases rxs;obtain⟨z,hd,vs,rel,dd⟩:=dk_of I.hok ha;obtain⟨es,ep,hm,_,_⟩:=dd.raw;refine DT.callItems (es:=es) (ep:=ep) hd hm ?_;have hf:H s.heap.objs.size=none:=I.hok.fresh (tX _);exact⟨.ref s.heap.objs.size,upd H s.heap.objs.size (L2.DX.itemsO s.heap.objs.size a),I.laid (t':=s.toks) (λb u e=>Heap.get?_push_of_some _ e) (tX _) (L2.DX.itemsO_ok (Heap.get?_push_size _ rfl)),rfl,q _ hf⟩
def zma:List V->Hp->VK->Prop:=λxs H Q=>∃(r a:Addr) (kvs:List (L2.Key×V)),xs=[.ref r]/\H r=some (L2.DX.itemsO r a)/\H a=some (.dK kvs) /\
 ∀(H':Hp) (l:Addr) (as:List Addr),Same H H'->H l=none->as.length=kvs.length->H' l=some (.lst (as.map V.ref))->(∀(i:Nat) b kv,as[i]?=some b->kvs[i]?=some kv->H' b=some (.tup [kV kv.1,kv.2]))->Q (.ref l) H'
theorem zdR(hc:X.calm=true):CallR X (.type "list") zma:=by
 intro pins s σ H xs us Q I r h;obtain⟨p,a,kvs,rfl,hp,ha,q⟩:=h;obtain rfl:=Vals.ref1 r;have view:s.heap.IsItemsView p a:=(show ObjOk X.prog X.w H s.heap p (L2.DX.itemsO p a)from I.hok p _ hp).1;obtain⟨z,hd,vs,rel,dd⟩:=dk_of I.hok ha;obtain⟨es,ep,hm,hsz,hev⟩:=dd.raw
 have hlen:es.size=kvs.length:=by rw[hsz];exact rel.length.symm
 refine PySem.W.dil_call (I.ok.hd hc) view hm (by rw[hlen];exact z) λh' tk acc c as hk hS hl hG hacc=>?_;have nd:as.Nodup:=List.Pairwise.imp (λh=>rO h) hG.rise
 have hal:as.length=kvs.length:=by rw[hl,hlen]
 have tupOf:∀(i:Nat) (b:Addr),as[i]?=some b->∃ kv,kvs[i]?=some kv/\ObjOk X.prog X.w H h' b (.tup [kV kv.1,kv.2]):=by
   intro i b hb;obtain⟨hi,hg⟩:=hG.pairs i b hb
   have hik:i<kvs.length:=by omega
   have hv:i<vs.length:=by rw[← rel.length];exact hik
   refine⟨kvs[i],rE hik,?_⟩;obtain⟨w',hw,h1,h2⟩:=paired_get (G:=λ(p:L2.Key×V) (q:L2.Key×Value)=>p.1=q.1/\RelV p.2 q.2) rel (rE hik);obtain⟨k1,k2⟩:=hev i hi w'.1 w'.2 (by rw[hw]);refine⟨by rw[sizeLine_eq];simp,[es[i].key,es[i].val],?_,_,hg,rfl,0,rfl⟩;refine .cons ?_ (.cons ?_ .nil)
   . rw[h1];exact relV_key k1
   . rw[k2];exact h2
 let H':Hp:=λb=>if b=s.heap.objs.size then some (.lst (as.map V.ref))else match as.findIdx? (λx=>x=b)with
   | some i=>match kvs[i]? with
     | some kv=>some (.tup [kV kv.1,kv.2])
     | none=>H b
   | none=>H b
 have big:∀ b∈as,s.heap.objs.size<b:=hG.above;have hL:H s.heap.objs.size=none:=I.hok.fresh (tX _);have hAs:∀ b∈as,H b=none:=λb hb=>I.hok.fresh (Nat.le_of_lt (big b hb));have e1:H' s.heap.objs.size=some (.lst (as.map V.ref)):=if_pos rfl
 have e2:∀ b,b≠s.heap.objs.size->b∉as->H' b=H b:=λb h1 h2=>by
   show(if b=s.heap.objs.size then _ else _)=_;rw[if_neg h1]
   have:as.findIdx? (λx=>decide (x=b))=none:=by
     rw[List.findIdx?_eq_none_iff];intro x hx;simp;intro e;exact h2 (e ▸ hx)
   rw[this]
 have e3:∀(i:Nat) b kv,as[i]?=some b->kvs[i]?=some kv->H' b=some (.tup [kV kv.1,kv.2]):=λi b kv h1 h2=>by
   have hb:=qQ h1;show(if b=s.heap.objs.size then _ else _)=_;rw[if_neg (Nat.ne_of_gt (big b hb))]
   have:as.findIdx? (λx=>decide (x=b))=some i:=by
     rw[List.findIdx?_eq_some_iff_getElem];obtain⟨hi,e⟩:=sU.mp h1;refine⟨hi,by simp[e],λj hj=>?_⟩;simp;intro z;have:=(List.getElem_inj nd (h₀:=by omega) (h₁:=hi)).mp (z.trans e.symm);omega
   rw[this];simp only[h2]
 have sm:Same H H':=λb o e=>by
   rw[e2 b (λz=>by rw[z,hL]at e;cases e) λz=>by rw[hAs b z]at e;cases e];exact e
 refine⟨.ref s.heap.objs.size,H',zjk I hk (λb hb=>e2 b (rO hb) λz=>absurd (big b z) (by omega)) sm (λb o e n=>?_),rfl,q H' _ as sm hL hal e1 e3⟩;by_cases hb:b=s.heap.objs.size
 . subst hb;rw[e1]at e;cases e;refine⟨by rw[tR,hal];exact z,as.map Value.ref,c,?_,?_⟩
   . have:∀ l:List Addr,Vals (l.map V.ref) (l.map Value.ref):=λl=>by
      induction l with
      | nil=>exact .nil
      | cons x l ih=>exact .cons rfl ih
     exact this as
   . rw[hS];congr 2;rw[← hacc]
 . by_cases hm':b∈as
   . obtain⟨i,hi⟩:=List.mem_iff_getElem?.mp hm';obtain⟨kv,hkv,ok⟩:=tupOf i b hi;rw[e3 i b kv hi hkv]at e;cases e;exact ok.stay (λc v _ q=>q) (λc q=>sm c _ q) λc xs q=>sm c _ q
   . rw[e2 b hb hm',n]at e;cases e
end
end Fc
namespace Fc
open PySem PySem.Spec PyProof.Rows L2
variable{cm:CM}{W:WX}
theorem zmh{K:pX}{p:List Addr}{s:S}{H H':Hp}{l:Addr}{o:O}(rs:RS K cm p s H)(sm:Same H H')(hl:H l=none)(ro:RO K cm (p++[l]) H' l o):Fut p H (p++[l]) H'/\RS K cm (p++[l]) (s++[o]) H'/\(p++[l])[s.length]?=some l:=by
 have f0:Fut p H p H':=Fut.same sm;have f:Fut p H (p++[l]) H':=.mk' (λn a e=>by rw[rN (sU.mp e).1];exact e) f0.tup f0.frz f0.xd;have hm:=rs.zen hl;refine⟨f,⟨by simp[rs.len],?_,λn o' b h1 h2=>?_⟩,by rw[← rs.len];simp⟩
 . rw[rK];refine⟨rs.nd,by simp,λx hx y hy e=>?_⟩;simp at hy;subst hy;subst e;exact hm hx
 . by_cases hn:n<s.length
   . rw[rN hn]at h1;rw[rN (by rw[rs.len];exact hn)]at h2;have q:=rs.ob n o' b h1 h2;obtain⟨u,e⟩:=q.some;exact q.keep f ((sm b u e).trans e.symm)
   . have e:n=s.length:=by
      have:=(sU.mp h1).1;simp at this;omega
     subst e;simp at h1;subst h1;rw[← rs.len]at h2;simp at h2;subst h2;exact ro
theorem zew{K:pX}{κ:Type}{p:List Addr}{H:Hp}:∀{ds:List (κ×D)}{vs:List (κ×V)}{i:Nat}{d:κ×D},RKs K p H ds vs->ds[i]?=some d->∃ v,vs[i]?=some (d.1,v)/\RV K p H d.2 v
 | [],_,_,_,_,e=>by simp at e
 | d::ds,_,0,_,h,e=>by
  simp only[RKs]at h;obtain⟨v,r,e',h1,_⟩:=h;simp at e;subst e;exact⟨v,by rw[e'];rfl,h1⟩
 | d::ds,_,i+1,d',h,e=>by
  simp only[RKs]at h;obtain⟨v,r,e',_,h2⟩:=h;obtain⟨w,q1,q2⟩:=zew (i:=i) (d:=d') h2 (by simpa using e);exact⟨w,by rw[e'];simpa using q1,q2⟩
theorem zin{K:pX}{κ:Type}{p:List Addr}{H:Hp}:∀{ds:List (κ×D)}{vs:List (κ×V)},RKs K p H ds vs->ds.length=vs.length
 | [],_,h=>by simp only[RKs]at h;rw[h];rfl
 | d::ds,_,h=>by
  simp only[RKs]at h;obtain⟨v,r,e,_,h2⟩:=h;rw[e,sS,sS,zin h2]
theorem zoa{K:pX}{p:List Addr}{H:Hp}(k:L2.Key):RV K p H (dOf k) (kV k):=by
 cases k <;> simp[dOf,kV,RV]
def xW:D->M D:=λx s=>match x with
 | .ref n=>match s[n]? with
  | some (.dK kvs)=>new (.lst (kvs.map pairD)) s
  | _=>none
 | _=>none
section
variable{X:Cx}{a:Expr}{fa:E}
theorem jV{p1 pos apos cpos:Pos}(hc:X.calm=true)(ha:JE X cm W a fa)(hm:X.mg "list"=none)(hg:Gl X "list":=by rfl)(hbase:attributeBase a "items" X.env (eval a X.env)=eval a X.env:=by rfl)(hline:(apos.endLine == cpos.line)=true:=by rfl)
   (he:starEach [.Call (.Attribute a "items" apos) [] [] cpos] X.env=(false,eval (.Call (.Attribute a "items" apos) [] [] cpos) X.env)::starEach [] X.env:=by rfl) (hpl:(backTo pos (starEach [] X.env)).any (·.1)=false:=by rfl) :
   JE X cm W (.Call (.Name "list" p1) [.Call (.Attribute a "items" apos) [] [] cpos] [] pos) (e1 xW fa):=by
 refine(pe_callTy (zdR hc) hg hm (by decide +kernel) (pa_cons (pe_bm0 PySem.F.plainAttrs_dict PySem.F.slot_dict_items PySem.F.type_dict_items zhH ha hbase hline) pa_nil he) (he:=he) (hpl:=hpl)).imp λσ H Q q=>?_;obtain⟨p,e,s,re,rs,q⟩:=tD.bnd q;refine⟨p,e,s,re,rs,q.imp ?_⟩;rintro v H1 ⟨p,e,s,d,re,rs,r1,q⟩;unfold xW at q;split at q
 . rename_i n;split at q
   . rename_i kvs hn;simp only[RV]at r1;obtain⟨t,ht,rfl⟩:=r1;obtain⟨t',ht',u,h1,ws,rfl,rk⟩:=rs.at hn;rw[ht]at ht';cases ht';refine⟨.inr (.inr (.inl ⟨rfl,.inl ⟨_,h1⟩⟩)),t,ws,rfl,rfl,h1,λr hr=>?_⟩;have sm0:=vm (u:=L2.DX.itemsO r t) hr;refine⟨r,t,ws,rfl,upd_same,sm0 _ _ h1,λH' l as sm hl hal hlst htup=>?_⟩;have sm1:Same H1 H':=λb o e=>sm b o (sm0 b o e)
     have hl1:H1 l=none:=by
      by_cases z:l=r
      . rw[z];exact hr
      . rw[upd_ne z]at hl;exact hl
     have f0:Fut p H1 (p++[l]) H':=.mk' (λn a e=>by rw[rN (sU.mp e).1];exact e) (Fut.same (p:=p) sm1).tup (Fut.same (p:=p) sm1).frz (Fut.same (p:=p) sm1).xd
     have ro:RO X.K cm (p++[l]) H' l (.lst (kvs.map pairD)):=by
      refine⟨_,hlst,_,rfl,RVs.of_get (by simp[hal,zin rk]) λi d v e1 e2=>?_⟩;rw[sX]at e1 e2;obtain⟨kv,h3,rfl⟩:=tY.mp e1;obtain⟨b,h4,rfl⟩:=tY.mp e2;obtain⟨w,h5,h6⟩:=zew rk h3;have h7:=htup i b (kv.1,w) h4 h5;simp only[pairD,RV,RVs];exact⟨b,_,rfl,h7,_,_,rfl,zoa kv.1,_,_,rfl,h6.mono f0,rfl⟩
     obtain⟨f,rs',e'⟩:=zmh rs sm1 hl1 ro;exact q _ H' _ f rs' (vh e')
   . exact q.elim
 . exact q.elim
end
end Fc
namespace Fc
open PySem PySem.Spec PyProof.Rows L2
variable{K:pX}
def zka(K:pX)(cs:List Str):CM:=⟨λc=>if c∈cs then some (He.ga K c)else none,λ_=>none,none⟩
theorem zkb{cs:List Str}{c:Str}{C:Addr}(h:(zka K cs).ins c=some C):c∈cs/\C=He.ga K c:=by
 unfold zka at h;dsimp only at h;split at h
 . rename_i hc;cases h;exact⟨hc,rfl⟩
 . cases h
theorem zpz{cs:List Str}{c:Str}(h:c∈cs):(zka K cs).ins c=some (He.ga K c):=if_pos h
def zrk(K:pX)(C:Addr):Bool:=He.eqO (PySem.W.findIn K (.ref C) "__class__") (some (some (.builtin "object.__class__"))) &&
 (He.eqO (PySem.W.specialIn K (.builtin "object.__class__") "__get__") (some (some (.builtin "getset_descriptor.__get__"))) &&
 (decide (PySem.W.takesIn K (.builtin "object.__class__")=some true)&&(decide (PySem.W.mroIn K C (.type "object")=some true)&&decide (PySem.W.kitOne K (.ref C) (.ref C)=some true))))
theorem zlr{C:Addr}(c:Cls K C)(h:zrk K C=true):C8.InsC K C:=by
 obtain⟨h1,h⟩:=He.ba h;obtain⟨h2,h⟩:=He.ba h;obtain⟨h3,h⟩:=He.ba h;obtain⟨h4,h5⟩:=He.ba h;exact⟨c,He.eqO_ok h1,He.eqO_ok h2,of_decide_eq_true h3,of_decide_eq_true h4,of_decide_eq_true h5⟩
def zlV(K:pX)(A:Addr):Bool:=xR.all λt=>decide (PySem.W.kitOne K (.type t) (.ref A)=some false)
def znN(K:pX)(C A:Addr)(b:Bool):Bool:=decide (PySem.W.kitOne K (.ref C) (.ref A)=some b)
def exB(cs:List Str)(isx:List (Str×List Str))(eqs flds:List Str)(ms:List (Str×Str))(K:pX):Bool :=
 (cs.all λc=>(He.Fa.cls c).ok K&&((He.Fa.mkr c).ok K&&((He.Fa.glo c).ok K&&(zrk K (He.ga K c)&&flds.all λf=>(He.Fa.noat c f).ok K)))) &&
 ((isx.all λx=>(He.Fa.glo x.1).ok K&&(zlV K (He.ga K x.1)&&cs.all λc=>znN K (He.ga K c) (He.ga K x.1) (x.2.contains c))) &&
 ((eqs.all λc=>zne K (He.ga K c) (He.ma K (He.ga K c) "__eq__"))&&ms.all λm=>(He.Fa.meth m.1 m.2).ok K))
section
variable{cs:List Str}{isx:List (Str×List Str)}{eqs flds:List Str}{ms:List (Str×Str)}{h:Heap}{mg:Str->Option Value}
structure ExOk(cs:List Str)(isx:List (Str×List Str))(eqs flds:List Str)(ms:List (Str×Str))(K:pX):Prop where
 ok:exB cs isx eqs flds ms K=true
theorem ExOk.c1(e:ExOk cs isx eqs flds ms K){c:Str}(hc:c∈cs):Cls K (He.ga K c)/\Mk K (He.ga K c) (He.ma K (He.ga K c) "__init__")/\(He.Fa.glo c).ok K=true/\C8.InsC K (He.ga K c)/\∀ f∈flds,NoAttr K (He.ga K c) f:=by
 obtain⟨h1,_⟩:=He.ba e.ok;have h2:=sO.mp h1 c hc;obtain⟨a1,h2⟩:=He.ba h2;obtain⟨a2,h2⟩:=He.ba h2;obtain⟨a3,h2⟩:=He.ba h2;obtain⟨a4,a5⟩:=He.ba h2;exact⟨He.cls_ok a1,He.mkr_ok a2,a3,zlr (He.cls_ok a1) a4,λf hf=>He.noat_ok (sO.mp a5 f hf)⟩
theorem ExOk.fld(e:ExOk cs isx eqs flds ms K){f:Str}(hf:f∈flds):FldOk K (zka K cs) f:=by
 refine⟨λc C hC=>?_,λc C hC=>by cases hC⟩;obtain⟨hc,rfl⟩:=zkb hC;obtain⟨a,_,_,_,b⟩:=e.c1 hc;exact⟨a,b f hf⟩
theorem ExOk.is(e:ExOk cs isx eqs flds ms K)(X:K.In h)(G:h.Ns mainGlobals mg){x:Str}{sub:List Str}(hx:(x,sub)∈isx):IsCF K (zka K cs) mg x sub:=by
 obtain⟨_,h1⟩:=He.ba e.ok;obtain⟨h1,_⟩:=He.ba h1;have h2:=sO.mp h1 _ hx;obtain⟨a1,h2⟩:=He.ba h2;obtain⟨a2,a3⟩:=He.ba h2;refine⟨_,He.glo_ok X G a1,λt ht=>of_decide_eq_true (sO.mp a2 t ht),λc C hC=>?_⟩;obtain⟨hc,rfl⟩:=zkb hC;obtain⟨_,_,_,b,_⟩:=e.c1 hc;exact⟨b,of_decide_eq_true (sO.mp a3 c hc)⟩
theorem ExOk.meth(e:ExOk cs isx eqs flds ms K){c m:Str}(hm:(c,m)∈ms):Meth K (He.ga K c) m (He.ma K (He.ga K c) m):=by
 obtain⟨_,h1⟩:=He.ba e.ok;obtain⟨_,h1⟩:=He.ba h1;obtain⟨_,h1⟩:=He.ba h1;exact He.meth_ok (sO.mp h1 _ hm)
theorem ExOk.eq(e:ExOk cs isx eqs flds ms K){c:Str}(hc:c∈eqs):zne K (He.ga K c) (He.ma K (He.ga K c) "__eq__")=true:=by
 obtain⟨_,h1⟩:=He.ba e.ok;obtain⟨_,h1⟩:=He.ba h1;obtain⟨h1,_⟩:=He.ba h1;exact sO.mp h1 c hc
end
end Fc
namespace Fc
open PySem PySem.Spec PyProof.Rows L2
variable{cm:CM}{W:WX}
section
variable{X:Cx}
theorem s_list(hc:X.calm=true):SN X cm (.type "list") zcs:=by
 refine⟨λxs H Q=>(∃ p ys,xs=[.ref p]/\(SqL X.K H p ys\/SqT X.K H p ys)/\∀ l,H l=none->Q (.ref l) (upd H l (.lst ys)))\/(∃(a:Addr) (kvs:List (Key×V)),xs=[.ref a]/\Rd H a (.dK kvs)/\∀ p,H p=none->Q (.ref p) (upd H p (.lst (kvs.map λkv=>kV kv.1)))),
   λpins s σ H xs us Q I r h=>h.elim (λh=>call_list_of pins s σ H xs us Q I r h) (λh=>call_listD hc pins s σ H xs us Q I r h),λW p s σ H xs ds Q rs rv q=>?_⟩
 unfold zcs at q;split at q
 . rename_i ds;obtain⟨x,rfl,rx⟩:=xU rv;obtain⟨t,vs,rfl,h1,rr⟩:=xV rx;exact .inl ⟨t,vs,rfl,.inr (SqT.of h1),λl hl=>Po.newl q rs rr hl⟩
 . rename_i n;obtain⟨x,rfl,rx⟩:=xU rv;split at q
   . rename_i ds hn;obtain⟨t,vs,rfl,_,h1,rr⟩:=yu rs rx hn;exact .inl ⟨t,vs,rfl,.inl (SqL.of h1),λl hl=>Po.newl q rs rr hl⟩
   . rename_i kvs hn;simp only[RV]at rx;obtain⟨t,ht,rfl⟩:=rx;obtain⟨t',ht',u,h1,ws,rfl,rk⟩:=rs.at hn;rw[ht]at ht';cases ht';refine .inr ⟨t,ws,rfl,.inl h1,λl hl=>Po.newl q rs ?_ hl⟩;refine RVs.of_get (by simp[rk.length]) λi d v e1 e2=>?_;rw[sX]at e1 e2;obtain⟨kv,h3,rfl⟩:=tY.mp e1;obtain⟨w,h5,_⟩:=zew rk h3;rw[h5]at e2;cases e2;exact zfD kv.1
   . exact q.elim
 . exact q.elim
end
end Fc
namespace Fc
open PySem PySem.Spec PyProof.Rows L2
structure EScope(n:Str)(sc:Scope):Prop where
 kind:sc.kind=.function
 co:sc.isCoroutine=false
 gen:sc.isGenerator=false
 self:sc.names.lookup ("self":Str)=some .local
 par:sc.names.lookup n=some .local
 sup:sc.names.lookup ("super":Str)=some .globalImplicit
 cls:sc.names.lookup ("__class__":Str)=some .free
 nocell:∀ y∈sc.names,y.2≠.cell
 free1:∀ y∈sc.names,y.2=.free->y.1=("__class__":Str)
 ne:("self":Str)≠n
section
variable{P:Program}{w:World}{K:pX}{mg:Str->Option Value}{base:Heap}
abbrev uh(qual:Str)(sc:Scope)(L f cda cc:Addr):PySem.Env:=PySem.W.ksEnv qual sc L f (.ref cda) cc
def vH(P:Program)(w:World)(K:pX)(mg:Str->Option Value)(base:Heap)(n qual:Str)(sc:Scope)(f cda cc:Addr)(A:Around)(outer:List PySem.Env)(s:Shared)(H:Hp)(E:XK):Cx where
 prog:=P
 w:=w
 K:=K
 mg:=mg
 base:=base
 A:=A.deeper (uh qual sc s.heap.objs.size f cda cc)
 N:=["self",n]
 s_0:=s
 H_0:=H
 env:=uh qual sc s.heap.objs.size f cda cc
 outer:=outer
 stack:=uh qual sc s.heap.objs.size f cda cc::outer
 ex:=[]
 calm:=true
 fn:=λx=>decide (x≠("__class__":Str))
 pn:=[]
 xe:=λe s'=>wpAny (model P w) (A.deeper (uh qual sc s.heap.objs.size f cda cc)) (leaving (uh qual sc s.heap.objs.size f cda cc) e) (λ_ s''=>L2.CX P w outer H s E e s'') (λe' s''=>L2.CX P w outer H s E e' s'') s'
theorem zdc{cc c:Addr}{x:Str}(h:List.lookup x [(("__class__":Str),cc)]=some c):x="__class__"/\c=cc:=by
 by_cases e:x=("__class__":Str)
 . subst e;simp[List.lookup]at h;exact⟨rfl,h.symm⟩
 . have e':(x == ("__class__":Str))=false:=by simpa using e
   simp[List.lookup,e']at h
theorem zji{n qual:Str}{sc:Scope}{f cda cc C:Addr}{A:Around}{outer:List PySem.Env}{s:Shared}{h1:Heap}{tk:Nat}{H:Hp}{E:XK}{u0 u1:Value}{v0 v1:V}{cl:Value}{cld:Option Addr}{csl:Array (Option Value)}
   (S:EScope n sc) (hcell:K.lookup cc=some ⟨cl,cld,.cell (some (.ref C)),csl⟩) (hd:A.handled=none) (e0:Env0 P w K mg base A outer s H) (r0:RelV v0 u0) (r1:RelV v1 u1)
   (hns:h1.Ns s.heap.objs.size (λx=>[(("self":Str),u0),(n,u1)].reverse.lookup x)) (hk:∀ b o,s.heap.get? b=some o->h1.get? b=some o) :
   Inv (vH P w K mg base n qual sc f cda cc A outer s H E) [] [some v0,some v1] H { s with heap:=h1,toks:=tk }:=by
 have noA:∀ b:Addr,b∉(vH P w K mg base n qual sc f cda cc A outer s H E).ex:=λb z=>absurd (show b∈([]:List Addr)from z) (by simp);have hb:=e0.mod.kin _ _ hcell;have hs:=(e0.bs _ _ hb).1
 refine⟨⟨e0.mod,S.kind,rfl,rfl,tX _,λy z c h1 h2=>?_,λy hy=>?_,λy c hf h=>?_,λ_=>hd,Around.frames_deeper e0.frames,.inr ⟨rfl,rfl⟩,λb z=>absurd z (noA b),e0.bs,e0.bsz,λb _ _=>noA b,λb z=>absurd z (noA b),e0.funs,e0.frf⟩,
   rfl,e0.bare,Un.kept hk,⟨_,hns,λi y v h1 h2 h3=>?_⟩,λy c h=>?_,e0.hok.fresh (tX _),λy c h=>?_,λp hp=>absurd (show p∈([]:List (Addr×Obj))from hp) (by simp),e0.hok.kept hk,rfl⟩
 . rw[(zdc h1).1,(zdc h2).1]
 . have hy:sc.names.lookup y=some .cell\/sc.names.lookup y=some .free:=hy
   rcases hy with hy | hy
   . exact absurd rfl (S.nocell _ (PySem.mem_of_lookup hy))
   . have e:=S.free1 _ (PySem.mem_of_lookup hy) rfl;dsimp only at e;subst e;exact⟨cc,rfl⟩
 . exact absurd (zdc h).1 (of_decide_eq_true hf)
 . match i,h1,h2 with
   | 0,h1,h2 =>
     obtain rfl:("self":Str)=y:=by simpa using (show(["self",n]:List Str)[0]?=some y from h1)
     obtain rfl:v0=v:=by simpa using h2
     refine⟨u0,r0,.inl ⟨S.self,?_⟩⟩
     have e:(("self":Str) == n)=false:=by simpa using S.ne
     simp[List.lookup,e]
   | 1,h1,h2 =>
     obtain rfl:n=y:=by simpa using (show(["self",n]:List Str)[1]?=some y from h1)
     obtain rfl:v1=v:=by simpa using h2
     refine⟨u1,r1,.inl ⟨S.par,?_⟩⟩;simp[List.lookup]
   | i+2,h1,h2=>simp at h2
 . obtain⟨_,rfl⟩:=zdc h;exact⟨_,⟨_,hk _ _ hs,rfl⟩⟩
 . obtain⟨_,rfl⟩:=zdc h;exact(e0.bs _ _ hb).2
end
structure ErrK(P:Program)(K:pX)(mg:Str->Option Value)(n qual:Str)(sc:Scope)(body:List Stmt)(C f cda cc:Addr)(fd:FuncData):Prop where
 fn:∃ name params dV kV doc pm an ct,fd=PySem.W.ksFn name qual params body sc dV kV doc pm an (.ref cda) ct cc/\∃ ar,(params.posonlyargs++params.args).head?=some ar/\ar.arg=("self":Str)
 at_:∃ oc od osl,K.lookup f=some ⟨oc,od,.func fd,osl⟩
 code:PySem.W.codeIn K (.ref cda) qual=true
 codeAt:∃ ccl cdd vs ccs file tf,K.lookup cda=some ⟨ccl,cdd,.fields vs,ccs⟩/\vs[2]?=some (.str file tf)/\((P.main.file:Str) == file)=true
 cell:∃ cl cld csl,K.lookup cc=some ⟨cl,cld,.cell (some (.ref C)),csl⟩
 T:OexC K C
 mro:PySem.W.mroIn K C (.ref C)=some true
 sup:PySem.W.ks_superIn K C C "__init__"=some (some (.builtin "ValueError.__init__"))
 subV:PySem.W.subIn K (.ref C) (.type "ValueError")=some true
 third:PySem.W.nsIn K cStatics "thirdparty.any"=some none
 msup:mg "super"=none
 top:(P.main.scope.names.lookup ("super":Str)).isSome=false
 noF:PySem.W.findIn K (.ref C) n=some none
 sc:EScope n sc
section
variable{P:Program}{w:World}{K:pX}{mg:Str->Option Value}{base:Heap}{A:Around}{outer:List PySem.Env}{s0:Shared}{H0:Hp}{E0:XK}{n qual:Str}{sc:Scope}{body:List Stmt}{C f cda cc:Addr}{fd:FuncData}{p0 p1 pa pn pc pe:Pos}{a:Addr}{v:V}{H:Hp}{s:Shared}{E:Value->Shared->Prop}
theorem zgc(k:ErrK P K mg n qual sc body C f cda cc fd)(I:Inv (vH P w K mg base n qual sc f cda cc A outer s0 H0 E0) [] [some (.ref a),some v] H s)(e:H a=some (exo a C none))
  {pl:Sem Bool} (hint:interactive (uh qual sc s0.heap.objs.size f cda cc)=false) (hsw:swapsWith (.Call (.Attribute (.Call (.Name "super" p0) [] [] p1) "__init__" pa) [.Name n pn] [] pc) none pe.line (uh qual sc s0.heap.objs.size f cda cc)=pure false)
  (hev:eval (.Call (.Attribute (.Call (.Name "super" p0) [] [] p1) "__init__" pa) [.Name n pn] [] pc) (uh qual sc s0.heap.objs.size f cda cc)=(do
    let ov ← attributeBase (.Call (.Name "super" p0) [] [] p1) "__init__" (uh qual sc s0.heap.objs.size f cda cc) (eval (.Call (.Name "super" p0) [] [] p1) (uh qual sc s0.heap.objs.size f cda cc))
    standAt pa.atName
    let (g0,first) ← holding [ov] (getMethod ov "__init__" pl)
    callWith pc g0 first (backTo pc (starEach [.Name n pn] (uh qual sc s0.heap.objs.size f cda cc))) []))
  (hst:starEach [.Name n pn] (uh qual sc s0.heap.objs.size f cda cc)=(false,eval (.Name n pn) (uh qual sc s0.heap.objs.size f cda cc))::starEach [] (uh qual sc s0.heap.objs.size f cda cc)) (hpl:(backTo pc (starEach [] (uh qual sc s0.heap.objs.size f cda cc))).any (·.1)=false)
  (hdn:(n == ("__debug__":Str))=false) (hcn:(n == ("__classdict__":Str))=false) :
  _root_.PySem.wpAt (model P w) (vH P w K mg base n qual sc f cda cc A outer s0 H0 E0).A (.func body (uh qual sc s0.heap.objs.size f cda cc)) (exec (.Expr (.Call (.Attribute (.Call (.Name "super" p0) [] [] p1) "__init__" pa) [.Name n pn] [] pc) pe) (uh qual sc s0.heap.objs.size f cda cc))
    (λfl s'=>fl=.next/\Inv (vH P w K mg base n qual sc f cda cc A outer s0 H0 E0) [] [some (.ref a),some v] H s') (vH P w K mg base n qual sc f cda cc A outer s0 H0 E0).xe s:=by
 obtain⟨name,params,dV,kV,doc,pm,an,ct,hfd,ar,hp,har⟩:=k.fn;obtain⟨oc,od,osl,hf⟩:=k.at_;obtain⟨ccl,cdd,vs,ccs,file,tf,hcda,hvs,hfile⟩:=k.codeAt;obtain⟨cl,cld,csl,hcell⟩:=k.cell;obtain⟨t1,he⟩:=exo_at I.hok e;have hsc:=k.sc;obtain⟨mb,hb1,hb2⟩:=I.mod.blt;have hk0:(uh qual sc s0.heap.objs.size f cda cc).scope.kind=.function:=I.ok.kind
 have hks:(uh qual sc s0.heap.objs.size f cda cc).kindOf "super"=some .globalImplicit:=by exact hsc.sup
 have hkc:(uh qual sc s0.heap.objs.size f cda cc).kindOf "__class__"=some .free:=by exact hsc.cls
 have hka:(uh qual sc s0.heap.objs.size f cda cc).kindOf "self"=some .local:=by exact hsc.self
 have hkn:(uh qual sc s0.heap.objs.size f cda cc).kindOf n=some .local:=by exact hsc.par
 have hcs:(uh qual sc s0.heap.objs.size f cda cc).cells.lookup ("__class__":Str)=some cc:=rfl;have hfu:(uh qual sc s0.heap.objs.size f cda cc).func=some f:=rfl;have hco:(uh qual sc s0.heap.objs.size f cda cc).code=.ref cda:=rfl
 have hpar:(fd.params.posonlyargs++fd.params.args).head?=some ar:=by rw[hfd];exact hp
 obtain⟨cd,hcd⟩:∃ cd,PySem.W.clsIn K C=some cd:=by
  have:=k.sup;unfold PySem.W.ks_superIn at this
  cases hc:PySem.W.clsIn K C with
  | none=>rw[hc]at this;cases this
  | some cd=>exact⟨cd,rfl⟩
 have hsup:=k.sup;unfold PySem.W.ks_superIn at hsup;rw[hcd]at hsup
 obtain⟨oD,hD1,hD2⟩:∃ oD,K.lookup C=some oD/\oD.data=.cls cd:=by
  unfold PySem.W.clsIn at hcd;split at hcd
  . rename_i c d cd' sl ho;cases hcd;exact⟨_,ho,rfl⟩
  . cases hcd
 have iat:∀{h:Heap},h.get? a=some ({ cls:=.ref C,dict:=none,data:=.fields #[.ref t1,.none,.none,.none,.bool false,.none] }:Obj)->PySem.W.InstAt h a ({ cls:=.ref C,dict:=none,data:=.fields #[.ref t1,.none,.none,.none,.bool false,.none] }:Obj) C none:=λz=>⟨z,rfl,rfl,trivial⟩
 refine PySem.ks_wpAt_Expr_any (PySem.ks_wpAt_MethodCall ?_ hev) hint hsw;refine PySem.ks_wpAt_super_base hks hkc rfl hfu (I.kIn _ _ hf) rfl hpar hco (I.kIn _ _ hcda) rfl hvs hfile k.top ?_;refine PySem.W.ks_loadName_global hk0 hks (Calls.loadGlobal_builtin (I.mod.glob.keeps I.bk) k.msup (hb1.keeps I.bk) ((hb2 _ (by decide)).trans PyProof.Rows.Boot.«super») ⟨rfl,?_⟩);refine wpAny_loadName_free hk0 hkc hcs ⟨_,I.kIn _ _ hcell,rfl⟩ ?_;obtain⟨m,hn,hl⟩:=I.loc;obtain⟨u,rv,lk⟩:=hl 0 "self" (.ref a) (rfl) rfl (.inl (by exact hsc.self));obtain rfl:u=Value.ref a:=rv
 have hm:m "self"=some (.ref a):=by
  rcases lk with ⟨_,z⟩ | ⟨z,_⟩
  . exact z
  . rcases z with z | z
    . have z':=hka.symm.trans z;cases z'
    . have z':=hka.symm.trans z;cases z'
 rw[har];refine wpAny_loadName_local hk0 hka hn hm ?_;refine PySem.ks_wpAny_isType_cls (I.kIn _ _ hD1) hD2 ⟨rfl,?_⟩;obtain⟨hh,g,d,t,os⟩:=s;refine PySem.ks_wpAny_call_super (I.kIn _ _ hD1) hD2 he rfl (λc z=>by cases z) (PySem.W.looks_mroIn I.kIn k.mro) (λh1 e1 k1=>?_);have I1:Inv (vH P w K mg base n qual sc f cda cc A outer s0 H0 E0) [] [some (.ref a),some v] H ⟨h1,g,d,t,os⟩:=I.kept (t':=t) k1;have he1:=k1 _ _ he;refine PySem.W.kxs_getMethod PySem.W.kxs_ValueError e1 (PySem.W.looks_opaque I1.kIn k.third) (l₀:=cd.mro) (λA Q E s kk q=>wpAny_bind ((PySem.W.looks_clsIn I1.kIn hcd) A _ E s kk (wpAny_pure q))) rfl I1.kIn hsup ((iat he1).type.andThen (PySem.W.looks_subIn I1.kIn k.subV)) (PySem.W.ks_ne I1.kIn (iat he1) hcd) rfl ?_;have k2:∀ b o,h1.get? b=some o->(h1.push (PySem.W.kxs_mw "ValueError.__init__" a)).get? b=some o:=λb o z=>Heap.get?_push_of_some _ z;have I2:Inv (vH P w K mg base n qual sc f cda cc A outer s0 H0 E0) [] [some (.ref a),some v] H ⟨h1.push (PySem.W.kxs_mw "ValueError.__init__" a),g,d,t+1,os⟩:=I1.kept (t':=t+1) k2;have he2:=k2 _ _ he1;have hu2:(h1.push (PySem.W.kxs_mw "ValueError.__init__" a)).get? h1.objs.size=some (PySem.W.kxs_mw "ValueError.__init__" a):=Heap.get?_push_at rfl rfl;have hfr:H h1.objs.size=none:=I1.hok.fresh (tX _)
 have I3:Inv (vH P w K mg base n qual sc f cda cc A outer s0 H0 E0) [(h1.objs.size,PySem.W.kxs_mw "ValueError.__init__" a)] [some (.ref a),some v] H ⟨h1.push (PySem.W.kxs_mw "ValueError.__init__" a),g,d,t+1,os⟩:=I2.pins_of λp hp=>by
  rcases tV.mp hp with rfl
  exact⟨hu2,hfr,λz=>absurd I1.lt (by rw[← z];exact qX _),I1.nofs (tX _),λv z=>by cases z⟩
 have ha:PA (vH P w K mg base n qual sc f cda cc A outer s0 H0 E0) [.Name n pn] (tCons (tVar 1) tNil):=pa_cons (pe_var (i:=1) rfl (.inl hsc.par) hdn hcn) pa_nil hst;have hrun:=ha.run pc _ _ _ _ (λxs H1=>xs=[v]/\H1=H) I3 ⟨v,rfl,rfl,rfl⟩;show wpAny _ _ (callWith pc (.ref h1.objs.size) [] (backTo pc (starEach [.Name n pn] (uh qual sc s0.heap.objs.size f cda cc))) []) _ _ _
 have hcall:∀ us s3,AP (vH P w K mg base n qual sc f cda cc A outer s0 H0 E0) [(h1.objs.size,PySem.W.kxs_mw "ValueError.__init__" a)] [some (.ref a),some v] (λxs H1=>xs=[v]/\H1=H) us s3 ->
    PySem.W.KxsAt "ValueError.__init__" h1.objs.size a s3.heap/\wpAny (model P w) (vH P w K mg base n qual sc f cda cc A outer s0 H0 E0).A (call (.ref h1.objs.size) us) (λ_ s'=>Flow.next=Flow.next/\Inv (vH P w K mg base n qual sc f cda cc A outer s0 H0 E0) [] [some (.ref a),some v] H s') (vH P w K mg base n qual sc f cda cc A outer s0 H0 E0).xe s3:=by
  rintro us s3 ⟨xs,H3,I4,rv,rfl,rfl⟩;have hu:=(I4.pin _ (qd _ (List.mem_singleton_self _))).1;refine⟨hu,?_⟩
  have hz:us.length<=sizeLine:=by
    have:=rv.length;rw[← this,sizeLine_eq];simp
  obtain⟨nm,q,N,bs,bm,sn,sub,ab,col,dd,k0,k1',k2',k3,k5,hC,hbm⟩:=k.T.cls;obtain⟨t2,he3⟩:=exo_at I4.hok e;obtain⟨hp3,g3,d3,tk3,os3⟩:=s3;refine wpAny_call (codeAny_of_tree ?_);show wpAny _ _ (callAny (.ref h1.objs.size) ⟨us,[]⟩) _ _ _;simp only[callAny];refine wpAny_bind (wpAny_load hu ?_);simp only[PySem.W.kxs_mw,show(Value.type "method-wrapper" == Value.type "method"||Value.type "method-wrapper" == Value.type "builtin_function_or_method"||Value.type "method-wrapper" == Value.type "method-wrapper")=true by decide,if_true];refine PySem.W.KFB.if_so (by decide) ?_;refine wpAny_bind (PySem.W.check_bound_init PySem.F.excBase_ValueError.toExcCallFacts (I4.kIn _ _ hC) he3 rfl ?_);refine wpAny_bind (wpAny_pure (wpAny_pure ?_));refine⟨plainId_quiet PySem.F.excBase_ValueError.init.plain _,codeAny_builtin PySem.F.excBase_ValueError.initEntry ?_⟩;refine PySem.W.exc_init_tree (cls:=.ref C) (t0:=t2) (dv:=none) (c2:=.none) (c3:=.none) (b4:=.bool false) he3 hz λh' kk e' _=>?_;have J:=I4.write (t':=tk3) (x:=a) (e:=a) (o:=exo a C none) (by rw[e];exact True.intro) (.inl rfl) kk ⟨_,e'⟩ (exo_ok e')
  have eu:upd H3 a (exo a C none)=H3:=by
    funext b;by_cases hb:b=a
    . rw[hb,upd_same,e]
    . rw[upd_ne hb]
  rw[eu]at J;exact⟨by trivial,J.pins_of λp hp=>absurd hp (by simp)⟩
 have h:=thn hrun hcall;have hst':starEach [.Name n pn] (vH P w K mg base n qual sc f cda cc A outer s0 H0 E0).env=(false,eval (.Name n pn) (vH P w K mg base n qual sc f cda cc A outer s0 H0 E0).env)::starEach [] (vH P w K mg base n qual sc f cda cc A outer s0 H0 E0).env:=hst;rw[hst']at h;rw[hst];exact PySem.W.kxs_callWith (i:="ValueError.__init__") (x:=a) (by show(false||(backTo pc (starEach [] (uh qual sc s0.heap.objs.size f cda cc))).any (·.1))=false;rw[hpl];rfl) (Calls.evalArgs_plain h)
end
abbrev zgU(n:Str)(p0 p1 pa pn pc pe q1 q2 q3 q4:Pos):List Stmt :=
 [.Expr (.Call (.Attribute (.Call (.Name "super" p0) [] [] p1) "__init__" pa) [.Name n pn] [] pc) pe,.Assign [.Attribute (.Name "self" q1) n q2] (.Name n q3) q4]
structure EText(n qual:Str)(sc:Scope)(p0 p1 pa pn pc pe q1 q2 q3 q4:Pos):Prop where
 int:∀ L f cda cc,interactive (uh qual sc L f cda cc)=false
 sw:∀ L f cda cc,swapsWith (.Call (.Attribute (.Call (.Name "super" p0) [] [] p1) "__init__" pa) [.Name n pn] [] pc) none pe.line (uh qual sc L f cda cc)=pure false
 ev:∃ pl:Nat->Addr->Addr->Addr->Sem Bool,∀ L f cda cc,eval (.Call (.Attribute (.Call (.Name "super" p0) [] [] p1) "__init__" pa) [.Name n pn] [] pc) (uh qual sc L f cda cc)=(do
  let ov ← attributeBase (.Call (.Name "super" p0) [] [] p1) "__init__" (uh qual sc L f cda cc) (eval (.Call (.Name "super" p0) [] [] p1) (uh qual sc L f cda cc))
  standAt pa.atName
  let (g0,first) ← holding [ov] (getMethod ov "__init__" (pl L f cda cc))
  callWith pc g0 first (backTo pc (starEach [.Name n pn] (uh qual sc L f cda cc))) [])
 st:∀ L f cda cc,starEach [.Name n pn] (uh qual sc L f cda cc)=(false,eval (.Name n pn) (uh qual sc L f cda cc))::starEach [] (uh qual sc L f cda cc)
 pl:∀ L f cda cc,(backTo pc (starEach [] (uh qual sc L f cda cc))).any (·.1)=false
 sw2:∀ L f cda cc,swapsWith (.Name n q3) (some (.Attribute (.Name "self" q1) n q2)) q4.line (uh qual sc L f cda cc)=pure false
 dn:(n == ("__debug__":Str))=false
 cn:(n == ("__classdict__":Str))=false
section
variable{P:Program}{w:World}{K:pX}{mg:Str->Option Value}{base:Heap}{n qual:Str}{sc:Scope}{C f cda cc:Addr}{fd:FuncData}{p0 p1 pa pn pc pe q1 q2 q3 q4:Pos}
def zmM(C:Addr)(n:Str):Sp:=λvs H Q _=>∃(a:Addr) (v:V),vs=[.ref a,v]/\H a=some (exo a C none)/\∀ dx,H dx=none->dx≠a->Q .non (upd (upd H dx (exd dx [(n,v)])) a (exo a C (some dx)))
theorem znj{k:Nat}(e:ErrK P K mg n qual sc (zgU n p0 p1 pa pn pc pe q1 q2 q3 q4) C f cda cc fd)(t:EText n qual sc p0 p1 pa pn pc pe q1 q2 q3 q4):FnG P w K mg base (k+1) f fd ["self",n] (zmM C n):=by
 have len:∀ vs H Q E,zmM C n vs H Q E->vs.length=(["self",n]:List Str).length:=λvs H Q E ⟨_,_,h,_⟩=>by rw[h];rfl
 refine⟨len,λA outer s H args us vs Q E hr e0 hb r hsp=>?_⟩;obtain⟨a,v,rfl,ea,q⟩:=hsp;have KX:K.In s.heap:=e0.mod.kin.keeps λb o e=>(e0.bs b o e).1;have lim:s.heap.NoLimit:=e0.mod.nolimit.keeps λb o e=>(e0.bs b o e).1;obtain⟨name,params,dV,kV,doc,pm,an,ct,hfd,ar,hp,har⟩:=e.fn;obtain⟨oc,od,osl,hf⟩:=e.at_;obtain⟨cl,cld,csl,hcell⟩:=e.cell;have hS:=e.sc
 cases r with
 | @cons _ u0 _ ur ra rr =>
 cases rr with
 | @cons _ u1 _ ur2 rb rr2 =>
 cases rr2;subst hfd;refine PySem.ks_codeAny_call_defAt (fd:=PySem.W.ksFn name qual params (zgU n p0 p1 pa pn pc pe q1 q2 q3 q4) sc dV kV doc pm an (.ref cda) ct cc) (body:=zgU n p0 p1 pa pn pc pe q1 q2 q3 q4) (binds:=[("self",u0),(n,u1)]) hr.room.depth (KX _ _ hf) rfl lim (PySem.W.codeRec_of KX e.code) rfl hb hS.nocell (λy hy=>?_) (λh1 hns hk=>?_) hS.co hS.gen hS.kind
 . simp only[tU,su,or_false]at hy
   rcases hy with rfl | rfl
   . exact hS.self
   . exact hS.par
 have I:Inv (vH P w K mg base n qual sc f cda cc A outer s H E) [] [some (.ref a),some v] H { s with heap:=h1,toks:=s.toks+2 }:=zji hS hcell hr.room.hd e0 ra rb hns hk;obtain⟨pl,hev⟩:=t.ev;refine PySem.ks_wpAt_execs_cons (PySem.ks_wpAt_mono (zgc e I ea (t.int _ _ _ _) (t.sw _ _ _ _) (hev _ _ _ _) (t.st _ _ _ _) (t.pl _ _ _ _) t.dn t.cn) (λfl s' hs=>?_) λ_ _ z=>z);obtain⟨rfl,I1⟩:=hs
 have ht:PSs (vH P w K mg base n qual sc f cda cc A outer s H E) [.Assign [.Attribute (.Name "self" q1) n q2] (.Name n q3) q4] (tOst K n (tVar 0) (tVar 1)) :=
   pss_one (ps_ost (pe_var (i:=0) rfl (.inl hS.self)) (pe_var (i:=1) rfl (.inl hS.par) t.dn t.cn) (t.sw2 _ _ _ _))
 have hq:tOst K n (tVar 0) (tVar 1) { nx:=λ_ H'=>Q .non H',rt:=Q } [some (.ref a),some v] H :=
   ⟨v,rfl,.ref a,rfl,a,C,rfl,e.T,e.noF,.inl ⟨ea,λdx h1 h2=>q dx h1 h2⟩⟩
 refine wpAt_of_wpAny (wpAny_mono (ht.run [] s' _ H _ I1 hq) (λfl s2 hs=>?_) λ_ _ z=>z)
 have fin:∀{σ':L2.St}{H':Hp}{v:V}{u:Value},Inv (vH P w K mg base n qual sc f cda cc A outer s H E) [] σ' H' s2->RelV v u->Q v H'->CE outer P w H s Q u s2 :=
   λ{σ' H' v u} J rv q=>⟨v,H',J.os,J.bare,J.base,J.hok,rv,q⟩
 cases fl with
 | ret u =>
   obtain⟨v,σ',H',J,rv,q⟩:=hs;exact fin J rv q
 | next =>
   obtain⟨σ',H',J,q⟩:=hs;exact fin (v:=V.non) (u:=Value.none) J rfl q
 | brk =>
   obtain⟨_,_,_,q⟩:=hs;exact False.elim q
 | cont =>
   obtain⟨_,_,_,q⟩:=hs;exact False.elim q
end
structure ErrAt(P:Program)(w:World)(K:pX)(mg:Str->Option Value)(base:Heap)(cm:CM)(k:Nat)(c n:Str)(dfls:List (List D)):Prop where
 ex:∃ C f fd,cm.err c=some C/\mg c=some (.ref C)/\OexC K C/\FnG P w K mg base k f fd ["self",n] (zmM C n)/\PySem.W.findIn K (.ref C) "__init__"=some (some (.ref f))/\PySem.W.typeIn K (.ref f)=some (.type "function")/\∀ dl∈dfls,BindD K fd ["self",n] dl
section
variable{X:Cx}{cm:CM}{W:WX}{k j:Nat}{c n:Str}{dfls:List (List D)}{p pos rpos:Pos}
theorem znB{C f:Addr}{fd:FuncData}{ds:List Value}{dvs vs:List V}{us:List Value}{v:V}{pins:List (Addr×Obj)}{σ:L2.St}{H:Hp}{s:Shared}{Q:XK}(hT:OexC X.K C)(hF:FnG X.prog X.w X.K X.mg X.base k f fd ["self",n] (zmM C n))
  (hi:PySem.W.findIn X.K (.ref C) "__init__"=some (some (.ref f))) (ht:PySem.W.typeIn X.K (.ref f)=some (.type "function")) (hr:Rg j X.A) (hk:k+1<=j) (tk:Takes X W) (hb:Binds X.K fd ["self",n] ds) (hd:Vals dvs ds) (I:Inv X pins σ H s) (hv:Vals vs us) (he:vs++dvs=[v])
  (q:∀ dx,H dx=none->Q (.ref C) (some dx) (upd H dx (.xd [(n,v)]))):wpAny (model X.prog X.w) X.A (call (.ref C) us) (MkP X pins σ Q) X.xe s:=by
 obtain⟨nm,qn,N,bs,bm,sn,sub,ab,col,dd,k0,k1,k2,k3,k5,hC,hbm⟩:=hT.cls;obtain⟨hp,g,dr,tk0,os⟩:=s;have hsz:hp.objs.size<=hp.objs.size+1:=Nat.le_succ _;have hn:H (hp.objs.size+1)=none:=I.hok.fresh hsz
 have hus:us.length<=sizeLine:=by
  have h1:vs.length<=1:=by have:=congrArg List.length he;simp at this;omega
  rw[← Paired.length hv,sizeLine_eq];omega
 have keep:∀ b o,hp.get? b=some o->((hp.push (PySem.W.kdv_tup us)).push (PySem.HandSPX.excO C hp.objs.size)).get? b=some o:=λb o z=>Heap.get?_push_of_some _ (Heap.get?_push_of_some _ z)
 have hat:((hp.push (PySem.W.kdv_tup us)).push (PySem.HandSPX.excO C hp.objs.size)).get? (hp.objs.size+1)=some (PySem.HandSPX.excO C hp.objs.size):=by heap_get
 have J:Inv X pins σ (upd H (hp.objs.size+1) (exo (hp.objs.size+1) C none)) ⟨(hp.push (PySem.W.kdv_tup us)).push (PySem.HandSPX.excO C hp.objs.size),g,dr,tk0,os⟩ :=
  I.laid (t':=tk0) (a:=hp.objs.size+1) (o:=exo (hp.objs.size+1) C none) keep hsz (exo_ok hat)
 have rr:Vals (V.ref (hp.objs.size+1)::(vs++dvs)) (Value.ref (hp.objs.size+1)::(us++ds)):=.cons rfl (hv.append hd)
 have sp:zmM C n (V.ref (hp.objs.size+1)::(vs++dvs)) (upd H (hp.objs.size+1) (exo (hp.objs.size+1) C none)) (λu H2=>u=.non/\∃(d:Addr) (fs:List (Str×V)),H2 (hp.objs.size+1)=some (exo (hp.objs.size+1) C (some d))/\H2 d=some (exd d fs)/\H d=none/\Q (.ref C) (some d) (upd (del H2 (hp.objs.size+1)) d (.xd fs))) (λ_ _ _=>False):=by
  rw[he];refine⟨_,v,rfl,upd_same,λdx h1 h2=>⟨rfl,dx,[(n,v)],upd_same,?_,?_,?_⟩⟩
  . rw[upd_ne h2,upd_same]
  . rw[upd_ne h2]at h1;exact h1
  . have h1':H dx=none:=by rw[upd_ne h2]at h1;exact h1
    have e:upd (del (upd (upd (upd H (hp.objs.size+1) (exo (hp.objs.size+1) C none)) dx (exd dx [(n,v)])) (hp.objs.size+1) (exo (hp.objs.size+1) C (some dx))) (hp.objs.size+1)) dx (.xd [(n,v)])=upd H dx (.xd [(n,v)]):=by
     funext b;by_cases hb:b=dx
     . rw[hb,upd_same,upd_same]
     . rw[upd_ne hb,upd_ne hb];by_cases hb2:b=hp.objs.size+1
       . rw[hb2,del_same,hn]
       . rw[del_ne hb2,upd_ne hb2,upd_ne hb,upd_ne hb2]
    rw[e];exact q dx h1'
 have hlen:(Value.ref (hp.objs.size+1)::us++ds).length=(["self",n]:List Str).length:=by
  have z:=rr.length;rw[he]at z;simpa using z.symm
 refine wpAny_call (PySem.HandSPX.call_own PySem.F.excBase_ValueError (λY=>PySem.HandSPX.refsVE_contains Y bm hbm) (I.kIn _ _ hC) (PySem.W.looks_findIn I.kIn hi) (λself=>PySem.W.bind_fn I.kIn self ht) hus
  (codeAny_mono (hF.run _ X.stack _ _ ⟨Value.ref (hp.objs.size+1)::us,[]⟩ (Value.ref (hp.objs.size+1)::(us++ds)) _ _ (λ_ _ _=>False) ((hr.mono hk).make C us []) (J.env0.make C us []) (hb _ (Value.ref (hp.objs.size+1)::us) J.kIn hlen) rr sp) λr s' hq=>?_))
 cases r with
 | error er=>exact tk _ _ (XE.of_call J (λ_ _ _ z=>z.elim) hq)
 | ok f0 =>
  cases f0 with
  | ret u =>
    obtain⟨u',H2,os2,ag2,un2,hok2,ru,eu,d,fs,ea,ed,hd1,q2⟩:=hq;subst eu;obtain⟨h2,g2,d2,t2,os'⟩:=s';exact⟨ru,mk_end (raises_own hT.exC hT.tyC) I hsz keep un2 hok2 os2 ag2 ea ed hd1 q2⟩
  | next=>exact False.elim hq
  | brk=>exact False.elim hq
  | cont=>exact False.elim hq
variable{a:Expr}{fa:E}
theorem zlJ{K:pX}{dvs:List V}(h:∀ p H,RVs K p H [] dvs):dvs=[]:=by
 have:=h [] (λ_=>none);simpa[RVs]using this
theorem zab(V:ErrAt X.prog X.w X.K X.mg X.base cm k c n dfls)(h0:[]∈dfls)(hr:Rg j X.A)(hk:k+1<=j)(hc:X.calm=true)(tk:Takes X W)(ha:JE X cm W a fa)(hg:Gl X c:=by rfl)(hdb:(c == ("__debug__":Str))=false:=by decide)
  (hst:starEach [a] X.env=(false,eval a X.env)::starEach [] X.env:=by rfl) (hpl:(backTo pos (starEach [] X.env)).any (·.1)=false:=by rfl):JS X cm W (.Raise (some (.Call (.Name c p) [a] [] pos)) none rpos) (wy c n fa):=by
 obtain⟨C,f,fd,hC,hm,hT,hF,hi,ht,hb⟩:=V.ex;obtain⟨ds,dvs,hv,hbd,hz⟩:=hb [] h0;obtain rfl:=zlJ hz
 have mk:PMk X (.Call (.Name c p) [a] [] pos) (λσ H Q=>tD X.K cm W fa σ H λv H1=>∀ dx,H1 dx=none->Q (.ref C) (some dx) (upd H1 dx (.xd [(n,v)]))):=by
  intro pins s σ H Q I h;refine wpAny_Call_Name_kw (ld_glob I hg hm ?_ hdb);have ps:PA X [a] (tCons (tD X.K cm W fa) tNil):=pa_cons ha pa_nil hst;refine PySem.W.callWith_K (h₀:=X.base) I.ok.mod.kin hT.kC (thn (ps.run pos pins s σ H (λvs H1=>∃ v,vs=[v]/\∀ dx,H1 dx=none->Q (.ref C) (some dx) (upd H1 dx (.xd [(n,v)]))) I ?_) λus s1 ⟨vs,H1,I1,r1,v,ev,q⟩=>⟨I1.kIn,?_⟩) hst hpl
  . obtain⟨p,e,st,re,rs,q⟩:=h;exact⟨p,e,st,re,rs,q.imp λv H1 q=>⟨v,rfl,q⟩⟩
  . exact znB hT hF hi ht hr hk tk hbd hv I1 r1 (by rw[ev];rfl) q
 refine(ps_raise hc tk mk).imp ?_;rintro D σ H ⟨p,e,s,re,rs,q⟩;refine⟨p,e,s,re,rs,(PoS.ex (rel:=RV X.K) q re).imp ?_⟩;rintro v H1 ⟨d,p1,s1,f1,rs1,r1,q⟩ dx hdx;have sm:=vm (u:=HO.xd [(n,v)]) hdx;refine q p1 _ σ (.ref C) (some dx) (Fut.same sm) (rs1.same sm) ((re.mono f1).mono (Fut.same sm)) ⟨C,hC,rfl,[(n,v)],upd_same,?_⟩;simp only[RKs];exact⟨v,[],rfl,r1.mono (Fut.same sm),rfl⟩
end
section
variable{X:Cx}{n y:Str}{c:Value}
theorem tail_ok{Dn:Ends}{pins:List (Addr×Obj)}{pn':List (Addr×Obj)}{xe:Value->Shared->Prop}(ok:X.Ok){fl:Flow}{s1:Shared}(h:SP (X.tr (X.pn++pins) xe) pn' Dn fl s1):SP X pins Dn fl s1:=by
 cases fl with
 | next =>
  obtain⟨σ1,H1,J,q⟩:=h;exact⟨σ1,H1,J.ofTry ok,q⟩
 | brk =>
  obtain⟨σ1,H1,J,q⟩:=h;exact⟨σ1,H1,J.ofTry ok,q⟩
 | cont =>
  obtain⟨σ1,H1,J,q⟩:=h;exact⟨σ1,H1,J.ofTry ok,q⟩
 | ret u =>
  obtain⟨v,σ1,H1,J,r,q⟩:=h;exact⟨v,σ1,H1,J.ofTry ok,r,q⟩
theorem zlk{P:Program}{w:World}{H:Hp}{h:Heap}{a C:Addr}{dd:Option Addr}{oe:Obj}{vs:Array Value}(e:h.get? a=some oe)(z:Zc (.ref C) dd oe)(d:oe.data=.fields vs):ObjOk P w H h a (ErrO a C dd) :=
 ⟨⟨oe,vs,e,z.1,z.2,d⟩,⟨oe,e⟩,λ_ _ ⟨o,v,q,r⟩ k=>⟨o,v,k o q,r⟩⟩
theorem adopt{pins:List (Addr×Obj)}{σ:L2.St}{H:Hp}{s:Shared}{a:Addr}{o:HO}{oe:Obj}{vs:Array Value}(U:Inv X pins σ H s)(h0:X.s_0.heap.get? a=none)(ha:s.heap.get? a=some oe)(hd:oe.data=.fields vs)(na:H a=none)(nL:a≠X.env.locals)(np:∀ q∈X.pn++pins,q.1≠a)
   (new:ObjOk X.prog X.w (upd H a o) s.heap a o):Inv X pins σ (upd H a o) s:=by
 have nb:∀{b:Addr}{u:HO},H b=some u->b≠a:=λ{b u} e=>ne_of_none e na;refine⟨U.ok,U.os,U.bare,⟨U.base.keep,U.base.slot,λb u e n hx=>?_,U.base.there,λb xs e=>?_,λb u v e=>?_,λb ps e=>?_⟩,U.loc,U.cell,?_,λy c e=>?_,λq hq=>?_,U.hok.laidN (λ_ _ z=>z) na new,U.len⟩
 . have:b≠a:=λz=>by rw[z,h0]at e;cases e
   rw[upd_ne this];exact U.base.free b u e n hx
 . have z:=U.base.tups b xs e;rw[upd_ne (nb z)];exact z
 . have z:=U.base.frzs b u v e;rw[upd_ne (nb z)];exact z
 . obtain⟨more,z⟩:=U.base.tbls b ps e;exact⟨more,by rw[upd_ne (nb z)];exact z⟩
 . rw[upd_ne (sH nL)];exact U.free
 . have:c≠a:=λz=>by
    subst z;obtain⟨v,ic⟩:=U.cell y c e;obtain⟨o1,e1,e2⟩:=ic;rw[ha]at e1;cases e1;rw[hd]at e2;cases e2
   rw[upd_ne this];exact U.freeC y c e
 . obtain⟨z1,z2,z3,z4,z5⟩:=U.pin q hq;exact⟨z1,by rw[upd_ne (np q hq)];exact z2,z3,z4,z5⟩
end
structure CatAt(K:pX)(cm:CM)(mg:Str->Option Value)(x:Str)(sub:List Str):Prop where
 ex:∃ A,mg x=some (.ref A)/\∀ c C,cm.err c=some C->PySem.W.exmOne K (.ref C) (.ref A)=some (sub.contains c)
end Fc
namespace PySem.W
open PySem PySem.Spec PySem.Calls PyProof.Rows
section
variable{prog:Program}{w:World}{A:Around}{E:Value->Shared->Prop}{s:Shared}{K:Frag}{x D:Addr}{ox:Obj}{od:Option Obj}
theorem zea{C:Addr}{nm:Str}{v gt:Value}(c1:(clsIn K C).isSome=true)(c2:findIn K (.ref C) nm=some (some v))(c3:specialIn K v "__get__"=some (some gt))(c4:takesIn K v=some true):findObj K C od nm=some (.bind gt v):=by
 cases c5:clsIn K C with
 | none=>rw[c5]at c1;cases c1
 | some cd =>
  unfold findObj;rw[c5,Option.bind_some,c2,Option.bind_some];simp[c3,c4]
theorem zgb{Q:Option Value->Shared->Prop}(e:L2.ExcC K D)(KI:K.In s.heap)(I:InstAt s.heap x ox D od)(h:Q (some (.ref D)) { s with toks:=s.toks+1 }):wpAny (model prog w) A (getAttr? (.ref x) "__class__") Q E s:=by
 have fnd:findObj K D od "__class__"=some (.bind (.builtin "getset_descriptor.__get__") (.builtin "object.__class__")) :=
  zea (by obtain⟨cd,z,_⟩:=any_some e.hd;rw[z];rfl) e.ha e.hn e.ht
 obtain⟨hp,gn,dw,tk,os⟩:=s;have T0:=I.type (M:=model prog w);have T1:=looks_findIn (M:=model prog w) KI e.hg;have T2:=looks_findIn (M:=model prog w) KI e.hk;have T3:=looks_find (M:=model prog w) KI I fnd;have isB:Looks (model prog w) hp (isInstance (.ref x) (.type "BaseException")) true:=T0.andThen (looks_subIn KI e.hs);have n0:(false&&onTheHeap (Value.builtin "BaseException.__getattribute__"))=false:=rfl
 have n1:(onTheHeap (Value.ref D)&&Value.builtin "BaseException.__getattribute__" == Value.builtin "object.__getattribute__")=false:=by
  have z:(Value.builtin "BaseException.__getattribute__" == Value.builtin "object.__getattribute__")=false:=by
   decide +kernel
  rw[z];rfl
 unfold getAttr? getAttrBy?;unfold getAttrBy;refine wpAny_bind (wpAny_mkText (wpAny_bind (wpAny_attempt (wpAny_holding (wpAny_bind (T0.at (wpAny_bind (T1.at ?_))))))));show wpAny _ _ (if (onTheHeap (Value.ref D)&&_)=true then _ else _) _ _ _;rw[n1,if_neg qU];unfold getAttrByItsOwn hookBefore;refine wpAny_bind ?_;rw[if_pos (show onTheHeap (Value.ref D)=true from rfl)];refine T2.at ?_;refine wpAny_bind (wpAny_attempt (wpAny_holding ?_));unfold callGetattribute;rw[n0,if_neg qU];unfold boundAndCalled;rw[PySem.F.excAttr_ValueError.ga.bind (.ref x)];refine wpAny_bind (wpAny_pure ?_);show wpAny _ _ (call (.builtin "BaseException.__getattribute__") [.ref x,.str "__class__" tk]) _ _ _;refine wpAny_call (codeAny_call_builtin PySem.F.excAttr_ValueError.ga.plain PySem.F.entry_bexc_ga ?_);refine @check_slot (model prog w) _ _ ⟨hp,gn,dw,tk+1,os⟩ "BaseException.__getattribute__" "BaseException" "__getattribute__" (.ref x) [.str "__class__" tk] [] _ (by decide +kernel) (by decide +kernel) isB (PySem.F.args_bexc_ga (.ref x) (.str "__class__" tk)) ?_;unfold Builtin.«object.__getattribute__»;refine wpAny_bind (wpAny_of_eq (a:=((Value.ref x:Value),[Value.str "__class__" tk])) (by first | rfl | (simp only[slotArgs];rfl)) ?_);refine wpAny_bind (wpAny_pure (wpAny_bind (T0.at (wpAny_bind (T3.at ?_)))));show wpAny _ _ (holding [_] (call (.builtin "getset_descriptor.__get__") [.builtin "object.__class__",.ref x,.ref D]) >>= ret) _ _ _;refine wpAny_bind (wpAny_holding (wpAny_call (class_get (s:=⟨hp,gn,dw,tk+1,os⟩) (ox:=ox) (od:=od) KI I e.hm ?_)));refine wpAny_pure ?_;show wpAny _ _ (handedOut (.ref D)) _ _ _;rw[handedOut_of (v:=.ref D) rfl]
 first
  | exact wpAny_pure (wpAny_pure h)
  | exact wpAny_pure h
  | exact wpAny_pure (wpAny_bind (wpAny_pure (wpAny_pure h)))
theorem zlm(e:L2.ExcC K D):KitX K (.ref x) (.ref D) (λh=>InstAt h x ox D od) where
 ty:=λ_ _ _ I=>I.type
 it:=λ_ _ KI _=>by
  obtain⟨cd,z,_⟩:=any_some e.hd;unfold clsIn at z;split at z
  . rename_i c1 d1 cd1 sl1 ho;intro A1 Q1 E1 s1 k q;unfold isType loadHead;exact wpAny_bind (wpAny_loadPart (k _ _ (KI _ _ ho)) (wpAny_pure q))
  . cases z
 ne:=λh tp dd its n sl KI htp=>by
  obtain⟨cd,z,_⟩:=any_some e.hd;refine qY.mpr λq=>?_;have e2:D=tp:=Value.ref.inj (beq_iff_eq.mp q);subst e2;unfold clsIn at z;split at z
  . rename_i c1 d1 cd1 sl1 ho;have y:=(KI _ _ ho).symm.trans htp;cases y
  . cases z
 ca:=λKI I k=>zgb e KI I k
end
end PySem.W
namespace Fc
open PySem PySem.Spec PyProof.Rows L2
def zhQ(sub:List Str):D->M D:=λx s=>match x with
 | .ref n=>match s[n]? with
  | some (.ins c _)=>some (.ok (.bl (sub.contains c)) s)
  | some (.err c _)=>some (.ok (.bl (sub.contains c)) s)
  | some (.lst _)=>some (.ok (.bl false) s)
  | some (.dK _)=>some (.ok (.bl false) s)
  | some (.dT _)=>some (.ok (.bl false) s)
  | _=>none
 | .rol _=>none
 | .stu _=>none
 | _=>some (.ok (.bl false) s)
def zqt(K:pX):List V->Hp->VK->Prop:=λxs H Q=>∃(a C:Addr) (dd:Option Addr) (cv:V) (u:Value) (b:Bool),xs=[.ref a,cv]/\(∀ z,RelV cv z->z=u)/\H a=some (ErrO a C dd)/\(∀ x,dd=some x->∃ gs,H x=some (.xd gs))/\ExcC K C/\PySem.W.kitOne K (.ref C) u=some b/\Q (.bl b) H
section
variable{X:Cx}{cm:CM}{W:WX}
theorem zjd{pins:List (Addr×Obj)}{σ:L2.St}{H:Hp}{s:Shared}{a C:Addr}{dd:Option Addr}(I:Inv X pins σ H s)(ha:H a=some (ErrO a C dd))(hd:∀ x,dd=some x->∃ gs,H x=some (.xd gs)):∃ oe od,PySem.W.InstAt s.heap a oe C od:=by
 have h1:ObjOk X.prog X.w H s.heap a (ErrO a C dd):=I.hok a _ ha;obtain⟨⟨oe,vs,e1,e2,e3,e4⟩,_⟩:=h1
 cases dd with
 | none=>exact⟨oe,none,e1,e2,by unfold PySem.W.notCls;rw[e4],by rw[e3];trivial⟩
 | some dd =>
  obtain⟨gs,hd⟩:=hd dd rfl;have h2:ObjOk X.prog X.w H s.heap dd (.xd gs):=I.hok dd _ hd;obtain⟨mA,hns,_⟩:=h2;obtain⟨od,ho,_⟩:=lookIn_ns hns;exact⟨oe,some od,e1,e2,by unfold PySem.W.notCls;rw[e4],by rw[e3];exact ho⟩
theorem zgL:CallR X (.builtin "isinstance") (λxs H Q=>rIsi X.K xs H Q\/zqt X.K xs H Q):=by
 intro pins s σ H xs us Q I r h
 rcases h with h | ⟨a,C,dd,cv,u,b,rfl,hcv,ha,hd,ec,e,q⟩
 . exact call_isi pins s σ H xs us Q I r h
 . obtain⟨u1,u2,rfl,ra,rc⟩:=vals2 r;obtain rfl:u1=Value.ref a:=ra;obtain rfl:=hcv _ rc;obtain⟨oe,od,J⟩:=zjd I ha hd
   exact PySem.W.kia_one (PySem.W.zlm ec) I.kIn J e (λz=>by cases z) λtk=>⟨.bl b,H,I.tok tk,rfl,q⟩
structure IsCJ(K:pX)(cm:CM)(mg:Str->Option Value)(x:Str)(sub:List Str):Prop where
 ex:∃ A,mg x=some (.ref A)/\(∀ t∈xR,PySem.W.kitOne K (.type t) (.ref A)=some false)/\(∀ c C,cm.ins c=some C->C8.InsC K C/\PySem.W.kitOne K (.ref C) (.ref A)=some (sub.contains c)) /\
  ∀ c C,cm.err c=some C->ExcC K C/\PySem.W.kitOne K (.ref C) (.ref A)=some (sub.contains c)
variable{a:Expr}{fa:E}{pos:Pos}
theorem zmc{x:Str}{sub:List Str}{p1 p2:Pos}(T:IsCJ X.K cm X.mg x sub)(he:JE X cm W a fa)(hm:X.mg "isinstance"=none)(hg:Gl X "isinstance":=by rfl)(hgx:Gl X x:=by rfl)(hdb:(x == ("__debug__":Str))=false:=by decide)
  (he1:starEach [a,.Name x p2] X.env=(false,eval a X.env)::starEach [.Name x p2] X.env:=by rfl) (he2:starEach [.Name x p2] X.env=(false,eval (.Name x p2) X.env)::starEach [] X.env:=by rfl) (hpl:(backTo pos (starEach [.Name x p2] X.env)).any (·.1)=false:=by rfl) :
  JE X cm W (.Call (.Name "isinstance" p1) [a,.Name x p2] [] pos) (e1 (zhQ sub) fa):=by
 obtain⟨A,hA,hp,hi,hr⟩:=T.ex;refine(pe_callB zgL hg hm (by decide +kernel) (pa_cons he (pa_cons (pe_glob (v:=.ref A) hgx hA rfl hdb) pa_nil he2) he1) (he:=he1) (hpl:=hpl)).imp λσ H Q q=>?_;obtain⟨p,e,s,re,rs,q⟩:=tD.bnd q;refine⟨p,e,s,re,rs,q.imp ?_⟩;rintro v H1 ⟨p,e,s,d,re,rs,r1,q⟩
 have base:∀(T:String),T∈xR->TyX X.K H1 v (.type T)->Po X.K cm W (RV X.K) p σ H1 (some (.ok (.bl false) s)) Q->rIsi X.K [v,.ref A] H1 Q:=λT hT h1 q =>
  ⟨v,.ref A,.type T,.ref A,false,rfl,.own A,h1,hp T hT,Po.ok q rs (jO _)⟩
 unfold zhQ at q
 cases d with
 | non=>cases zbE r1;exact .inl (base "NoneType" (by simp[xR]) (.base .non) q)
 | bl b=>cases jW r1;exact .inl (base "bool" (by simp[xR]) (.base (.bl _)) q)
 | int b=>cases yo r1;exact .inl (base "int" (by simp[xR]) (.base (.int _)) q)
 | str b=>cases xq r1;exact .inl (base "str" (by simp[xR]) (.base (.str _)) q)
 | tup b =>
  obtain⟨t,vs,rfl,h1,rr⟩:=xV r1;exact .inl (base "tuple" (by simp[xR]) (.base (.tup h1)) q)
 | rol b=>exact q.elim
 | stu b=>exact q.elim
 | ref n =>
  simp only at q
  cases hn:s[n]? with
  | none=>rw[hn]at q;exact q.elim
  | some o =>
   rw[hn]at q;simp only[RV]at r1;obtain⟨t,ht,rfl⟩:=r1;obtain⟨t',ht',ro⟩:=rs.at hn;rw[ht]at ht';cases ht'
   cases o with
   | lst ds =>
    obtain⟨u,h1,vs,rfl,_⟩:=ro;exact .inl (base "list" (by simp[xR]) (.base (.lst h1)) q)
   | dK ds =>
    obtain⟨u,h1,vs,rfl,_⟩:=ro;exact .inl (base "dict" (by simp[xR]) (.base (.dK h1)) q)
   | dT ds =>
    obtain⟨u,h1,vs,rfl,_⟩:=ro;exact .inl (base "dict" (by simp[xR]) (.base (.dT h1)) q)
   | ins c fs =>
    obtain⟨u,h1,C,dx,gs,hC,rfl,_⟩:=ro;obtain⟨ic,k⟩:=hi c C hC;exact .inl ⟨.ref t,.ref A,.ref C,.ref A,sub.contains c,rfl,.own A,.base (.ins h1 ic.cl ic.ha ic.hn ic.htk ic.hm),k,Po.ok q rs (jO _)⟩
   | err c fs =>
    obtain⟨C,dd,hC,h1,h2⟩:=ro;obtain⟨ec,k⟩:=hr c C hC;exact .inr ⟨t,C,dd,.ref A,.ref A,sub.contains c,rfl,λz rz=>rz,h1,λx hx=>by subst hx;obtain⟨gs,h3,_⟩:=h2;exact⟨gs,h3⟩,ec,k,Po.ok q rs (jO _)⟩
   | lck o=>exact q.elim
   | dN o=>exact q.elim
end
def zsg:L2.Key->PyData
 | .inl i=>.int i
 | .inr x=>.str x
mutual
def zpA(s:S):Nat->D->Option PyData
 | _,.non=>some .none
 | _,.bl b=>some (.bool b)
 | _,.int i=>some (.int i)
 | _,.str x=>some (.str x)
 | 0,.tup _=>none
 | 0,.ref _=>none
 | 0,.stu _=>none
 | _,.rol _=>none
 | n+1,.tup ds=>(zgQ s n ds).map .tuple
 | n+1,.stu ds=>(zgQ s n ds).map .tuple
 | n+1,.ref a=>match s[a]? with
  | some (.lst ds)=>(zgQ s n ds).map .list
  | some (.dK kvs)=>(zgQ s n (kvs.map (·.2))).map λxs=>.dict ((kvs.map λkv=>zsg kv.1).zip xs)
  | _=>none
def zgQ(s:S):Nat->List D->Option (List PyData)
 | _,[]=>some []
 | n,d::r=>match zpA s n d,zgQ s n r with
  | some x,some xs=>some (x::xs)
  | _,_=>none
end
def SysOk(K:pX):Prop:=∃ o,K.lookup sysModules=some o/\o.cls=.type "dict"
structure EDef where
 c:Str
 n:Str
 name:Str
 qual:Str
 params:Arguments
 body:List Stmt
 sc:Scope
abbrev EW:Type:=Option (Str×Str×Arguments×FuncBody×Scope×Addr×List Str×Addr)
def zkg(K:pX)(c:Str):Addr:=He.ma K (He.ga K c) "__init__"
def ew(K:pX)(c:Str):EW:=match K.lookup (zkg K c)with
 | some ⟨_,_,.func fd,_⟩=>some (fd.name,fd.qualname,fd.params,fd.body,fd.scope,fd.globals,fd.closure.map (·.1),fd.builtins)
 | _=>none
def EDef.val(d:EDef):EW:=some (d.name,d.qual,d.params,.stmts d.body,d.sc,mainGlobals,["__class__"],builtinsNs)
def zqn(K:pX)(C:Addr):Bool:=match K.lookup C with
 | some ⟨.type t,_,.cls cd,sl⟩=>(match cd.mro,sl.toList with
  | .ref C'::bm,[_,_,_,_,some (.builtin i),_]=>decide (t="type")&&(decide (C'=C)&&(decide (i="ValueError.__new__")&&(!cd.hasDel&&(cd.hasDict&&PySem.HandSPX.refsVE bm))))
  | _,_=>false)
 | _=>false
theorem zlM{K:pX}{C:Addr}(h:zqn K C=true):∃ nm q N bs bm sn sub ab col dd k0 k1 k2 k3 k5,K.lookup C=some (excClassObj nm q C N bs bm true sn sub ab col dd k0 k1 k2 k3 k5 "ValueError.__new__")/\PySem.HandSPX.refsVE bm=true:=by
 unfold zqn at h;split at h
 . rename_i t dd cd sl ho;split at h
   . rename_i C' bm k0 k1 k2 k3 i k5 hm hs;obtain⟨a1,h⟩:=He.ba h;obtain⟨a2,h⟩:=He.ba h;obtain⟨a3,h⟩:=He.ba h;obtain⟨a4,h⟩:=He.ba h;obtain⟨a5,a6⟩:=He.ba h;obtain rfl:=of_decide_eq_true a1;obtain rfl:=of_decide_eq_true a2;obtain rfl:=of_decide_eq_true a3;obtain⟨nm,bs,mro,ns,qn,hd,sn,sub,ab,col,del⟩:=cd
     have a4:del=false:=by cases del <;> simp_all
     have a5:hd=true:=a5;have hm:mro=.ref C'::bm:=hm;subst a4 a5 hm
     have hsl:sl=#[k0,k1,k2,k3,some (.builtin "ValueError.__new__"),k5]:=by
      obtain⟨l⟩:=sl;have hs:l=_:=hs;rw[hs]
     rw[hsl]at ho;exact⟨nm,qn,ns,bs,bm,sn,sub,ab,col,dd,k0,k1,k2,k3,k5,ho,a6⟩
   . cases h
 . cases h
def znl(mf:Str)(K:pX)(a:Addr):Bool:=match K.lookup a with
 | some ⟨_,_,.fields vs,_⟩=>(match (vs[2]?:Option Value)with
  | some (Value.str file _)=>mf == file
  | _=>false)
 | _=>false
def zmU(K:pX)(cc C:Addr):Bool:=match K.lookup cc with
 | some ⟨_,_,.cell (some (.ref D)),_⟩=>decide (D=C)
 | _=>false
def zrh(mf:Str)(K:pX)(c q:Str):Bool:=match K.lookup (zkg K c)with
 | some ⟨_,_,.func fd,_⟩=>(match fd.code,fd.closure with
  | .ref cda,[(_,cc)]=>PySem.W.codeIn K (.ref cda) q&&(znl mf K cda&&(zmU K cc (He.ga K c)&&He.dflB K fd.defaults [.non]))
  | _,_=>false)
 | _=>false
def znh(mf:Str)(K:pX)(d:EDef):Bool :=
 (He.Fa.glo d.c).ok K&&(zqn K (He.ga K d.c)&&(He.eqO (PySem.W.findIn K (.ref (He.ga K d.c)) "__setattr__") (some (some (.builtin "object.__setattr__"))) &&
 (decide (PySem.W.subIn K (.ref (He.ga K d.c)) (.type "BaseException")=some true)&&(decide (PySem.W.typeIn K (.ref (He.ga K d.c))=some (.type "type"))&&(PySem.W.keepIn K (.ref (He.ga K d.c)) &&
 (zrh mf K d.c d.qual&&(decide (PySem.W.mroIn K (He.ga K d.c) (.ref (He.ga K d.c))=some true)&&(He.eqO (PySem.W.ks_superIn K (He.ga K d.c) (He.ga K d.c) "__init__") (some (some (.builtin "ValueError.__init__"))) &&
 (decide (PySem.W.subIn K (.ref (He.ga K d.c)) (.type "ValueError")=some true)&&(He.eqO (PySem.W.nsIn K cStatics "thirdparty.any") (some none)&&(He.eqO (PySem.W.findIn K (.ref (He.ga K d.c)) d.n) (some none) &&
 (He.eqO (PySem.W.findIn K (.ref (He.ga K d.c)) "__init__") (some (some (.ref (zkg K d.c))))&&(decide (PySem.W.typeIn K (.ref (zkg K d.c))=some (.type "function"))&&xfB K (He.ga K d.c))))))))))))))
theorem zlj{P:Program}{mf:Str}{K:pX}{mg:Str->Option Value}{d:EDef}(e:ew K d.c=d.val)(h:znh mf K d=true)(hmf:P.main.file=mf)(top:(P.main.scope.names.lookup ("super":Str)).isSome=false)(ms:mg "super"=none)(sc:EScope d.n d.sc)(hp:∃ ar,(d.params.posonlyargs++d.params.args).head?=some ar/\ar.arg=("self":Str)) :
   ∃ cda cc fd,ErrK P K mg d.n d.qual d.sc d.body (He.ga K d.c) (zkg K d.c) cda cc fd/\PySem.W.findIn K (.ref (He.ga K d.c)) "__init__"=some (some (.ref (zkg K d.c)))/\PySem.W.typeIn K (.ref (zkg K d.c))=some (.type "function")/\XfC K (He.ga K d.c)/\(He.Fa.glo d.c).ok K=true /\
     ∃ dV kV doc pm an ct,fd=PySem.W.ksFn d.name d.qual d.params d.body d.sc dV kV doc pm an (.ref cda) ct cc/\DflV K dV [.non]:=by
 unfold znh at h;obtain⟨a1,h⟩:=He.ba h;obtain⟨a2,h⟩:=He.ba h;obtain⟨a3,h⟩:=He.ba h;obtain⟨a4,h⟩:=He.ba h;obtain⟨a5,h⟩:=He.ba h;obtain⟨a6,h⟩:=He.ba h;obtain⟨a7,h⟩:=He.ba h;obtain⟨a8,h⟩:=He.ba h;obtain⟨a9,h⟩:=He.ba h;obtain⟨b1,h⟩:=He.ba h;obtain⟨b2,h⟩:=He.ba h;obtain⟨b3,h⟩:=He.ba h;obtain⟨b4,h⟩:=He.ba h;obtain⟨b5,b6⟩:=He.ba h;unfold zrh at a7;unfold ew at e;split at a7
 . rename_i oc od fd osl ho;rw[ho]at e;split at a7
   . rename_i cda nm cc h1 h2;obtain⟨c1,c2⟩:=He.ba a7;obtain⟨c3,cz⟩:=He.ba c2;obtain⟨c4,c5⟩:=He.ba cz;obtain⟨n1,n2,n3,n4,n5,n6,n7,n8,n9,n10,n11,n12,n13,n14,n15⟩:=fd;have e2:(some (n1,n2,n3,n4,n5,n6,n7.map (·.1),n15):EW)=some (d.name,d.qual,d.params,FuncBody.stmts d.body,d.sc,mainGlobals,[("__class__":Str)],builtinsNs):=e;have h1:n13=.ref cda:=h1;have h2:n7=[(nm,cc)]:=h2;subst h1 h2;simp only[Option.some.injEq,Prod.mk.injEq,tM,rY,List.cons.injEq,and_true]at e2;obtain⟨r1,r2,r3,r4,r5,r6,r7,r8⟩:=e2;subst r6 r8 r7;refine⟨cda,cc,PySem.W.ksFn d.name d.qual d.params d.body d.sc n8 n9 n10 n11 n12 (.ref cda) n14 cc,⟨⟨_,_,n8,n9,n10,n11,n12,n14,rfl,hp⟩,⟨oc,od,osl,?_⟩,c1,?_,?_,⟨zlM a2,He.eqO_ok a3,of_decide_eq_true a4,of_decide_eq_true a5,a6⟩,of_decide_eq_true a8,He.eqO_ok a9,of_decide_eq_true b1,He.eqO_ok b2,ms,top,He.eqO_ok b3,sc⟩,He.eqO_ok b4,of_decide_eq_true b5,xfB_ok b6,a1,n8,n9,n10,n11,n12,n14,rfl,He.dflB_ok c5⟩
     . rw[ho,r1,r2,r3,r4,r5]
     . unfold znl at c3;split at c3
       . rename_i x1 x2 vs x3 hk;split at c3
         . rename_i file tf hv;exact⟨_,_,vs,_,file,tf,hk,hv,by rw[hmf];exact c3⟩
         . cases c3
       . cases c3
     . unfold zmU at c4;split at c4
       . rename_i x1 x2 D x3 hk;obtain rfl:=of_decide_eq_true c4;exact⟨_,_,_,hk⟩
       . cases c4
   . cases a7
 . cases a7
def cm2(K:pX)(cs es:List Str)(wd:World):CM:=⟨(zka K cs).ins,λc=>if c∈es then some (He.ga K c)else none,some wd⟩
variable{wd:World}
theorem zdT{K:pX}{cs es:List Str}{c:Str}{C:Addr}(h:(cm2 K cs es wd).err c=some C):c∈es/\C=He.ga K c:=by
 unfold cm2 at h;dsimp only at h;split at h
 . rename_i hc;cases h;exact⟨hc,rfl⟩
 . cases h
theorem zmV{K:pX}{cs es:List Str}{c:Str}(h:c∈es):(cm2 K cs es wd).err c=some (He.ga K c):=if_pos h
def zll(K:pX)(D:Addr):Bool :=
 He.eqO (PySem.W.findIn K (.ref D) "__getattribute__") (some (some (.builtin "BaseException.__getattribute__")))&&(He.eqO (PySem.W.findIn K (.ref D) "__getattr__") (some none) &&
 (decide (PySem.W.subIn K (.ref D) (.type "BaseException")=some true)&&(PySem.W.hasDictIn K D&&(He.eqO (PySem.W.findIn K (.ref D) "__class__") (some (some (.builtin "object.__class__"))) &&
 (He.eqO (PySem.W.specialIn K (.builtin "object.__class__") "__get__") (some (some (.builtin "getset_descriptor.__get__")))&&(decide (PySem.W.takesIn K (.builtin "object.__class__")=some true)&&decide (PySem.W.mroIn K D (.type "object")=some true)))))))
theorem zje{K:pX}{D:Addr}(h:zll K D=true):ExcC K D:=by
 unfold zll at h;obtain⟨a1,h⟩:=He.ba h;obtain⟨a2,h⟩:=He.ba h;obtain⟨a3,h⟩:=He.ba h;obtain⟨a4,h⟩:=He.ba h;obtain⟨a5,h⟩:=He.ba h;obtain⟨a6,h⟩:=He.ba h;obtain⟨a7,a8⟩:=He.ba h;exact⟨He.eqO_ok a1,He.eqO_ok a2,of_decide_eq_true a3,a4,He.eqO_ok a5,He.eqO_ok a6,of_decide_eq_true a7,of_decide_eq_true a8⟩
def zre(es:List Str)(isx cat:List (Str×List Str))(flds:List Str)(K:pX):Bool :=
 (es.all λc=>zll K (He.ga K c)&&(xfB K (He.ga K c)&&flds.all λf=>He.eqO (PySem.W.findIn K (.ref (He.ga K c)) f) (some none))) &&
 ((isx.all λx=>(He.Fa.glo x.1).ok K&&es.all λc=>znN K (He.ga K c) (He.ga K x.1) (x.2.contains c)) &&
 (cat.all λx=>(He.Fa.glo x.1).ok K&&es.all λc=>decide (PySem.W.exmOne K (.ref (He.ga K c)) (.ref (He.ga K x.1))=some (x.2.contains c))))
section
variable{K:pX}{cs es:List Str}{isx cat:List (Str×List Str)}{flds:List Str}{h:Heap}{mg:Str->Option Value}
structure Ex2Ok(es:List Str)(isx cat:List (Str×List Str))(flds:List Str)(K:pX):Prop where
 ok:zre es isx cat flds K=true
theorem Ex2Ok.c1(e:Ex2Ok es isx cat flds K){c:Str}(hc:c∈es):ExcC K (He.ga K c)/\XfC K (He.ga K c)/\∀ f∈flds,PySem.W.findIn K (.ref (He.ga K c)) f=some none:=by
 obtain⟨h1,_⟩:=He.ba e.ok;have h2:=sO.mp h1 c hc;obtain⟨a1,h2⟩:=He.ba h2;obtain⟨a2,a3⟩:=He.ba h2;exact⟨zje a1,xfB_ok a2,λf hf=>He.eqO_ok (sO.mp a3 f hf)⟩
theorem zrg(e:Ex2Ok es isx cat flds K){f:Str}(hf:f∈flds)(T:FldOk K (zka K cs) f):FldOk K (cm2 K cs es wd) f :=
 ⟨T.ins,λc C hC=>by
  obtain⟨hc,rfl⟩:=zdT hC;obtain⟨_,a,b⟩:=e.c1 hc
  exact⟨a,b f hf⟩⟩
theorem is2(e:Ex2Ok es isx cat flds K)(X:K.In h)(G:h.Ns mainGlobals mg){x:Str}{sub:List Str}(hx:(x,sub)∈isx)(T:IsCF K (zka K cs) mg x sub):IsCJ K (cm2 K cs es wd) mg x sub:=by
 obtain⟨_,h1⟩:=He.ba e.ok;obtain⟨h1,_⟩:=He.ba h1;have h2:=sO.mp h1 _ hx;obtain⟨a1,a2⟩:=He.ba h2;obtain⟨A,hA,hp,hi⟩:=T.ex;have hg:=He.glo_ok X G a1;rw[hA]at hg;cases hg;refine⟨_,hA,hp,hi,λc C hC=>?_⟩;obtain⟨hc,rfl⟩:=zdT hC;exact⟨(e.c1 hc).1,of_decide_eq_true (sO.mp a2 c hc)⟩
theorem zrW(e:Ex2Ok es isx cat flds K)(X:K.In h)(G:h.Ns mainGlobals mg){x:Str}{sub:List Str}(hx:(x,sub)∈cat):CatAt K (cm2 K cs es wd) mg x sub:=by
 obtain⟨_,h1⟩:=He.ba e.ok;obtain⟨_,h1⟩:=He.ba h1;have h2:=sO.mp h1 _ hx;obtain⟨a1,a2⟩:=He.ba h2;refine⟨_,He.glo_ok X G a1,λc C hC=>?_⟩;obtain⟨hc,rfl⟩:=zdT hC;exact of_decide_eq_true (sO.mp a2 c hc)
end
section
variable{K:pX}{cs:List Str}{isx:List (Str×List Str)}{eqs flds:List Str}{ms:List (Str×Str)}{h:Heap}{mg:Str->Option Value}{P:Program}{w:World}{base:Heap}{k:Nat}{fd:FuncData}{ps:List Str}{np nn:Nat}{b:C}{dfls:List (List D)}{cm:CM}
theorem zlG(e:ExOk cs isx eqs flds ms K){c m:Str}(hcm:cm.ins c=some (He.ga K c))(G:FnG P w K mg base k (He.ma K (He.ga K c) m) fd ps (spD K cm np (yt np nn b)))(hb:∀ dl∈dfls,BindD K fd ps dl)(hc:c∈cs)(hm:(c,m)∈ms):MtAt P w K mg base cm k c m (yt np nn b) dfls :=
 ⟨_,_,hcm,(e.c1 hc).1,e.meth hm,np,fd,ps,G,zaG,hb⟩
theorem zpU(e:ExOk cs isx eqs flds ms K)(X:K.In h)(N:h.Ns mainGlobals mg){c:Str}(hcm:cm.ins c=some (He.ga K c))(G:FnG P w K mg base k (He.ma K (He.ga K c) "__init__") fd ps (spD K cm np (yt np nn b)))(hb:∀ dl∈dfls,BindD K fd ps dl)(hc:c∈cs):MkAt P w K mg base cm k c (yt np nn b) dfls :=
 ⟨_,_,hcm,(e.c1 hc).2.1,He.glo_ok X N (e.c1 hc).2.2.1,np,fd,ps,G,zaG,hb⟩
theorem zpC(e:ExOk cs isx eqs flds ms K){c:Str}(hcm:cm.ins c=some (He.ga K c))(G:FnG P w K mg base k (He.ma K (He.ga K c) "__eq__") fd ps (spD K cm np (yt np nn b)))(hb:BindD K fd ps [])(hc:c∈cs)(hq:c∈eqs)(hm:(c,("__eq__":Str))∈ms):EqAt P w K mg base cm k c (yt np nn b) :=
 ⟨_,_,hcm,e.eq hq,(e.meth hm).at_,(e.meth hm).fn,np,fd,ps,G,zaG,zgC hb⟩
end
section
variable{K:pX}{cm:CM}{h:Heap}{mg:Str->Option Value}{P:Program}{w:World}{base:Heap}{k:Nat}{n qual:Str}{sc:Scope}{p0 p1 pa pn pc pe q1 q2 q3 q4:Pos}
theorem zpx{name qual:Str}{params:Arguments}{body:List Stmt}{sc:Scope}{cda cc:Addr}{dV kV doc pm ct:Value}{an:Option Addr}{ps:List Str}{dvs:List V}{dl:List D}(m j:Nat)(hD:DflV K dV dvs)(hne:dvs≠[])(hm:m+(dvs.length - j)=ps.length)(hdl:∀ p H,RVs K p H dl (dvs.drop j))
   (hb:∀(T:Addr) (us its:List Value),us.length=m->its.length=dvs.length->∃ k,bindArgs (PySem.W.ksFn name qual params body sc (.ref T) kV doc pm an (.ref cda) ct cc) ⟨us,[]⟩=seqItems? (.ref T) >>= k/\k (some its.toArray)=pure (ps.zip (us++its.drop j))) :
   BindD K (PySem.W.ksFn name qual params body sc dV kV doc pm an (.ref cda) ct cc) ps dl:=by
 rcases hD with ⟨z,_⟩ | ⟨_,T,o,its,q,rfl,lT,oT,rT⟩
 . exact absurd z hne
 . refine⟨its.drop j,dvs.drop j,rT.drop j,λs us KI hl=>?_,hdl⟩;have li:its.length=dvs.length:=rT.length.symm
   have lu:us.length=m:=by
    have z:us.length+(its.drop j).length=ps.length:=by rw[← sY];exact hl
    rw[List.length_drop,li]at z;omega
   obtain⟨k,z1,z2⟩:=hb T us its lu li;refine BindsTo.of_looks λM=>?_;rw[z1];exact looks_items KI lT oT (.of_pure z2)
theorem zjc{mf:Str}{d:EDef}(X:K.In h)(G:h.Ns mainGlobals mg)(hcm:cm.err d.c=some (He.ga K d.c))(hd:d.body=zgU d.n p0 p1 pa pn pc pe q1 q2 q3 q4)(e:ew K d.c=d.val)(he:znh mf K d=true)(hmf:P.main.file=mf)(top:(P.main.scope.names.lookup ("super":Str)).isSome=false)(ms:mg "super"=none)(sc:EScope d.n d.sc)
  (hp:∃ ar,(d.params.posonlyargs++d.params.args).head?=some ar/\ar.arg=("self":Str)) (t:EText d.n d.qual d.sc p0 p1 pa pn pc pe q1 q2 q3 q4)
  (hb:∀(kV doc pm ct:Value) (an:Option Addr) (cda cc T:Addr) (us its:List Value),us.length=2->its.length=1->∃ k,bindArgs (PySem.W.ksFn d.name d.qual d.params d.body d.sc (.ref T) kV doc pm an (.ref cda) ct cc) ⟨us,[]⟩=seqItems? (.ref T) >>= k/\k (some its.toArray)=pure ((["self",d.n]:List Str).zip (us++its.drop 1))) :
  ErrAt P w K mg base cm (k+1) d.c d.n [[]]:=by
 obtain⟨cda,cc,fd,ek,hi,ht,_,hg,dV,kV,doc,pm,an,ct,rfl,hD⟩:=zlj e he hmf top ms sc hp;have F:FnG P w K mg base (k+1) (zkg K d.c) _ ["self",d.n] (zmM (He.ga K d.c) d.n):=znj (by rw[← hd];exact ek) t;exact⟨_,_,_,hcm,He.glo_ok X G hg,ek.T,F,hi,ht,zgC (zpx 2 1 hD (by simp) rfl (λp H=>by simp[RVs]) λT us its h1 h2=>hb kV doc pm ct an cda cc T us its h1 h2)⟩
end
abbrev AlE:Type:=(He.AlD×Bool)×List EW
def zqG(K:pX):Bool:=match K.lookup sysModules with
 | some ⟨.type c,_,_,_⟩=>decide (c="dict")
 | _=>false
theorem zmw{K:pX}(h:zqG K=true):SysOk K:=by
 unfold zqG at h;split at h
 . rename_i c d dt sl ho;exact⟨_,ho,by rw[of_decide_eq_true h]⟩
 . cases h
theorem zpD{K:pX}{es:List EDef}(h:(es.map λd=>ew K d.c)=es.map EDef.val){d:EDef}(hd:d∈es):ew K d.c=d.val:=by
 obtain⟨i,hi,rfl⟩:=List.mem_iff_getElem.mp hd
 have z:(es.map λd=>ew K d.c)[i]?=(es.map EDef.val)[i]?:=by rw[h]
 simpa[sX,rE hi]using z
end Fc
namespace Fc
open PySem
theorem zpE{K:pX}{es:List EDef}(h:(es.map λd=>ew K d.c)=es.map EDef.val)(i:Nat){d:EDef}(hd:es[i]?=some d:=by rfl):ew K d.c=d.val:=zpD h (qQ hd)
theorem zmQ{α:Type}{p:α->Bool}{l:List α}(h:l.all p=true)(i:Nat){d:α}(hd:l[i]?=some d:=by rfl):p d=true:=sO.mp h d (qQ hd)
theorem zaQ{K:pX}{cs es:List Str}{wd:World}{c:Str}(h:c∈cs):(cm2 K cs es wd).ins c=some (He.ga K c):=zpz h
end Fc
namespace Fc
open PySem PySem.Spec PyProof.Rows L2
def zqm(as:List Addr)(fa:List He.Fa)(fn:List He.DefD)(es:List EDef)(ex:pX->Bool)(g:Addr->Option Obj):AlE:=((He.obsD fa fn (He.frG g as),ex (He.frG g as)),es.map λd=>ew (He.frG g as) d.c)
def znp(as:List Addr)(fa:List He.Fa)(fn:List He.DefD)(es:List EDef)(ex:pX->Bool):PySem.W.Hook where
 α:=AlE
 obs:=λs=>zqm as fa fn es ex s.heap.get?
 val:=λ_=>((He.valD fn,true),es.map EDef.val)
 says:=λ_ h=>∃ K:pX,K.In h/\He.SaysD fa fn K/\ex K=true/\(es.map λd=>ew K d.c)=es.map EDef.val
 of:=λ_ _ e=>⟨_,He.frG_in,congrArg (λz:AlE=>z.1.1) e,congrArg (λz:AlE=>z.1.2) e,congrArg (λz:AlE=>z.2) e⟩
 keeps:=λ_ _ _ ⟨K,hK,c⟩ k=>⟨K,PySem.W.Frag.In.keeps hK k,c⟩
theorem zlL{as:List Addr}{fa:List He.Fa}{fn:List He.DefD}{es:List EDef}{ex:pX->Bool}{g:Addr->Option Obj}{s:Shared}(h:∀ a,g a=s.heap.get? a):zqm as fa fn es ex g=(znp as fa fn es ex).obs s:=by
 have e:g=s.heap.get?:=funext h;rw[e] <;> rfl
abbrev De(x:Str)(d:Stmt):He.DefD:=⟨(x,none),x,x,defArgs d,defBody d,defScope d,[],[]⟩
def jA:List D->Option (List (L2.Key×D))
 | []=>some []
 | .tup [k,v]::r=>match keyOf k,jA r with
  | some k,some ps=>some ((k,v)::ps)
  | _,_=>none
 | _::_=>none
def uM(a:List (L2.Key×D)):List (L2.Key×D)->List (L2.Key×D)
 | []=>a
 | (k,v)::r=>uM (kput a k v) r
def ju:List D->M D:=λxs s=>match xs with
 | [.ref n]=>match yx s n with
  | some ds=>match jA ds with
   | some kvs=>new (.dK (uM [] kvs)) s
   | none=>none
  | none=>none
 | _=>none
section
variable{X:Cx}{cm:CM}{W:WX}{p:List Addr}{H:Hp}{s:S}
theorem zdw{K:pX}:∀{ds:List D}{kvs:List (L2.Key×D)}{vs:List V},jA ds=some kvs->RVs K p H ds vs->∃(ps:List Addr) (ws:List (L2.Key×V)),vs=ps.map V.ref/\Paired (λp kv=>SqT K H p [kV kv.1,kv.2]) ps ws/\RKs K p H kvs ws
 | [],kvs,vs,h,r=>by
  simp only[jA]at h;cases h;simp only[RVs]at r;subst r;exact⟨[],[],rfl,.nil,by simp[RKs]⟩
 | d::ds,kvs,vs,h,r=>by
  simp only[RVs]at r;obtain⟨v,r',rfl,r1,r2⟩:=r;unfold jA at h;split at h
  . rename_i hd;cases hd
  . rename_i k x ds' hd;cases hd;split at h
    . rename_i k' ps' e1 e2;cases h;obtain⟨ps,ws,rfl,pr,rk⟩:=zdw e2 r2;obtain⟨a,us,rfl,ha,q⟩:=xV r1;simp only[RVs]at q;obtain⟨u1,r3,rfl,q1,u2,r4,rfl,q2,rfl⟩:=q;obtain rfl:=zfl e1 q1;refine⟨a::ps,(k',u2)::ws,rfl,.cons (SqT.of ha) pr,?_⟩;simp only[RKs];exact⟨u2,ws,rfl,q2,rk⟩
    . cases h
  . cases h
theorem zds{K:pX}:∀{kvs:List (L2.Key×D)}{ws:List (L2.Key×V)}{a:List (L2.Key×D)}{b:List (L2.Key×V)},RKs K p H kvs ws->RKs K p H a b->RKs K p H (uM a kvs) (L2.mergeK b ws)
 | [],ws,a,b,r,r0=>by
  simp only[RKs]at r;subst r;exact r0
 | (k,d)::kvs,ws,a,b,r,r0=>by
  simp only[RKs]at r;obtain⟨v,r',rfl,r1,r2⟩:=r;show RKs K p H (uM (kput a k d) kvs) (L2.mergeK (L2.putK b k v) r');exact zds r2 (r0.putK k r1)
theorem s_dictP(hc:X.calm=true):SN X cm (.type "dict") ju:=by
 refine⟨_,call_dictP hc,λW p s σ H xs ds Q rs rv q=>?_⟩;unfold ju at q;split at q
 . rename_i n;obtain⟨x,rfl,rx⟩:=xU rv;split at q
   . rename_i es hl;split at q
     . rename_i kvs hp
       have hn:s[n]?=some (.lst es):=by
        unfold yx at hl;split at hl
        . rename_i e hh;cases hl;exact hh
        . cases hl
       obtain⟨t,vs,rfl,_,h1,rr⟩:=yu rs rx hn;obtain⟨ps,ws,rfl,pr,rk⟩:=zdw hp rr;refine⟨t,ps,ws,rfl,SqL.of h1,pr,λa ha=>?_⟩;have rm:RKs X.K p H (uM [] kvs) (L2.mergeK [] ws):=zds rk (by simp[RKs]);obtain⟨f,rs',e⟩:=rs.new (o:=.dK (uM [] kvs)) (u:=.dK (L2.mergeK [] ws)) ha ⟨_,rfl,rm⟩;exact q _ _ _ f rs' (vh e)
     . exact q.elim
   . exact q.elim
 . exact q.elim
end
def ziF:List (L2.Key×D)->Option (List Str)
 | []=>some []
 | (.inr x,_)::r=>(ziF r).map (x::·)
 | (.inl _,_)::_=>none
def SortU(ks ys:List Str):Prop:=ys.Perm ks/\sortedS ys=true/\∀ zs:List Str,zs.Perm ks->sortedS zs=true->zs=ys
open Classical in
noncomputable def zml(ks:List Str):Option (List Str):=if h:∃ ys,SortU ks ys then some (choose h)else none
noncomputable def zfa:List D->M D:=λxs s=>match xs with
 | [.ref n]=>match s[n]? with
  | some (.dK kvs)=>match ziF kvs with
   | some ks=>if ks.length<64 then match zml ks with
     | some ys=>new (.lst (ys.map .str)) s
     | none=>none
    else none
   | none=>none
  | _=>none
 | _=>none
section
variable{K:pX}{P:Program}{w:World}{H:Hp}{h:Heap}{p:List Addr}
mutual
theorem zkz(ok:HOk P w H h):∀(d:D) {k:NestedKey}{v:V}{u:Value},nkey d=some k->RV K p H d v->RelV v u->NestedIs h k u
 | .non,k,v,u,e,r,ru=>by
  simp only[nkey]at e;cases e;cases zbE r;cases ru;exact .none
 | .bl b,k,v,u,e,r,ru=>by
  simp only[nkey]at e;cases e;cases jW r;cases ru;exact .bool rfl
 | .int i,k,v,u,e,r,ru=>by
  simp only[nkey]at e;cases e;cases yo r;obtain⟨t,rfl⟩:=ru;exact .int i t
 | .str x,k,v,u,e,r,ru=>by
  simp only[nkey]at e;cases e;cases xq r;obtain⟨t,rfl⟩:=ru;exact .text x t
 | .tup ds,k,v,u,e,r,ru=>by
  simp only[nkey,tY]at e;obtain⟨ks,e,rfl⟩:=e;obtain⟨a,vs,rfl,ht,q⟩:=xV r;cases ru
  obtain⟨_,its,rr,o,h1,h2,n,h3⟩:=(show ObjOk P w H h a (.tup vs)from ok a _ ht)
  exact .tup h1 h2 h3 (by simpa using zhJ ok ds e q rr)
 | .rol ds,k,v,u,e,r,ru=>by simp only[nkey]at e;cases e
 | .stu ds,k,v,u,e,r,ru=>by simp only[nkey]at e;cases e
 | .ref n,k,v,u,e,r,ru=>by simp only[nkey]at e;cases e
theorem zhJ(ok:HOk P w H h):∀(ds:List D) {ks:List NestedKey}{vs:List V}{us:List Value},nkeys ds=some ks->RVs K p H ds vs->Vals vs us->NestedAll h ks us
 | [],ks,vs,us,e,r,ru=>by
  simp only[nkeys]at e;cases e;simp only[RVs]at r;subst r;cases ru;exact .nil
 | d::ds,ks,vs,us,e,r,ru=>by
  simp only[nkeys]at e;simp only[RVs]at r;obtain⟨v,r',rfl,r1,r2⟩:=r
  cases ru with
  | cons ra rb =>
   split at e
   . rename_i k ks' e1 e2;cases e;exact .cons (zkz ok d e1 r1 ra) (zhJ ok ds e2 r2 rb)
   . cases e
end
theorem znF{d:D}{k:NestedKey}(e:nkT d=some k):nkey d=some k/\k.depth<=8:=by
 unfold nkT at e;split at e
 . rename_i ds;split at e
   . rename_i ks e1;split at e
     . rename_i hd;cases e;exact⟨by simp only[nkey,e1,rA],hd⟩
     . cases e
   . cases e
 . cases e
theorem zkA{d:D}{k:NestedKey}{v:V}(e:nkT d=some k)(r:RV K p H d v):∃ b,v=.ref b:=by
 cases d with
 | tup ds=>obtain⟨a,vs,rfl,_⟩:=xV r;exact⟨a,rfl⟩
 | _=>simp[nkT]at e
theorem zhK(ok:HOk P w H h){d:D}{k:NestedKey}{b:Addr}(e:nkT d=some k)(r:RV K p H d (.ref b)):(nestedKind P w).is h k b:=by
 obtain⟨e1,e2⟩:=znF e;exact⟨zkz ok d e1 r rfl,e2⟩
theorem zkH(ok:HOk P w H h):∀{kvs:List (D×D)}{xs:List (NestedKey×Addr×Value)},RN K p H kvs xs->∀ x∈xs,(nestedKind P w).is h x.1 x.2.1
 | [],xs,r,x,hx=>by
  simp only[RN]at r;subst r;simp at hx
 | kv::kvs,xs,r,x,hx=>by
  simp only[RN]at r;obtain⟨k,b,v,u,ys,rfl,e1,r1,r2,r3,r4⟩:=r
  rcases tU.mp hx with rfl | hx
  . exact zhK ok e1 r1
  . exact zkH ok r4 x hx
theorem RN.length:∀{kvs:List (D×D)}{xs:List (NestedKey×Addr×Value)},RN K p H kvs xs->kvs.length=xs.length
 | [],xs,r=>by simp only[RN]at r;subst r;rfl
 | kv::kvs,xs,r=>by
  simp only[RN]at r;obtain⟨k,b,v,u,ys,rfl,e1,r1,r2,r3,r4⟩:=r;simp[RN.length r4]
theorem zlH(ok:HOk P w H h){a:Addr}{kvs:List (D×D)}{xs:List (NestedKey×Addr×Value)}(e:Rd H a (NdO w a xs))(r:RN K p H kvs xs) :
  xs.length<=sizeLine/\(a == sysModules)=false/\h.DictOfH (nestedKind P w) a xs:=by
 obtain⟨⟨o,es,ep,h1,h2,h3,h4,h5,h6,h7⟩,_⟩:=(show ObjOk P w H h a (NdO w a xs)from e.ok ok)
 exact⟨h7,h6,o,es,ep,h1,h2,h3,h4,zkH ok r,h5⟩
theorem zky{P:Program}{w:World}{H':Hp}{h':Heap}{a:Addr}{xs:List (NestedKey×Addr×Value)}(z:xs.length<=sizeLine)(hd:(a == sysModules)=false)(dd:h'.DictOfH (nestedKind P w) a xs):ObjOk P w H' h' a (NdO w a xs):=by
 obtain⟨o,es,ep,h1,h2,h3,h4,_,h5⟩:=dd;exact⟨⟨o,es,ep,h1,h2,h3,h4,h5,hd,z⟩,⟨o,h1⟩,λg1 g2 ⟨o',es',ep',k1,k2,k3,k4,k5⟩ kk=>⟨o',es',ep',kk _ k1,k2,k3,k4,k5⟩⟩
def uE(kvs:List (D×D))(k:NestedKey):Option D:=(kvs.find? λkv=>decide (nkT kv.1=some k)).map (·.2)
def zcx(kvs:List (D×D))(k:NestedKey)(y v:D):List (D×D) :=
 if (kvs.any λkv=>decide (nkT kv.1=some k))=true then kvs.map λkv=>if nkT kv.1=some k then (kv.1,v)else kv else kvs++[(y,v)]
theorem RN.get(k:NestedKey):∀{kvs:List (D×D)}{xs:List (NestedKey×Addr×Value)},RN K p H kvs xs ->
  (∀ d,uE kvs k=some d->∃ b v u,atKey xs k=some (b,u)/\RV K p H d v/\RelV v u)/\(uE kvs k=none->atKey xs k=none)
 | [],xs,r=>by
  simp only[RN]at r;subst r;exact⟨λd e=>by simp[uE]at e,λ_=>rfl⟩
 | kv::kvs,xs,r=>by
  simp only[RN]at r;obtain⟨k',b,v,u,ys,rfl,e1,r1,r2,r3,r4⟩:=r;have ih:=RN.get k r4;by_cases hk:k'=k
  . subst hk;refine⟨λd e=>?_,λe=>?_⟩
    . simp[uE,e1]at e;subst e;exact⟨b,v,u,by simp[atKey],r2,r3⟩
    . simp[uE,e1]at e
  . have n1:¬ (nkT kv.1=some k):=λz=>by rw[e1]at z;cases z;exact hk rfl
    refine⟨λd e=>?_,λe=>?_⟩
    . have e':uE kvs k=some d:=by simpa[uE,qj,n1]using e
      obtain⟨b',v',u',q1,q2⟩:=ih.1 d e';exact⟨b',v',u',by simpa[atKey,qj,hk]using q1,q2⟩
    . have e':uE kvs k=none:=by simpa[uE,qj,n1]using e
      simpa[atKey,qj,hk]using ih.2 e'
theorem RN.snoc{b:Addr}{v:V}{u:Value}{k:NestedKey}{y d:D}(hy:nkT y=some k)(ry:RV K p H y (.ref b))(rv:RV K p H d v)(ru:RelV v u):∀{kvs:List (D×D)}{xs:List (NestedKey×Addr×Value)},RN K p H kvs xs->RN K p H (kvs++[(y,d)]) (xs++[(k,b,u)])
 | [],xs,r=>by
  simp only[RN]at r;subst r;simp only[qu,RN];exact⟨k,b,v,u,[],rfl,hy,ry,rv,ru,rfl⟩
 | kv::kvs,xs,r=>by
  simp only[RN]at r;obtain⟨k',b',v',u',ys,rfl,e1,r1,r2,r3,r4⟩:=r;simp only[List.cons_append,RN];exact⟨k',b',v',u',_,rfl,e1,r1,r2,r3,RN.snoc hy ry rv ru r4⟩
theorem RN.repl{v:V}{u:Value}{k:NestedKey}{d:D}(rv:RV K p H d v)(ru:RelV v u):∀{kvs:List (D×D)}{xs:List (NestedKey×Addr×Value)},RN K p H kvs xs->RN K p H (kvs.map λkv=>if nkT kv.1=some k then (kv.1,d)else kv) (xs.map (putAt k u))
 | [],xs,r=>by
  simp only[RN]at r;subst r;simp only[rY,RN]
 | kv::kvs,xs,r=>by
  simp only[RN]at r;obtain⟨k',b',v',u',ys,rfl,e1,r1,r2,r3,r4⟩:=r;have ih:=RN.repl (k:=k) rv ru r4;rw[tM,tM];by_cases hk:k'=k
  . subst hk;rw[if_pos e1];simp only[RN];exact⟨k',b',v,u,_,by rw[putAt,if_pos rfl],e1,r1,rv,ru,ih⟩
  . have n1:¬ (nkT kv.1=some k):=λz=>by rw[e1]at z;cases z;exact hk rfl
    rw[if_neg n1];simp only[RN];exact⟨k',b',v',u',_,by rw[putAt,if_neg hk],e1,r1,r2,r3,ih⟩
theorem RN.put{b:Addr}{v:V}{u:Value}{k:NestedKey}{y d:D}(hy:nkT y=some k)(ry:RV K p H y (.ref b))(rv:RV K p H d v)(ru:RelV v u){kvs:List (D×D)}{xs:List (NestedKey×Addr×Value)}(r:RN K p H kvs xs):RN K p H (zcx kvs k y d) (storedH xs k b u):=by
 have g:=RN.get k r
 have key:uE kvs k=none↔(kvs.any λkv=>decide (nkT kv.1=some k))=false:=by
  unfold uE;rw[Option.map_eq_none_iff,pJ,List.any_eq_false]
 unfold zcx
 cases e:uE kvs k with
 | none =>
  rw[key.mp e,if_neg (by simp),storedH_new (g.2 e)];exact RN.snoc hy ry rv ru r
 | some d' =>
  obtain⟨b',v',u',q,_⟩:=g.1 d' e
  have:(kvs.any λkv=>decide (nkT kv.1=some k))=true:=by
   cases z:kvs.any λkv=>decide (nkT kv.1=some k)with
   | true=>rfl
   | false=>rw[key.mpr z]at e;cases e
  rw[this,if_pos rfl,storedH_old q];exact RN.repl rv ru r
end
variable{cm:CM}{W:WX}
def zjp(s:S)(n:Nat):Option (List (D×D)):=match s[n]? with
 | some (.dN kvs)=>some kvs
 | some (.lck (.dN kvs))=>some kvs
 | _=>none
def zdu(s:S)(x y:D):Option (Option D):=match x with
 | .ref n=>match zjp s n with
  | some kvs=>(nkT y).map λk=>uE kvs k
  | none=>none
 | _=>none
def zsi:D->D->M D:=zaA λs x y=>(zdu s x y).bind id
def jF:D->D->M D:=zaA λs y x=>(zdu s x y).map λo=>.bl (!o.isSome)
def mDN:M D:=new (.dN [])
def zga:List D->M D:=λxs s=>match xs with
 | [.ref n]=>(zjp s n).map λkvs=>.ok (.int kvs.length) s
 | _=>none
def zdP(o i e:E):C:=λσ s=>ex σ (e σ s) λv s1=>ex σ (o σ s1) λx s2=>ex σ (i σ s2) λy s3=>match x with
 | .ref n=>match s3[n]? with
  | some (.dN kvs)=>if kvs.length<16777216 then (nkT y).map λk=>.nx σ (s3.set n (.dN (zcx kvs k y v)))else none
  | _=>none
 | _=>none
def NG(K:pX)(w:World)(H:Hp)(a:Addr)(y:V)(r:Option V):Prop:=∃ p kvs xs dy k b,Rd H a (NdO w a xs)/\RN K p H kvs xs/\RV K p H dy y/\nkT dy=some k/\y=.ref b/\RelO r ((atKey xs k).map (·.2))
section
variable{X:Cx}{pins:List (Addr×Obj)}{σ:L2.St}{H:Hp}{s:Shared}{a:Addr}{y:V}{u r:Value}{o:Option V}{A:Around}{E:Value->Shared->Prop}
theorem n_room(hu:A.units+9<cLine):(nestedKind X.prog X.w).room A.in1:=by
 show A.units+1+8<cLine;omega
theorem zik{o:Option V}{o':Option Value}(h:RelO o o'):o'.isSome=o.isSome:=by
 cases o <;> cases o' <;> simp[RelO]at h ⊢
theorem n_notIn{Q:Value->Shared->Prop}(hu:A.units+9<cLine)(I:Inv X pins σ H s)(g:NG X.K X.w H a y o)(ry:RelV y u)(h:∀ s',Inv X pins σ H s'->Q (.bool (!o.isSome)) s') :
  wpAny (model X.prog X.w) A (compareOp .NotIn u (.ref a)) Q E s:=by
 obtain⟨p,kvs,xs,dy,k,b,e,rn,rd,ek,rfl,l⟩:=g;cases ry;obtain⟨z,hd,dd⟩:=zlH I.hok e rn;refine wpAny_notIn_heap (n_room hu) (zhK I.hok ek rd) hd dd ?_;have q:=zik l;rw[Option.isSome_map]at q;rw[q];exact h _ (I.tok _)
theorem n_setItem{p:List Addr}{kvs:List (D×D)}{xs:List (NestedKey×Addr×Value)}{dy:D}{k:NestedKey}{b:Addr}{Q:Unit->Shared->Prop}(hu:A.units+9<cLine)(I:Inv X pins σ H s)(e:H a=some (NdO X.w a xs))(rn:RN X.K p H kvs xs)(ry:RV X.K p H dy (.ref b))(ek:nkT dy=some k)(hl:kvs.length<sizeLine)
  (h:∀ s',Inv X pins σ (upd H a (NdO X.w a (storedH xs k b r))) s'->Q () s'):wpAny (model X.prog X.w) A (setItem (.ref a) (.ref b) r) Q E s:=by
 obtain⟨z,hd,dd⟩:=zlH I.hok (.inl e) rn;have hk:=zhK I.hok ek ry;have lx:=rn.length
 have hl2:(storedH xs k b r).length<=sizeLine:=by
  cases q:atKey xs k with
  | none=>rw[storedH_new q];simp;omega
  | some q'=>rw[storedH_old q];simpa using z
 refine wpAny_setItem_heap (hsz:=z) (n_room hu) hk dd λh' dd' hs=>h _ ?_;have new:=zky (H':=upd H a (NdO X.w a (storedH xs k b r))) hl2 hd dd';obtain⟨o',_,_,hq,_⟩:=dd';exact d_write I (by rw[e];exact True.intro) hs ⟨o',hq⟩ new
end
section
variable{X:Cx}
theorem znC{p:List Addr}{s:S}{H:Hp}{n:Nat}{x:V}{kvs:List (D×D)}(rs:RS X.K cm p s H)(r:RV X.K p H (.ref n) x)(h:zjp s n=some kvs):∃ a w xs,x=.ref a/\p[n]?=some a/\cm.wld=some w/\Rd H a (NdO w a xs)/\RN X.K p H kvs xs:=by
 simp only[RV]at r;obtain⟨a,ha,rfl⟩:=r;unfold zjp at h;split at h
 . rename_i kvs' hs;cases h;obtain⟨b,hb,u,e,w,xs,hw,rfl,rn⟩:=rs.at hs;rw[ha]at hb;cases hb;exact⟨a,w,xs,rfl,ha,hw,.inl e,rn⟩
 . rename_i kvs' hs;cases h;obtain⟨b,hb,od,u,e,_,w,xs,hw,rfl,rn⟩:=rs.at hs;rw[ha]at hb;cases hb;exact⟨a,w,xs,rfl,ha,hw,.inr ⟨od,e⟩,rn⟩
 . cases h
theorem zjq(hw:cm.wld=some X.w){p:List Addr}{s:S}{H:Hp}{dx dy:D}{x y:V}{r:Option D}(rs:RS X.K cm p s H)(rx:RV X.K p H dx x)(ry:RV X.K p H dy y)(h:zdu s dx dy=some r) :
   ∃ a o,x=.ref a/\NG X.K X.w H a y o/\((∃ d v,r=some d/\o=some v/\RV X.K p H d v)\/r=none/\o=none):=by
 unfold zdu at h;split at h
 . rename_i n;split at h
   . rename_i kvs hn;obtain⟨k,ek,rfl⟩:=tY.mp h;obtain⟨a,w,xs,rfl,_,hw',rd,rn⟩:=znC rs rx hn;rw[hw]at hw';cases hw';obtain⟨b,rfl⟩:=zkA ek ry;have g:=RN.get k rn
     cases e:uE kvs k with
     | none=>exact⟨a,none,rfl,⟨p,kvs,xs,dy,k,b,rd,rn,ry,ek,rfl,by rw[g.2 e];exact True.intro⟩,.inr ⟨rfl,rfl⟩⟩
     | some d =>
      obtain⟨b',v,u,q1,q2,q3⟩:=g.1 d e;exact⟨a,some v,rfl,⟨p,kvs,xs,dy,k,b,rd,rn,ry,ek,rfl,by rw[q1];exact q3⟩,.inl ⟨d,v,rfl,rfl,q2⟩⟩
   . cases h
 . cases h
theorem zsp(hw:cm.wld=some X.w){pos:Pos}:JE X cm W (.Dict [] [] pos) (eN (λ_=>mDN) zj):=by
 refine⟨λpins s σ H Q I h=>?_⟩;obtain⟨p,e,st,re,rs,q⟩:=h;have na:=I.hok.fresh (tX s.heap.objs.size);have hsys:(s.heap.objs.size == sysModules)=false:=beq_eq_false_iff_ne.mpr (Nat.ne_of_gt I.big)
 have new:ObjOk X.prog X.w (upd H s.heap.objs.size (NdO X.w s.heap.objs.size [])) (s.heap.push { cls:=.type "dict",data:=.dict #[] }) s.heap.objs.size (NdO X.w s.heap.objs.size []) :=
  zky (by rw[sizeLine_eq];simp) hsys (Heap.DictOfH.new _)
 refine wpAny_Dict_empty ⟨.ref s.heap.objs.size,_,I.laid (a:=s.heap.objs.size) (o:=NdO X.w s.heap.objs.size []) (t':=s.toks) (λ_ _ q=>Heap.get?_push_of_some _ q) (tX _) new,rfl,?_⟩;obtain⟨f,rs',e'⟩:=rs.new (o:=.dN []) (u:=NdO X.w s.heap.objs.size []) na ⟨X.w,[],hw,rfl,by simp[RN]⟩;exact q _ _ _ f rs' (vh e')
theorem hu9{k:Nat}(hr:Room k X.A):X.A.units+9<cLine:=by have:=hr.un;omega
variable{a b c:Expr}{fa fb fc:E}{pos:Pos}
theorem zhY(hu:X.A.units+9<cLine):OpR X (compareOp .NotIn) (λy x H Q=>∃ a o,x=.ref a/\NG X.K X.w H a y o/\Q (.bl (!o.isSome)) H):=by
 intro pins s σ H y x u v Q I ry rx h;obtain⟨a,o,rfl,g,q⟩:=h;cases rx
 exact n_notIn hu I g ry λs' I'=>⟨.bl (!o.isSome),H,I',rfl,q⟩
theorem s_oNotInN{k:Nat}(hw:cm.wld=some X.w)(hr:Room k X.A):S2 X cm (compareOp .NotIn) jF:=by
 refine⟨_,zhY (hu9 hr),λW p s σ H x y dx dy Q rs rx ry q=>?_⟩;obtain⟨d,e,q⟩:=wR q;obtain⟨r,e1,rfl⟩:=tY.mp e;have q':=Po.ok q rs (jO _);obtain⟨t,o,rfl,g,⟨d',v,rfl,rfl,rv⟩ | ⟨rfl,rfl⟩⟩:=zjq hw rs ry rx e1
 . exact⟨t,_,rfl,g,q'⟩
 . exact⟨t,_,rfl,g,q'⟩
theorem s_lenN(hw:cm.wld=some X.w):SN X cm (.builtin "len") zga:=by
 refine⟨λxs H Q=>∃(a:Addr) (p:List Addr) (kvs:List (D×D)) (ys:List (NestedKey×Addr×Value)),xs=[.ref a]/\Rd H a (NdO X.w a ys)/\RN X.K p H kvs ys/\Q (.int kvs.length) H,?_,λW p s σ H xs ds Q rs rv q=>?_⟩
 . intro pins s σ H xs us Q I r h;obtain⟨a,p,kvs,ys,rfl,hp,rn,q⟩:=h;obtain⟨u,rfl,rx⟩:=vals1 r;obtain rfl:u=.ref a:=rx;obtain⟨z,hd,dd⟩:=zlH I.hok hp rn;have hl:=rn.length;refine call_len_dictH hd dd (by rw[sizeLine_eq]at z;omega) ?_;rw[← hl];exact⟨.int ((kvs.length:Nat):Int),H,I.tok _,⟨_,rfl⟩,q⟩
 . unfold zga at q;split at q
   . rename_i n
     cases e:zjp s n with
     | none=>rw[e]at q;exact q.elim
     | some kvs =>
      rw[e]at q;obtain⟨x,rfl,rx⟩:=xU rv;obtain⟨a,w,ys,rfl,_,hw',rd,rn⟩:=znC rs rx e;rw[hw]at hw';cases hw';exact⟨a,p,kvs,ys,rfl,rd,rn,Po.ok q rs (xQ _)⟩
   . exact q.elim
def NPut(K:pX)(w:World)(H:Hp)(a:Addr)(y v:V)(R:Hp->Prop):Prop:=∃ p kvs xs dy k b,H a=some (NdO w a xs)/\RN K p H kvs xs/\RV K p H dy y/\nkT dy=some k/\y=.ref b/\kvs.length<sizeLine/\∀ u,RelV v u->R (upd H a (NdO w a (storedH xs k b u)))
theorem zoc(hu:X.A.units+9<cLine):PSet X (λo i v H Q=>∃ a,o=.ref a/\NPut X.K X.w H a i v Q):=by
 intro pins s σ H o i v ov iv u Q I ro ri rv h;obtain⟨a,rfl,p,kvs,xs,dy,k,b,e,rn,ry,ek,rfl,hl,q⟩:=h;cases (show ov=Value.ref a from ro);cases ri
 exact n_setItem hu I e rn ry ek hl λs4 I4=>⟨_,I4,q u rv⟩
theorem znU{k:Nat}{pos':Pos}(hw':cm.wld=some X.w)(hr:Room k X.A)(hb:JE X cm W b fb)(hc:JE X cm W c fc)(ha:JE X cm W a fa)
   (hsub:∀ v,assign (.Subscript b c pos') X.env v=(do
     let ov ← holding [v] (eval b X.env)
     let iv ← holding [v,ov] (eval c X.env)
     standAt pos'
     holding [v,ov,iv] (setItem ov iv v)
     release [v,ov,iv] []):=by intro _;rfl)
   (hs:swapsWithSole [.Subscript b c pos'] a pos.line X.env=pure false:=by rfl) (hw:swappedStores [.Subscript b c pos'] a X.env=pure none:=by rfl)
   (h1:(assignEach [.Subscript b c pos'] X.env).map (·.2)=[assign (.Subscript b c pos') X.env]:=by rfl):JS X cm W (.Assign [.Subscript b c pos'] a pos) (zdP fb fc fa):=by
 refine(ps_asg ha (pg_sub hb hc (zoc (hu9 hr)) hsub) hs hw h1).imp ?_;rintro D σ H ⟨p,e,s,re,rs,q⟩;refine⟨p,e,s,re,rs,(PoS.ex (rel:=RV X.K) q re).imp ?_⟩;rintro v H1 ⟨d1,p1,s1,f1,rs1,r1,q1⟩;refine⟨p1,e,s1,re.mono f1,rs1,(PoS.ex (rel:=RV X.K) q1 (re.mono f1)).imp ?_⟩;rintro o H2 ⟨d2,p2,s2,f2,rs2,r2,q2⟩;refine⟨p2,e,s2,(re.mono f1).mono f2,rs2,(PoS.ex (rel:=RV X.K) q2 ((re.mono f1).mono f2)).imp ?_⟩;rintro i H3 ⟨d3,p3,s3,f3,rs3,r3,q3⟩;have re3:=((re.mono f1).mono f2).mono f3;have r1':=(r1.mono f2).mono f3;have r2':=r2.mono f3;split at q3
 . rename_i n;split at q3
   . rename_i kvs h;split at q3
     . rename_i hl
       cases ek:nkT d3 with
       | none=>rw[ek]at q3;exact q3.elim
       | some k =>
        rw[ek]at q3;simp only[RV]at r2';obtain⟨t,ht,rfl⟩:=r2';obtain⟨t',ht',u0,e0,w,xs,hwd,rfl,rn⟩:=rs3.at h;rw[ht]at ht';cases ht';rw[hw']at hwd;cases hwd;obtain⟨b0,rfl⟩:=zkA ek r3;refine⟨t,rfl,p3,kvs,xs,d3,k,b0,e0,rn,r3,ek,rfl,by rw[sizeLine_eq];exact hl,λu ru=>?_⟩;obtain⟨f,rs'⟩:=rs3.put (o:=.dN (zcx kvs k d3 d1)) (u:=NdO X.w t (storedH xs k b0 u)) ht e0 True.intro ⟨X.w,_,hw',rfl,rn.put ek r3 r1' ru⟩;exact q3 p3 _ σ f rs' (re3.mono f)
     . exact q3.elim
   . exact q3.elim
 . exact q3.elim
end
end Fc
namespace Law_k81
open PySem PySem.Spec PyProof.Rows L2 Fc
noncomputable section
def top(i:Nat):Stmt:=PySem.Challenge.pw_fallingcalls_k81_programs_read.main.body.getD i (.Pass ⟨0,0,0,0⟩)
def zba:=De "_law_purse" (top 38)
def zaY:=De "_law_mixed" (top 37)
def zbU:=De "_law_draw" (top 39)
def uw:=De "_law_arcs_drawn" (top 43)
def zbc:=De "_law_table" (top 40)
def zaj:=De "_law_joined" (top 41)
def ux:=De "_law_few_tables" (top 42)
def zaZ:=De "_law_parts" (top 44)
def jK:=De "_law_renamed" (top 49)
def uv:=De "_law_arc_tokens" (top 45)
def uz:=De "_law_statements" (top 46)
def zbb:=De "_law_rowed" (top 48)
def zak:=De "_law_spaced" (top 47)
def zdj:=De "kind_of" (top 28)
def zbd:=De "tokens_of" (top 29)
def zbV:=De "parts_of" (top 32)
def zdi:=De "is_word" (top 31)
def zaX:=De "is_number" (top 30)
def zdf:=De "arcs_in" (top 33)
def jm:=De "statement_in" (top 34)
def zai:=De "check_list" (top 14)
def zdh:=De "is_name" (top 13)
def zbT:=De "is_whole" (top 12)
def jJ:=De "is_function" (top 17)
def zeX:=De "is_arc" (top 15)
def zdg:=De "is_call" (top 18)
def jj:He.DefD:=⟨("Program",some "__init__"),"__init__","Program.__init__",defArgs (inClass (top 19) 0),defBody (inClass (top 19) 0),defScope (inClass (top 19) 0),[],[]⟩
def jk:=De "read_program" (top 35)
def wO:He.DefD:=⟨("Program",some "functions"),"functions","Program.functions",defArgs (inClass (top 19) 1),defBody (inClass (top 19) 1),defScope (inClass (top 19) 1),[],[]⟩
def uI:He.DefD:=⟨("Program",some "calls"),"calls","Program.calls",defArgs (inClass (top 19) 2),defBody (inClass (top 19) 2),defScope (inClass (top 19) 2),[],[]⟩
def uJ:=De "check_program" (top 20)
def zbS:=De "arc_text" (top 26)
def zdk:=De "text_of" (top 27)
def zah:He.DefD:=⟨("Program",some "__eq__"),"__eq__","Program.__eq__",defArgs (inClass (top 19) 8),defBody (inClass (top 19) 8),defScope (inClass (top 19) 8),[],[]⟩
def znd:=De "law" (top 50)
def fn:List He.DefD:=[zba,zaY,zbU,uw,zbc,zaj,ux,zaZ,jK,uv,uz,zbb,zak,zdj,zbd,zbV,zdi,zaX,zdf,jm,zai,zdh,zbT,jJ,zeX,zdg,jj,jk,wO,uI,uJ,zbS,zdk,zah,znd]
def fa:List He.Fa:=[.free "sum",.free "max",.free "range",.free "sorted",.free "tuple",.free "list",.free "len",.free "dict",.free "set",.free "str",.free "int",.free "isinstance",.free "bool",.str "SIGNS" "[],;",.str "BLANKS" " \n",.str "DIGITS" "0123456789",.str "LETTERS" "abcdefghijklmnopqrstuvwxyz",.int "MOST_DIGITS" (400),.int "MOST_LETTERS" (12),.int "MOST_MEASURES" (3),.free "super",.glo "_law_purse",.glo "_law_mixed",.glo "_law_draw",.glo "_law_arcs_drawn",.glo "_law_table",.glo "_law_joined",.glo "_law_few_tables",.glo "_law_parts",.glo "_law_renamed",.glo "_law_arc_tokens",.glo "_law_statements",.glo "_law_rowed",.glo "_law_spaced",.glo "kind_of",.glo "tokens_of",.glo "parts_of",.glo "is_word",.glo "is_number",.glo "arcs_in",.glo "statement_in",.glo "check_list",.glo "is_name",.glo "is_whole",.glo "is_function",.glo "is_arc",.glo "is_call",.glo "read_program",.glo "check_program",.glo "arc_text",.glo "text_of",.glo "law"]
abbrev R:PySem.W.OpenRow:=PySem.W.OpenLaw.row PySem.Challenge.rw_fallingcalls_k81_programs_read
abbrev ex1:pX->Bool:=exB ["Program"] [("Program",["Program"])] ["Program"] ["known","many"] [("Program","functions"),("Program","calls"),("Program","__eq__")]
def jt:EDef:=⟨"InvalidText","value","__init__","InvalidText.__init__",defArgs (inClass (top 7) 0),defBody (inClass (top 7) 0),defScope (inClass (top 7) 0)⟩
def jr:EDef:=⟨"InvalidList","value","__init__","InvalidList.__init__",defArgs (inClass (top 3) 0),defBody (inClass (top 3) 0),defScope (inClass (top 3) 0)⟩
def wZ:EDef:=⟨"InvalidFunction","value","__init__","InvalidFunction.__init__",defArgs (inClass (top 4) 0),defBody (inClass (top 4) 0),defScope (inClass (top 4) 0)⟩
def jo:EDef:=⟨"InvalidCall","value","__init__","InvalidCall.__init__",defArgs (inClass (top 5) 0),defBody (inClass (top 5) 0),defScope (inClass (top 5) 0)⟩
def vG:EDef:=⟨"InvalidProgram","value","__init__","InvalidProgram.__init__",defArgs (inClass (top 6) 0),defBody (inClass (top 6) 0),defScope (inClass (top 6) 0)⟩
def ed:List EDef:=[jt,jr,wZ,jo,vG]
abbrev ex:pX->Bool:=λK=>ex1 K&&(zre ["InvalidText","InvalidList","InvalidFunction","InvalidCall","InvalidProgram"] [("Program",["Program"])] [("CallsError",["CallsError","InvalidList","InvalidFunction","InvalidCall","InvalidProgram","InvalidText"])] ["known","many"] K&&(ed.all (znh R.prog.main.file K)&&zqG K))
def asL:List Addr:=[3,6,4,21,31,54,76,98,120,142,151,156,163,170,177,182,253,264,271,276,283,290,295,300,307,314,319,324,331,338,345,350,355,360,367,374,381,386,393,400,405,410,0,20,30,53,75,97,119,141,150,155,162,169,176,181,252,263,270,275,282,289,294,299,306,313,318,323,330,337,344,349,354,359,366,373,380,385,392,399,404,409,15,16,17,18,19,29,32,51,52,73,74,95,96,117,118,139,140,145,146,147,148,149,152,153,154,157,158,159,160,161,164,165,166,167,168,171,172,173,174,175,178,179,180,196,203,208,215,222,229,236,243,250,251,254,255,258,259,260,261,262,265,266,267,268,269,272,273,274,277,278,279,280,281,284,285,286,287,288,291,292,293,296,297,298,301,302,303,304,305,308,309,310,311,312,315,316,317,320,321,322,325,326,327,328,329,332,333,334,335,336,339,340,341,342,343,346,347,348,351,352,353,356,357,358,361,362,363,364,365,368,369,370,371,372,375,376,377,378,379,382,383,384,387,388,389,390,391,394,395,396,397,398,401,402,403,406,407,408,50,43,38,72,65,60,94,87,82,116,109,104,138,131,126,195,202,207,214,221,228,235,242,249,sysModules,cStatics]
abbrev hk:PySem.W.Hook:=znp asL fa fn ed ex
def ob(s:PySem.W.SharedT):AlE:=zqm asL fa fn ed ex (HandSHeadRun.getT s)
abbrev loose:List Str:=(["_wall","CallsError","InvalidList","InvalidFunction","InvalidCall","InvalidProgram","InvalidText","LETTERS","MOST_LETTERS","MOST_MEASURES","is_whole","is_name","check_list","is_arc","is_function","is_call","Program","check_program","SIGNS","BLANKS"]:List Str)++(["DIGITS","MOST_DIGITS","arc_text","text_of","kind_of","tokens_of","is_number","is_word","parts_of","arcs_in","statement_in","read_program","_law_mixed","_law_purse","_law_draw","_law_table","_law_joined","_law_few_tables","_law_arcs_drawn","_law_parts"]:List Str)++(["_law_arc_tokens","_law_statements","_law_spaced","_law_rowed","_law_renamed"]:List Str)
section
open PySem.W PyProof.Rows HandSHeadRun
theorem rnJ{S B:Type}{E:Option S}{l:S->Bool}{q:S->B}{b:B}{K:S->PySem.W.Frag}{fa:List He.Fa}{fn:List He.DefD}{ed:List EDef}{ex:PySem.W.Frag->Bool}(a:E.map (fun s=>(l s,q s))=some (true,b))(b1:E.map (fun s=>fa.all fun f=>f.ok (K s))=some true)(b3:E.map (fun s=>ed.map fun d=>ew (K s) d.c)=some (ed.map EDef.val))(c1:E.map (fun s=>fn.all fun d=>d.ok (K s))=some true)(f:E.map (fun s=>fn.map fun d=>He.fnW (K s) d.at_)=some (fn.map He.DefD.val))(g:E.map (fun s=>ex (K s))=some true):E.map (fun s=>(l s,q s,((fa.all (fun f=>f.ok (K s))&&fn.all (fun d=>d.ok (K s)),fn.map fun d=>He.fnW (K s) d.at_),ex (K s)),ed.map fun d=>ew (K s) d.c))=some (true,b,((true,fn.map He.DefD.val),true),ed.map EDef.val):=by
 cases E with
 | none=>cases a
 | some s=>
  simp only [Option.map_some,Option.some.injEq,Prod.mk.injEq] at *
  rw [a.1,a.2,b1,c1,b3,f,g]
  simp
variable(w:World)(os:OsState)
abbrev Ed:=endF (stepQ (denQ tabQ) R.prog w) 6000 R.prog w os
abbrev Kd(s:SharedT):=He.frG (getT s) asL
abbrev Vd:=view R.prog [50]
theorem rnA:(Ed w os).map (fun s=>(looksF R.prog (boot_heap w.params) s.abs,seenQ Vd loose (importedModules R.prog.main.body) (fun s=>xlAt Vd [] s&&recOk R.toRowW.records s) s.abs))=some (true,openGood Vd loose):=by kernel_rfl
theorem rnB:(Ed w os).map (fun s=>fa.all fun f=>f.ok (Kd s))=some true:=by kernel_rfl
theorem rnH:(Ed w os).map (fun s=>ed.map fun d=>ew (Kd s) d.c)=some (ed.map EDef.val):=by kernel_rfl
theorem rnC:(Ed w os).map (fun s=>fn.all fun d=>d.ok (Kd s))=some true:=by kernel_rfl
theorem rnE:(Ed w os).map (fun s=>fn.map fun d=>He.fnW (Kd s) d.at_)=some (fn.map He.DefD.val):=by kernel_rfl
theorem rnF:(Ed w os).map (fun s=>ex (Kd s))=some true:=by kernel_rfl
theorem run:RunEq R (view R.prog [50]) hk ob 6000 loose w:=by
 intro os
 exact rnJ (rnA w os) (rnB w os) (rnH w os) (rnC w os) (rnE w os) (rnF w os)
end
end
end Law_k81
namespace Fc
open PySem PySem.Spec PyProof.Rows L2
abbrev NX:=NestedKey×Addr×Value
def iNd(g:D×D->D)(e:E):SrcE:=λσ=>bnd (e σ) λx s=>match x with
 | .ref n=>match s[n]? with
  | some (.dN kvs)=>some (.ok (.dict n (kvs.map g)) s)
  | some (.lck (.dN kvs))=>some (.ok (.dict n (kvs.map g)) s)
  | _=>none
 | _=>none
def zkd(D0:Nat)(y d:D)(s:S):Option S:=match s[D0]? with
 | some (.dK kvs)=>if kvs.length<16777216 then (keyOf y).map λk=>s.set D0 (.dK (kput kvs k d))else none
 | _=>none
def dcV(D0:Nat)(vs:List Nat)(g:G)(t:T)(ky e:E):List D->Env->S->Option S
 | [],_,s=>some s
 | d::r,σ,s=>match g d (wipe σ vs) s with
  | some σ1=>match t σ1 s with
   | some (.ok true s1)=>match ky σ1 s1 with
    | some (.ok y s2)=>match e σ1 s2 with
     | some (.ok z s3)=>(zkd D0 y z s3).bind λs4=>dcV D0 vs g t ky e r σ s4
     | _=>none
    | _=>none
   | some (.ok false s1)=>dcV D0 vs g t ky e r σ s1
   | _=>none
  | none=>none
def dcL(D0 n:Nat)(vs:List Nat)(g:G)(t:T)(ky e:E):Nat->Nat->Env->S->Option S
 | 0,i,_,s=>match yx s n with
  | some ds=>if ds.length=i then some s else none
  | none=>none
 | k+1,i,σ,s=>match yx s n with
  | some ds=>if ds.length=i+(k+1)then match ds[i]? with
    | some d=>match g d (wipe σ vs) s with
     | some σ1=>match t σ1 s with
      | some (.ok true s1)=>match ky σ1 s1 with
       | some (.ok y s2)=>match e σ1 s2 with
        | some (.ok z s3)=>(zkd D0 y z s3).bind λs4=>dcL D0 n vs g t ky e k (i+1) σ s4
        | _=>none
       | _=>none
      | some (.ok false s1)=>dcL D0 n vs g t ky e k (i+1) σ s1
      | _=>none
     | none=>none
    | none=>none
   else none
  | none=>none
def zla(s:S)(f:Nat->S->Option S):Option (Res D):=(f s.length (s++[.dK []])).map λs'=>.ok (.ref s.length) s'
def eDc(vs:List Nat)(src:SrcE)(g:G)(t:T)(ky e:E):E:=λσ=>bnd (src σ) λsk s1=>match sk with
 | .vals ds=>zla s1 λD0 s2=>dcV D0 vs g t ky e ds σ s2
 | .list n k=>zla s1 λD0 s2=>dcL D0 n vs g t ky e k 0 σ s2
 | .dict n ds=>uL n s1 λs2=>zla s2 λD0 s3=>dcV D0 vs g t ky e ds σ s3
variable{cm:CM}{W:WX}
def zmI:List D->M D:=λxs s=>match xs with
 | [.ref n]=>match yx s n with
  | some ds=>match zbM ds with
   | some ns=>some (.ok (.int ns.sum) s)
   | none=>none
  | none=>none
 | _=>none
theorem s_sum{X:Cx}(hc:X.calm=true):SN X cm (.builtin "sum") zmI:=by
 refine⟨_,cr_sum hc,λW p s σ H xs ds Q rs rv q=>?_⟩;unfold zmI at q;split at q
 . rename_i n;obtain⟨x,rfl,rx⟩:=xU rv;split at q
   . rename_i ds hn;split at q
     . rename_i ns hi;obtain⟨a,vs,rfl,_,ha,rr⟩:=yu rs rx (wJ hn);refine⟨a,ns,rfl,SqL.of ?_,Po.ok q rs (xQ _)⟩;rw[ha,zcu hi rr]
     . exact q.elim
   . exact q.elim
 . exact q.elim
def zaI:List D->M D:=λxs s=>match xs with
 | [.int i]=>if i.natAbs.log2<1920 then some (.ok (.str (toString i:String)) s)else none
 | [.str x]=>some (.ok (.str x) s)
 | _=>none
theorem s_str{X:Cx}:SN X cm (.type "str") zaI:=by
 refine⟨λxs H Q=>(∃ i,xs=[.int i]/\i.natAbs.log2<1920/\Q (.str (toString i:String)) H)\/∃ a,xs=[.str a]/\Q (.str a) H,λpins s σ H xs us Q I r h=>h.elim (λh=>call_str_int pins s σ H xs us Q I r h) (λh=>SkE.call_str_str pins s σ H xs us Q I r h),λW p s σ H xs ds Q rs rv q=>?_⟩;unfold zaI at q;split at q
 . rename_i i;split at q
   . rename_i hl;obtain⟨x,rfl,rx⟩:=xU rv;exact .inl ⟨i,by rw[yo rx],hl,Po.ok q rs (uN _)⟩
   . exact q.elim
 . rename_i x;obtain⟨x,rfl,rx⟩:=xU rv;exact .inr ⟨_,by rw[xq rx],Po.ok q rs (uN _)⟩
 . exact q.elim
def zbH:List D->Option (List Str)
 | []=>some []
 | .str x::r=>(zbH r).map (x::·)
 | _::_=>none
theorem zfI{K:pX}{p:List Addr}{H:Hp}:∀{ds:List D}{ns:List Str}{vs:List V},zbH ds=some ns->RVs K p H ds vs->vs=ns.map V.str
 | [],ns,vs,h,r=>by
  simp only[zbH]at h;cases h;simp only[RVs]at r;subst r;rfl
 | d::ds,ns,vs,h,r=>by
  simp only[RVs]at r;obtain⟨v,r',rfl,r1,r2⟩:=r
  cases d with
  | str x =>
   simp only[zbH,tY]at h;obtain⟨ns',h,rfl⟩:=h;rw[xq r1,zfI h r2];rfl
  | _=>simp only[zbH]at h;cases h
def zaw(a b:E):E:=λσ=>bnd (a σ) λx=>λs=>match x with
 | .str sep=>bnd (b σ) (λy=>λs=>match y with
  | .ref n=>match yx s n with
   | some ds=>match zbH ds with
    | some ys=>if (ys.map (·.length)).sum+ys.length*sep.length<=16777216 then some (.ok (.str (Txt.join sep ys)) s)else none
    | none=>none
   | none=>none
  | _=>none) s
 | _=>none
section
variable{X:Cx}{a b:Expr}{fa fb:E}{pos:Pos}
theorem zfx{apos:Pos}(ha:JE X cm W a fa)(hb:JE X cm W b fb)(hs:starEach [b] X.env=[(false,eval b X.env)]:=by rfl)(hbase:attributeBase a "join" X.env (eval a X.env)=eval a X.env:=by rfl)(hline:(apos.endLine == pos.line)=true:=by rfl) :
   JE X cm W (.Call (.Attribute a "join" apos) [b] [] pos) (zaw fa fb):=by
 refine(pe_join ha hb hs hbase hline).imp λσ H Q q=>?_;obtain⟨p,e,s,re,rs,q⟩:=q;refine⟨p,e,s,re,rs,(Po.bnd (rel1:=RV X.K) q).imp ?_⟩;rintro x H1 ⟨d,p1,s1,f1,rs1,r1,q1⟩;split at q1
 . rename_i sep;refine⟨⟨_,xq r1⟩,p1,e,s1,re.mono f1,rs1,(Po.bnd (rel1:=RV X.K) q1).imp ?_⟩;rintro y H2 ⟨d2,p2,s2,f2,rs2,r2,q2⟩;split at q2
   . rename_i n;split at q2
     . rename_i ds hn;split at q2
       . rename_i ys hy;split at q2
         . rename_i hz;obtain⟨t,vs,rfl,_,ht,rr⟩:=yu rs2 r2 (wJ hn);refine⟨sep,t,ys,xq r1,rfl,.inl (SqL.of ?_),hz,Po.ok q2 rs2 (uN _)⟩;rw[ht,zfI hy rr]
         . exact q2.elim
       . exact q2.elim
     . exact q2.elim
   . exact q2.elim
 . exact q1.elim
def zjs(x:D)(lo hi:Option Int):M D:=λs=>match x with
 | .rol ds=>new (.lst (kE ds lo hi)) s
 | _=>none
def zgV(a:E)(lo hi:EO):E:=λσ=>bnd (a σ) λx=>bnd (lo σ) λl=>bnd (hi σ) λh=>zjs x l h
theorem znR{lo hi:Option Expr}{fl fh:EO}{p2:Pos}(ha:JE X cm W a fa)(hl:JO X cm W lo fl)(hh:JO X cm W hi fh):JE X cm W (.Subscript a (.Slice lo hi none p2) pos) (zgV fa fl fh):=by
 refine(pe_slice sl_list ha hl hh).imp λσ H Q q=>?_;obtain⟨p,e,s,re,rs,q0⟩:=q;refine⟨p,e,s,re,rs,(Po.bnd (rel1:=RV X.K) q0).imp ?_⟩;rintro x H1 ⟨d,p1,s1,f1,rs1,r1,q1⟩;refine⟨p1,e,s1,re.mono f1,rs1,(Po.bnd (rel1:=rI') q1).imp ?_⟩;rintro l H2 ⟨l',p2,s2,f2,rs2,r2,q2⟩;have r2':l'=l:=r2;subst r2';refine⟨p2,e,s2,(re.mono f1).mono f2,rs2,(Po.bnd (rel1:=rI') q2).imp ?_⟩;rintro h H3 ⟨h',p3,s3,f3,rs3,r3,q3⟩;have r3':h'=h:=r3;subst r3';have rr1:=(r1.mono f2).mono f3
 clear r1
 unfold zjs at q3;split at q3
 . rename_i ds;simp only[RV]at rr1;obtain⟨t,vs,rfl,h1,rr⟩:=rr1;exact⟨t,vs,rfl,h1.1,λb hb=>Po.newl q3 rs3 (zdU rr) hb⟩
 . exact q3.elim
end
def vX(kvs:List (List L2.Key×D)):List D:=kvs.map λkv=>.tup (kv.1.map dOf)
def ww:List D->M D:=λxs s=>match xs with
 | [.ref n]=>match s[n]? with
  | some (.dT kvs)=>if zbF s (vX kvs)then new (.lst (zgr s (vX kvs))) s else none
  | _=>none
 | _=>none
theorem zfm{X:Cx}{P:Program}{w:World}{p:List Addr}{H:Hp}:∀{kvs:List (List L2.Key×D)}{ws:List (List L2.Key×V)}{xs:List (List L2.Key×Addr×Value)},RKs X.K p H kvs ws->KT H ws xs->RVs X.K p H (vX kvs) (xs.map λx=>V.ref x.2.1)
 | [],ws,xs,r,k=>by
  simp only[RKs]at r;subst r;cases k;simp[vX,RVs]
 | kv::kvs,ws,xs,r,k=>by
  simp only[RKs]at r;obtain⟨v,r',rfl,r1,r2⟩:=r
  cases k with
  | cons h t =>
   obtain⟨h1,h2,h3⟩:=h;have ih:=zfm (P:=P) (w:=w) r2 t;unfold vX at ih ⊢;simp only[tM,RVs];exact⟨_,_,rfl,zam h2 (zey _),ih⟩
theorem s_sortedT{X:Cx}{k:Nat}(hc:X.calm=true)(hr:Room k X.A):SN X cm (.builtin "sorted") ww:=by
 refine⟨λvs H Q=>∃ W p s σ ds,RS X.K cm p s H/\RVs X.K p H ds vs/\Po X.K cm W (RV X.K) p σ H (ww ds s) Q,?_,λW p s σ H vs ds Q rs r q=>⟨W,p,s,σ,ds,rs,r,q⟩⟩;rintro pins s σ H vs us Q I ru ⟨W,p,st,σ',ds,rs,rv,q⟩;unfold ww at q;split at q
 . rename_i n;split at q
   . rename_i kvs hn;split at q
     . rename_i hok;obtain⟨x,rfl,rx⟩:=xU rv;simp only[RV]at rx;obtain⟨a,hp,rfl⟩:=rx;obtain⟨b,hb,u,e1,ws,rfl,rk⟩:=rs.at hn;rw[hp]at hb;cases hb;rw[Vals.ref1 ru];unfold zbF at hok;simp only[rG,sO]at hok;obtain⟨⟨⟨h1,h2⟩,h3⟩,h4⟩:=hok;obtain⟨xs,h1⟩:=Option.isSome_iff_exists.mp h1;have he:=zeV h1;have hal:PySem.W.AllAlike ((vX kvs).map (enc st)):=λd hd d' hd'=>h3 d hd d' hd'
       have hk:PySem.W.Sortable ((vX kvs).map (enc st)):=by
        unfold zcK at h4;rw[Bool.or_eq_true,sO,sO]at h4
        rcases h4 with h4 | h4
        . refine .inl λd hd=>?_;have:=h4 d hd;split at this
          . exact⟨_,_,rfl⟩
          . cases this
        . refine .inr λd hd=>?_;have:=h4 d hd;split at this
          . cases this
          . cases this
          . rename_i g1 g2;exact⟨λz=>g1 z,λxs z=>g2 xs z⟩
       obtain⟨z,hs,ks,pr,o,es,ep,ho,hx,hdt,hes,hnd⟩:=(show ObjOk X.prog X.w H s.heap a (.dT ws)from I.hok a _ e1)
       have l1:es.size=ks.length:=size_of_entries hes;have l2:ws.length=ks.length:=Paired.length pr;have l3:kvs.length=ws.length:=rk.length;have rvk:=zfm (P:=X.prog) (w:=X.w) rk pr;refine Calls.call_function_entry PyProof.Rows.kind_sorted PyProof.Rows.plain_sorted PyProof.Rows.entry_sorted (PyProof.Rows.args_sorted1 _) ?_;unfold Builtin.«sorted»;refine wpAny_bind (m:=checkCount "sorted" 1 1 _) (wpAny_pure ?_);refine wpAny_bind (PySem.W.kdu_collect (A:=X.A.in1) (kdl_raw hs hx hdt) (I.ok.hd hc) ho (by omega) λh' tk acc hkp hacc=>?_)
       have hal':acc.toList.length=ks.length:=by rw[Array.length_toList,hacc.1];exact l1
       have ea:acc.toList=ks.map λx=>Value.ref x.2.1:=by
        apply List.ext_getElem?;intro j;rw[sX]
        cases hj:acc.toList[j]? with
        | none =>
          have h1:=List.getElem?_eq_none_iff.mp hj;rw[List.getElem?_eq_none (by omega)];rfl
        | some v =>
          obtain⟨en,hen,hv⟩:=hacc.2 j v (by rw[← pH];exact hj);have qe:=entry_at hes j;rw[hen]at qe
          cases hb:ks[j]? with
          | none =>
            rw[hb]at qe;exact nomatch (show some en=none from qe)
          | some b =>
            rw[hb]at qe;have e2:=Option.some.inj qe;rw[hv,e2];rfl
       have I1:Inv X pins σ H { s with heap:=h',toks:=tk }:=I.kept hkp
       have rvv:Vals (ks.map λx=>V.ref x.2.1) acc.toList:=by
        rw[ea]
        have:(ks.map λx=>V.ref x.2.1)=(ks.map λx=>x.2.1).map V.ref:=by rw[tW];rfl
        rw[this]
        have e3:(ks.map λx=>Value.ref x.2.1)=(ks.map λx=>x.2.1).map Value.ref:=by rw[tW];rfl
        rw[e3];exact vals_refs _
       refine wpAny_bind (wpAny_newList ?_ (by rw[hal',← l2];exact z));have hoL:(h'.push (seqObj "list" acc.toList.toArray 0)).get? h'.objs.size=some (seqObj "list" acc.toList.toArray 0):=Heap.get?_push_size _ rfl;show wpAny _ _ _ _ _ { s with heap:=h'.push (seqObj "list" acc.toList.toArray 0),toks:=tk }
       have er:PySem.W.EachIs (λv b=>∃ as,Reads (PySem.W.sortingHeap (h'.push (seqObj "list" acc.toList.toArray 0)) h'.objs.size acc.toList) v (enc st b) as) acc.toList (vX kvs) :=
        zdZ rvk rvv λd hd v u h1 h2=>by
          obtain⟨as,r⟩:=Dp.reads I1 _ v u (zaS rs 60 d h1 (he d hd)) h2;exact⟨as,PyProof.Rows.Reads.keeps (λb o e=>PySem.W.sortingHeap_old (rO (Heap.lt_size e)) (Heap.get?_push_of_some _ e)) r⟩
       have ee:PySem.W.EachIs (λu d=>∃ v,RV X.K p H d v/\RelV v u) acc.toList (vX kvs):=zdZ rvk rvv λd hd v u h1 h2=>⟨v,h1,h2⟩
       have hu:∀ b,b∈vX kvs->X.A.in1.units+1+(enc st b).depth<cLine:=λb hb=>by
        have:=zdd st 60 b (he b hb);have:=hr.units;show X.A.units+1+1+(enc st b).depth<cLine;omega
       refine wpAny_bind (wpAny_holding (wpAny_call_entry PyProof.Rows.slot_list_sort ⟨_,hoL,rfl⟩ PyProof.Rows.entry_list_sort
        (PySem.W.list_sort_vals (κ:=PySem.W.dataKind (PySem.W.sortingHeap (h'.push (seqObj "list" acc.toList.toArray 0)) h'.objs.size acc.toList) ((vX kvs).map (enc st))) hoL
          (PySem.W.SortsAt.data (s:={ s with heap:=PySem.W.sortingHeap (h'.push (seqObj "list" acc.toList.toArray 0)) h'.objs.size acc.toList,toks:=tk }) (PySem.W.each_map (R:=λv d=>∃ as,Reads (PySem.W.sortingHeap (h'.push (seqObj "list" acc.toList.toArray 0)) h'.objs.size acc.toList) v d as) (enc st) er) hal hk (PySem.W.bound_map hu)) (by rw[hal',← l2];exact z) ⟨.none,rfl,?_⟩)
        (PyProof.Rows.args_list_sort _)))
       have eo:=PySem.W.sortVals_data (R:=λu d=>∃ v,RV X.K p H d v/\RelV v u) false ee er hal;obtain⟨ys,y1,y2⟩:=zhV eo;obtain⟨c0,hc0⟩:=PyProof.Rows.sortedHeap_at (vs:=acc.toList) (out:=(PySem.W.sortVals (PySem.W.dataKind (PySem.W.sortingHeap (h'.push (seqObj "list" acc.toList.toArray 0)) h'.objs.size acc.toList) ((vX kvs).map (enc st))) false acc.toList acc.toList).toArray) hoL
       have hlen:ys.length<=sizeLine:=by
        rw[← y1.length,List.length_mergeSort];unfold vX;rw[tR,l3];exact z
       refine wpAny_pure ⟨_,rfl,.ref h'.objs.size,upd H h'.objs.size (.lst ys),I1.laid (t':=tk) (λb u e=>?_) (tX _)
        (show ObjOk X.prog X.w _ _ _ (.lst ys)from⟨hlen,_,c0,y2,hc0⟩),rfl,Po.newl q rs y1 (I1.hok.fresh (tX _))⟩
       have hb:b<h'.objs.size:=Heap.lt_size e;rw[PyProof.Rows.sortedHeap_old (rO hb) (by rw[Heap.size_push];exact Nat.lt_succ_of_lt hb)];exact Heap.get?_push_of_some _ e
     . exact q.elim
   . exact q.elim
 . exact q.elim
end Fc
namespace Fc
open PySem PySem.Spec PyProof.Rows L2
section
variable{X:Cx}{cm:CM}{W:WX}{x:Str}{sts suite:List Stmt}{b0:Stmt}{fb fu:C}{p1 p2 p6:Pos}{sub:List Str}
theorem zqv(T:CatAt X.K cm X.mg x sub)(hs:X.stack=X.env::X.outer)(hf:X.env.frame=some X.env.locals)(tk:Takes X W)
  (hb:∀(W:WX) (pn:List (Addr×Obj)) (xe:Value->Shared->Prop),Takes (X.tr pn xe) W->PassesOwn (model X.prog X.w) X.A X.env xe->JSs (X.tr pn xe) cm W sts fb)
  (hsu:∀(a:Addr) (pn:List (Addr×Obj)),JSs (X.suite a pn) cm W (b0::suite) fu)
  (hg:Gl X x:=by rfl) (hdx:(x == ("__debug__":Str))=false:=by decide) :
  JS X cm W (.Try sts [.ExceptHandler (some (.Name x p1)) none (b0::suite) p2] [] [] p6) (zjZ sub fb fu):=by
 obtain⟨A,hA,hA2⟩:=T.ex;refine(ps_try_only (c:=.ref A) (tb:=λW=>tS X.K cm W fb) (ts:=λ_ _ _=>tS X.K cm W fu) hs hf ⟨hg,hdx,.inl hA⟩ tk hb (λa oe cls d pn _ _=>hsu a _)).imp ?_;rintro Dn σ H ⟨p,e,s,re,rs,q⟩;refine⟨p,e,s,re,rs,?_⟩;unfold zjZ at q
 cases hr:fb e s with
 | none=>rw[hr]at q;exact q.elim
 | some r =>
  rw[hr]at q
  cases r with
  | nx e1 s1=>exact q
  | rt d s1=>exact q
  | bk e1 s1=>exact q
  | ct e1 s1=>exact q
  | xc c fs e1 s1 =>
   intro p' H' σ' cls dd f rs' re' rx;obtain⟨C,hC,rfl,rk⟩:=id rx;refine⟨sub.contains c,hA2 c C hC,λhb1 a ha=>?_,λhb1=>?_⟩
   . dsimp only at q;rw[if_pos hb1]at q;exact⟨p',e1,s1,re',rs',q.fut f⟩
   . dsimp only at q
     have hb2:¬ (sub.contains c=true):=by rw[hb1];simp
     rw[if_neg hb2]at q;exact q p' H' σ' (.ref C) dd f rs' re' rx
end
end Fc
namespace Fc
open PySem
abbrev Xc:=Str->List (Str×D)->S->Prop
@[irreducible] def wE{α:Type}(m:Option (Res α))(Q:α->S->Prop)(X:Xc):Prop:=match m with
 | none=>False
 | some (.ok x s)=>Q x s
 | some (.exc c fs s)=>X c fs s
structure Pst where
 nx:Env->S->Prop
 rt:D->S->Prop
 bk:Env->S->Prop:=λ_ _=>False
 ct:Env->S->Prop:=λ_ _=>False
 xc:Xc
@[irreducible] def wC(r:Option R)(P:Pst):Prop:=match r with
 | none=>False
 | some (.nx e s)=>P.nx e s
 | some (.rt d s)=>P.rt d s
 | some (.bk e s)=>P.bk e s
 | some (.ct e s)=>P.ct e s
 | some (.xc c fs _ s)=>P.xc c fs s
section
variable{α β:Type}{s:S}{σ:Env}{X:Xc}
theorem zpb{m:Option (Res α)}{Q Q':α->S->Prop}{X':Xc}(h:wE m Q X)(k:∀ x s,Q x s->Q' x s)(kx:∀ c fs s,X c fs s->X' c fs s):wE m Q' X':=by
 with_unfolding_all
  match m,h with
  | none,h=>exact False.elim h
  | some (.ok x s),h=>exact k x s h
  | some (.exc c fs s),h=>exact kx c fs s h
theorem zr{m:Option (Res α)}{Q Q':α->S->Prop}(h:wE m Q X)(k:∀ x s,Q x s->Q' x s):wE m Q' X:=by
 with_unfolding_all
  exact zpb h k λ_ _ _ z=>z
theorem zpc{m:Option (Res α)}{Q:α->S->Prop}(h:wE m Q (λ_ _ _=>False)):∃ x s,m=some (.ok x s)/\Q x s:=by
 with_unfolding_all
  match m,h with
  | none,h=>exact False.elim h
  | some (.ok x s),h=>exact⟨x,s,rfl,h⟩
  | some (.exc _ _ _),h=>exact False.elim h
theorem zoV{r:Option R}{P P':Pst}(h:wC r P)(h1:∀ e s,P.nx e s->P'.nx e s)(h2:∀ d s,P.rt d s->P'.rt d s)(h3:∀ e s,P.bk e s->P'.bk e s)(h4:∀ e s,P.ct e s->P'.ct e s)(h5:∀ c fs s,P.xc c fs s->P'.xc c fs s):wC r P':=by
 with_unfolding_all
  match r,h with
  | none,h=>exact False.elim h
  | some (.nx e s),h=>exact h1 e s h
  | some (.rt e s),h=>exact h2 e s h
  | some (.bk e s),h=>exact h3 e s h
  | some (.ct e s),h=>exact h4 e s h
  | some (.xc c fs e s),h=>exact h5 c fs s h
@[simp] theorem uB{x:α}{Q:α->S->Prop}:wE (some (.ok x s)) Q X↔Q x s:=by
 with_unfolding_all
  exact Iff.rfl
@[simp] theorem zjU{c:Str}{fs:List (Str×D)}{Q:α->S->Prop}:wE (some (.exc c fs s)) Q X↔X c fs s:=by
 with_unfolding_all
  exact Iff.rfl
@[simp] theorem zkT{Q:α->S->Prop}:wE (none:Option (Res α)) Q X↔False:=by
 with_unfolding_all
  exact Iff.rfl
theorem yK{m:M α}{k:α->M β}{Q:β->S->Prop}:wE (bnd m k s) Q X↔wE (m s) (λx s'=>wE (k x s') Q X) X:=by
 with_unfolding_all
  unfold bnd
  cases h:m s with
  | none=>rfl
  | some r=>cases r <;> rfl
theorem w_var{i:Nat}{Q:D->S->Prop}:wE (zg i σ s) Q X↔∃ d,σ[i]?=some (some d)/\Q d s:=by
 with_unfolding_all
  unfold zg;split
  . rename_i d h;simp[h]
  . rename_i h;simp only[zkT,false_iff];rintro⟨d,e,_⟩;exact h d e
theorem zsC{f:D->M D}{a:E}{Q:D->S->Prop}:wE (e1 f a σ s) Q X↔wE (a σ s) (λx s'=>wE (f x s') Q X) X:=by
 with_unfolding_all
  exact yK
theorem zsD{f:D->D->M D}{a b:E}{Q:D->S->Prop}:wE (e2 f a b σ s) Q X↔wE (a σ s) (λx s1=>wE (b σ s1) (λy s2=>wE (f x y s2) Q X) X) X:=by
 with_unfolding_all
  show wE (bnd (a σ) _ s) Q X↔_;rw[yK];constructor
  . intro h;exact zr h λx s1 h=>yK.mp h
  . intro h;exact zr h λx s1 h=>yK.mpr h
theorem zmF{a:E}{r:EL}{Q:List D->S->Prop}:wE (za a r σ s) Q X↔wE (a σ s) (λx s1=>wE (r σ s1) (λxs s2=>Q (x::xs) s2) X) X:=by
 with_unfolding_all
  show wE (bnd (a σ) _ s) Q X↔_;rw[yK];constructor
  . intro h;exact zr h λx s1 h=>yK.mp h
  . intro h;exact zr h λx s1 h=>yK.mpr h
theorem zsF{f:List D->M D}{es:EL}{Q:D->S->Prop}:wE (eN f es σ s) Q X↔wE (es σ s) (λxs s'=>wE (f xs s') Q X) X:=by
 with_unfolding_all
  exact yK
theorem zsE{f:D->List D->M D}{o:E}{es:EL}{Q:D->S->Prop}:wE (eM f o es σ s) Q X↔wE (o σ s) (λx s1=>uD s1 x=true/\wE (es σ s1) (λxs s2=>wE (f x xs s2) Q X) X) X:=by
 with_unfolding_all
  show wE (bnd (o σ) _ s) Q X↔_;rw[yK]
  have key:∀ x s1,wE (if uD s1 x then bnd (es σ) (λxs=>f x xs) s1 else none) Q X↔(uD s1 x=true/\wE (es σ s1) (λxs s2=>wE (f x xs s2) Q X) X):=λx s1=>by
    by_cases h:uD s1 x=true
    . simp[h,yK]
    . simp[h]
  constructor
  . intro h;exact zr h λx s1 h=>(key x s1).mp h
  . intro h;exact zr h λx s1 h=>(key x s1).mpr h
theorem zsG{t:T}{a b:E}{Q:D->S->Prop}:wE (eIf t a b σ s) Q X↔wE (t σ s) (λc s1=>if c=true then wE (a σ s1) Q X else wE (b σ s1) Q X) X:=by
 with_unfolding_all
  show wE (bnd (t σ) _ s) Q X↔_;rw[yK]
  constructor <;> (intro h;refine zr h λx s1 h=>?_;cases x <;> simpa using h)
theorem w_or{a b:E}{Q:D->S->Prop}:wE (eOr a b σ s) Q X↔wE (a σ s) (λx s1=>∃ c,truth s1 x=some c/\if c=true then Q x s1 else wE (b σ s1) Q X) X:=by
 with_unfolding_all
  show wE (bnd (a σ) _ s) Q X↔_;rw[yK]
  constructor <;> (intro h;refine zr h λx s1 h=>?_;revert h;cases e:truth s1 x with | none=>simp | some c=>cases c <;> simp)
theorem w_and{a b:E}{Q:D->S->Prop}:wE (uH a b σ s) Q X↔wE (a σ s) (λx s1=>∃ c,truth s1 x=some c/\if c=true then wE (b σ s1) Q X else Q x s1) X:=by
 with_unfolding_all
  show wE (bnd (a σ) _ s) Q X↔_;rw[yK]
  constructor <;> (intro h;refine zr h λx s1 h=>?_;revert h;cases e:truth s1 x with | none=>simp | some c=>cases c <;> simp)
theorem zsJ{a:E}{Q:Bool->S->Prop}:wE (tE a σ s) Q X↔wE (a σ s) (λx s1=>∃ c,truth s1 x=some c/\Q c s1) X:=by
 with_unfolding_all
  show wE (bnd (a σ) _ s) Q X↔_;rw[yK]
  constructor <;> (intro h;refine zr h λx s1 h=>?_;revert h;cases e:truth s1 x with | none=>simp | some c=>simp)
theorem zsI{a:E}{Q:Bool->S->Prop}:wE (tB a σ s) Q X↔wE (a σ s) (λx s1=>∃ c,x=.bl c/\Q c s1) X:=by
 with_unfolding_all
  show wE (bnd (a σ) _ s) Q X↔_;rw[yK];constructor
  . intro h;refine zr h λx s1 h=>?_
    cases x with
    | bl c=>exact⟨c,rfl,h⟩
    | _=>exact h.elim
  . intro h;refine zr h λx s1 h=>?_;obtain⟨c,rfl,h⟩:=h;exact h
theorem zpj{t:T}{Q:Bool->S->Prop}:wE (tNot t σ s) Q X↔wE (t σ s) (λc s1=>Q (!c) s1) X:=by
 with_unfolding_all
  exact yK
theorem zmE{t:T}{Q:D->S->Prop}:wE (zax t σ s) Q X↔wE (t σ s) (λc s1=>Q (.bl (!c)) s1) X:=by
 with_unfolding_all
  exact yK
theorem zpi{t u:T}{Q:Bool->S->Prop}:wE (tAnd t u σ s) Q X↔wE (t σ s) (λc s1=>if c=true then wE (u σ s1) Q X else Q false s1) X:=by
 with_unfolding_all
  show wE (bnd (t σ) _ s) Q X↔_;rw[yK]
  constructor <;> (intro h;refine zr h λx s1 h=>?_;cases x <;> simpa[ret]using h)
theorem zqV{t u:T}{Q:Bool->S->Prop}:wE (tOr t u σ s) Q X↔wE (t σ s) (λc s1=>if c=true then Q true s1 else wE (u σ s1) Q X) X:=by
 with_unfolding_all
  show wE (bnd (t σ) _ s) Q X↔_;rw[yK]
  constructor <;> (intro h;refine zr h λx s1 h=>?_;cases x <;> simpa[ret]using h)
theorem zmD{f g:D->D->M D}{a b c:E}{Q:D->S->Prop}:wE (wN f g a b c σ s) Q X↔wE (a σ s) (λx s1=>wE (b σ s1) (λy s2=>wE (f x y s2) (λr s3=>∃ k,r=.bl k/\if k=true then wE (c σ s3) (λz s4=>wE (g y z s4) Q X) X else Q (.bl false) s3) X) X) X:=by
 with_unfolding_all
  show wE (bnd (a σ) _ s) Q X↔_;rw[yK]
  have key:∀(y r:D) (s3:S),wE ((match r with
     | .bl true=>bnd (c σ) λz=>g y z
     | .bl false=>ret (.bl false)
     | _=>stuck:M D) s3) Q X↔∃ k,r=.bl k/\if k=true then wE (c σ s3) (λz s4=>wE (g y z s4) Q X) X else Q (.bl false) s3:=by
    intro y r s3
    cases r with
    | bl k =>
     cases k
     . simp[ret]
     . simp[yK]
    | _=>simp[stuck]
  constructor
  . intro h;refine zr h λx s1 h=>zr (yK.mp h) λy s2 h=>zr (yK.mp h) λr s3 h=>(key y r s3).mp h
  . intro h;refine zr h λx s1 h=>yK.mpr (zr h λy s2 h=>yK.mpr (zr h λr s3 h=>(key y r s3).mpr h))
theorem w_call{f:F}{dfl:List D}{es:EL}{Q:D->S->Prop}:wE (zE f dfl es σ s) Q X↔wE (es σ s) (λds s1=>wE (f (ds++dfl) s1) Q X) X:=by
 with_unfolding_all
  exact yK
theorem zqT{a:E}{lo hi:EO}{Q:D->S->Prop}:wE (zaU a lo hi σ s) Q X↔wE (a σ s) (λx s1=>wE (lo σ s1) (λl s2=>wE (hi σ s2) (λh s3=>wE (ziQ x l h s3) Q X) X) X) X:=by
 with_unfolding_all
  show wE (bnd (a σ) _ s) Q X↔_;rw[yK];constructor
  . intro h;exact zr h λx s1 h=>zr (yK.mp h) λy s2 h=>yK.mp h
  . intro h;exact zr h λx s1 h=>yK.mpr (zr h λy s2 h=>yK.mpr h)
theorem zpg{a:E}{Q:Option Int->S->Prop}:wE (jH a σ s) Q X↔wE (a σ s) (λx s1=>∃ i,x=.int i/\Q (some i) s1) X:=by
 with_unfolding_all
  show wE (bnd (a σ) _ s) Q X↔_;rw[yK];constructor
  . intro h;refine zr h λx s1 h=>?_
    cases x with
    | int c=>exact⟨c,rfl,h⟩
    | _=>exact h.elim
  . intro h;refine zr h λx s1 h=>?_;obtain⟨c,rfl,h⟩:=h;exact h
theorem zpd{d k z:E}{Q:D->S->Prop}:wE (zaV d k z σ s) Q X↔wE (d σ s) (λx s1=>isDict s1 x=true/\wE (k σ s1) (λy s2=>wE (z σ s2) (λw s3=>∃ o,ug s3 x y=some o/\Q (o.getD w) s3) X) X) X:=by
 with_unfolding_all
  show wE (bnd (d σ) _ s) Q X↔_;rw[yK]
  have key:∀ x s1,wE (if isDict s1 x then bnd (k σ) (λy=>bnd (z σ) λw=>λs=>(ug s x y).map λo=>Res.ok (o.getD w) s) s1 else none) Q X↔(isDict s1 x=true/\wE (k σ s1) (λy s2=>wE (z σ s2) (λw s3=>∃ o,ug s3 x y=some o/\Q (o.getD w) s3) X) X):=by
    intro x s1;by_cases h:isDict s1 x=true
    . simp only[h,if_true,true_and,yK];constructor
      . intro h;refine zr h λy s2 h=>zr h λw s3 h=>?_
        cases e:ug s3 x y with
        | none=>simp[e]at h
        | some o=>simp only[e,rA,uB]at h;exact⟨o,rfl,h⟩
      . intro h;refine zr h λy s2 h=>zr h λw s3 h=>?_;obtain⟨o,e,h⟩:=h;simp only[e,rA,uB];exact h
    . simp[h]
  constructor
  . intro h;exact zr h λx s1 h=>(key x s1).mp h
  . intro h;exact zr h λx s1 h=>(key x s1).mpr h
theorem zjW{α:Type}{o:Option α}{f:α->Res β}{Q:β->S->Prop}:wE (o.map f) Q X↔∃ x,o=some x/\wE (some (f x)) Q X:=by
 with_unfolding_all
  cases o <;> simp
theorem zph{f:S->D->D->Option D}{x y:D}{Q:D->S->Prop}:wE (zaA f x y s) Q X↔∃ d,f s x y=some d/\Q d s:=by
 with_unfolding_all
  unfold zaA;rw[zjW];rfl
theorem wu{r:Option (Res α)}{k:α->S->Option R}{P:Pst}:wC (ex σ r k) P↔wE r (λx s'=>wC (k x s') P) P.xc:=by
 with_unfolding_all
  cases r with
  | none=>rfl
  | some r=>cases r <;> rfl
theorem zoX{a b:C}{P:Pst}:wC (zG a b σ s) P↔wC (a σ s) { P with nx:=λe s=>wC (b e s) P }:=by
 with_unfolding_all
  unfold zG
  cases h:a σ s with
  | none=>rfl
  | some r=>cases r <;> rfl
theorem zqS{t:T}{a b:C}{P:Pst}:wC (cIf t a b σ s) P↔wE (t σ s) (λc s1=>if c=true then wC (a σ s1) P else wC (b σ s1) P) P.xc:=by
 with_unfolding_all
  show wC (ex σ (t σ s) _) P↔_;rw[wu]
  constructor <;> (intro h;refine zr h λx s1 h=>?_;cases x <;> simpa using h)
theorem zkS{o:Option Env}{P:Pst}:wC (o.map λσ'=>R.nx σ' s) P↔∃ σ',o=some σ'/\P.nx σ' s:=by
 with_unfolding_all
  cases o with
  | none=>simp[wC]
  | some e=>simp[wC]
theorem zoY{e:E}{g:G}{P:Pst}:wC (zR e g σ s) P↔wE (e σ s) (λd s1=>∃ σ',g d σ s1=some σ'/\P.nx σ' s1) P.xc:=by
 with_unfolding_all
  show wC (ex σ (e σ s) _) P↔_;rw[wu];constructor
  . intro h;exact zr h λx s1 h=>zkS.mp h
  . intro h;exact zr h λx s1 h=>zkS.mpr h
theorem zoW{i j:Nat}{es:EL}{P:Pst}:wC (zda i j es σ s) P↔wE (es σ s) (λds s1=>∃ x y,ds=[x,y]/\P.nx ((σ.set i (some x)).set j (some y)) s1) P.xc:=by
 with_unfolding_all
  show wC (ex σ (es σ s) _) P↔_;rw[wu];constructor
  . intro h;refine zr h λds s1 h=>?_;split at h
    . exact⟨_,_,rfl,h⟩
    . exact h.elim
  . intro h;refine zr h λds s1 h=>?_;obtain⟨x,y,rfl,h⟩:=h;exact h
theorem zoZ{o i e:E}{P:Pst}:wC (zaf o i e σ s) P↔wE (e σ s) (λv s1=>wE (o σ s1) (λx s2=>wE (i σ s2) (λy s3=>∃ n ob,x=.ref n/\s3[n]?=some ob /\
  ((∃ ds k j,ob=.lst ds/\y=.int k/\L2.ixN ds.length k=some j/\P.nx σ (s3.set n (.lst (ds.set j v))))\/((∀ ds,ob≠.lst ds)/\∃ o',dput ob y v=some o'/\P.nx σ (s3.set n o')))) P.xc) P.xc) P.xc:=by
 with_unfolding_all
  show wC (ex σ (e σ s) _) P↔_;rw[wu]
  have key:∀(v x y:D) (s3:S),wC (match x with
     | .ref n=>match s3[n]? with
      | some (.lst ds)=>match y with
       | .int k=>(L2.ixN ds.length k).map λj=>R.nx σ (s3.set n (.lst (ds.set j v)))
       | _=>none
      | some ob=>(dput ob y v).map λo'=>R.nx σ (s3.set n o')
      | none=>none
     | _=>none) P↔∃ n ob,x=.ref n/\s3[n]?=some ob /\
    ((∃ ds k j,ob=.lst ds/\y=.int k/\L2.ixN ds.length k=some j/\P.nx σ (s3.set n (.lst (ds.set j v))))\/((∀ ds,ob≠.lst ds)/\∃ o',dput ob y v=some o'/\P.nx σ (s3.set n o'))):=by
    intro v x y s3
    cases x with
    | ref n =>
     dsimp only
     cases hn:s3[n]? with
     | none=>simp[wC,hn]
     | some ob =>
      cases ob with
      | lst ds =>
       cases y with
       | int k =>
        dsimp only
        cases hj:L2.ixN ds.length k with
        | none=>simp[wC,hn,hj]
        | some j=>simp[wC,hn,hj]
       | _=>simp[wC,hn]
      | _ =>
       dsimp only
       cases hj:dput _ y v with
       | none=>simp[wC,hn,hj]
       | some j=>simp[wC,hn,hj]
    | _=>simp[wC]
  constructor
  . intro h;exact zr h λv s1 h=>zr (wu.mp h) λx s2 h=>zr (wu.mp h) λy s3 h=>(key v x y s3).mp h
  . intro h;exact zr h λv s1 h=>wu.mpr (zr h λx s2 h=>wu.mpr (zr h λy s3 h=>(key v x y s3).mpr h))
theorem zqU{np nn:Nat}{b:C}{ds:List D}{Q:D->S->Prop}:wE (yt np nn b ds s) Q X↔ds.length=np/\wC (b (ds.map some++List.replicate (nn - np) none) s) { nx:=λ_ s'=>Q .non s',rt:=Q,xc:=X }:=by
 with_unfolding_all
  unfold yt;by_cases h:ds.length=np
  . rw[if_pos h]
    cases e:b (ds.map some++List.replicate (nn - np) none) s with
    | none=>simp[wC,e]
    | some r=>cases r <;> simp[wC,wE,h]
  . rw[if_neg h];simp[h]
theorem zeL{g:G}{b:C}{P:Pst}:wC (zbL g b [] σ s) P↔P.nx σ s:=by
 with_unfolding_all
  exact Iff.rfl
theorem zav{g:G}{b:C}{d:D}{r:List D}{P:Pst}:wC (zbL g b (d::r) σ s) P↔∃ σ1,g d σ s=some σ1/\wC (b σ1 s) { P with nx:=λe s=>wC (zbL g b r e s) P,ct:=λe s=>wC (zbL g b r e s) P,bk:=P.nx }:=by
 with_unfolding_all
  conv=>lhs;unfold zbL
  cases h:g d σ s with
  | none=>simp[wC]
  | some σ1 =>
   simp only[Option.some.injEq,exists_eq_left']
   cases h2:b σ1 s with
   | none=>rfl
   | some x=>cases x <;> rfl
theorem xZ{g:G}{b:C}{P:Pst}(I:List D->Env->S->Prop):∀(ds:List D) {σ:Env}{s:S},I ds σ s ->
  (∀ d r σ s,I (d::r) σ s->∃ σ1,g d σ s=some σ1/\wC (b σ1 s) { P with nx:=λe s=>I r e s,ct:=λe s=>I r e s,bk:=P.nx })->(∀ σ s,I [] σ s->P.nx σ s)->wC (zbL g b ds σ s) P
 | [],σ,s,h,_,hd=>by
  with_unfolding_all
    exact hd σ s h
 | d::r,σ,s,h,hs,hd=>by
  rw[zav];obtain⟨σ1,h1,h2⟩:=hs d r σ s h;refine⟨σ1,h1,zoV h2 (λe s h=>?_) (λ_ _ z=>z) (λ_ _ z=>z) (λe s h=>?_) λ_ _ _ z=>z⟩
  . exact xZ I r h hs hd
  . exact xZ I r h hs hd
theorem zoU{src:SrcE}{g:G}{b:C}{P:Pst}:wC (xf src g b σ s) P↔wE (src σ s) (λsk s1=>wC (match sk with
  | .vals ds=>zbL g b ds σ s1
  | .list n k=>forL n g b k 0 σ s1
  | .dict n ds=>zbP n s1 λs2=>zbL g b ds σ s2) P) P.xc:=by
 with_unfolding_all
  exact wu
theorem zpe{k:Src}{e:E}{Q:SK->S->Prop}:wE (yd k e σ s) Q X↔wE (e σ s) (λx s1=>∃ sk,srcOf k x s1=some sk/\Q sk s1) X:=by
 with_unfolding_all
  show wE (bnd (e σ) _ s) Q X↔_;rw[yK];constructor
  . intro h;exact zr h λx s1 h=>zjW.mp h
  . intro h;exact zr h λx s1 h=>zjW.mpr h
theorem zjV{a b:E}{Q:SK->S->Prop}:wE (xm a b σ s) Q X↔wE (a σ s) (λx s1=>wE (b σ s1) (λy s2=>∃ i j,x=.int i/\y=.int j/\(small i&&small j)=true/\Q (.vals (yP i j)) s2) X) X:=by
 with_unfolding_all
  show wE (bnd (a σ) _ s) Q X↔_;rw[yK]
  have key:∀(x y:D) (s2:S),wE (match x,y with
      | .int i,.int j=>if small i&&small j then some (Res.ok (SK.vals (yP i j)) s2)else none
      | _,_=>none) Q X↔∃ i j,x=.int i/\y=.int j/\(small i&&small j)=true/\Q (.vals (yP i j)) s2:=by
    intro x y s2;split
    . rename_i i j;by_cases h:(small i&&small j)=true
      . rw[if_pos h];exact⟨λq=>⟨i,j,rfl,rfl,h,q⟩,λ⟨_,_,e1,e2,_,q⟩=>by cases e1;cases e2;exact q⟩
      . rw[if_neg h];exact⟨λq=>q.elim,λ⟨_,_,e1,e2,h',_⟩=>by cases e1;cases e2;exact h h'⟩
    . rename_i h;simp only[zkT,false_iff];rintro⟨i,j,rfl,rfl,_⟩;exact h i j rfl rfl
  constructor
  . intro h;exact zr h λx s1 h=>zr (yK.mp h) λy s2 h=>(key x y s2).mp h
  . intro h;exact zr h λx s1 h=>yK.mpr (zr h λy s2 h=>(key x y s2).mpr h)
theorem zcT{t:T}{b:C}{P:Pst}(I:Nat->Env->S->Prop)(n:Nat)(h:I n σ s)
  (hs:∀ n σ s,I n σ s->wE (t σ s) (λc s1=>if c=true then ∃ m,n=m+1/\wC (b σ s1) { P with nx:=λe s=>I m e s,ct:=λe s=>I m e s,bk:=P.nx }else P.nx σ s1) P.xc):wC (wM t b σ s) P:=by
 with_unfolding_all
  have key:∀ n σ s,I n σ s->∃ k r,wg t b k σ s=some r/\wC (some r) P:=by
   intro n
   induction n using Nat.strongRecOn with
   | ind n ih =>
    intro σ s hI;have h1:=hs n σ s hI
    cases ht:t σ s with
    | none=>rw[ht]at h1;exact h1.elim
    | some r =>
     rw[ht]at h1
     cases r with
     | exc c fs s'=>exact⟨1,.xc c fs σ s',by simp[wg,ex,ht],h1⟩
     | ok c s1 =>
      cases c with
      | false =>
       refine⟨1,.nx σ s1,by simp[wg,ex,ht],?_⟩;simpa[wC]using h1
      | true =>
       simp only[uB,if_true]at h1;obtain⟨m,rfl,h2⟩:=h1
       cases hb:b σ s1 with
       | none=>rw[hb]at h2;exact h2.elim
       | some r =>
        rw[hb]at h2
        cases r with
        | nx e2 s2 =>
         obtain⟨k,r,h3,h4⟩:=ih m (qT _) e2 s2 h2;exact⟨k+1,r,by simp[wg,ex,ht,hb,h3],h4⟩
        | ct e2 s2 =>
         obtain⟨k,r,h3,h4⟩:=ih m (qT _) e2 s2 h2;exact⟨k+1,r,by simp[wg,ex,ht,hb,h3],h4⟩
        | bk e2 s2=>exact⟨1,.nx e2 s2,by simp[wg,ex,ht,hb],h2⟩
        | rt d2 s2=>exact⟨1,.rt d2 s2,by simp[wg,ex,ht,hb],h2⟩
        | xc c fs e2 s2=>exact⟨1,.xc c fs e2 s2,by simp[wg,ex,ht,hb],h2⟩
  obtain⟨k,r,h1,h2⟩:=key n σ s h
  have mono:∀ k σ s r,wg t b k σ s=some r->∀ j,wg t b (k+j) σ s=some r:=by
   intro k
   induction k with
   | zero=>intro σ s r h;simp[wg]at h
   | succ k ih =>
    intro σ s r h j;rw[show k+1+j=(k+j)+1 by omega];unfold wg ex at h ⊢
    cases ht:t σ s with
    | none=>rw[ht]at h;simp at h
    | some q =>
     rw[ht]at h
     cases q with
     | exc c fs s'=>exact h
     | ok c s1 =>
      cases c with
      | false=>exact h
      | true =>
       simp only[if_true]at h ⊢
       cases hb:b σ s1 with
       | none=>rw[hb]at h;simp at h
       | some q =>
        rw[hb]at h
        cases q with
        | nx e2 s2=>exact ih e2 s2 r h j
        | ct e2 s2=>exact ih e2 s2 r h j
        | bk e2 s2=>exact h
        | rt d2 s2=>exact h
        | xc c fs e2 s2=>exact h
  unfold wM
  have hx:∃ r,∃ n,wg t b n σ s=some r:=⟨r,k,h1⟩
  rw[dif_pos hx];obtain⟨k',hk'⟩:=Classical.choose_spec hx;have e1:=mono k σ s r h1 k';have e2:=mono k' σ s _ hk' k;rw[Nat.add_comm]at e2;rw[e1]at e2;rw[← Option.some.inj e2];exact h2
theorem ziK{D0:Nat}{vs:List Nat}{g:G}{t:T}{e:E}(I:List D->List D->S->Prop):∀(ds acc:List D) {s:S},I ds acc s->s[D0]?=some (.lst acc) ->
  (∀ d r acc s,I (d::r) acc s->s[D0]?=some (.lst acc)->∃ σ1,g d (wipe σ vs) s=some σ1/\wE (t σ1 s) (λc s1=>if c=true then wE (e σ1 s1) (λy s2=>s2[D0]?=some (.lst acc)/\acc.length<16777216/\I r (acc++[y]) (s2.set D0 (.lst (acc++[y])))) (λ_ _ _=>False)else s1[D0]?=some (.lst acc)/\I r acc s1) (λ_ _ _=>False)) ->
  ∃ s' acc',lcV D0 vs g t e ds σ s=some s'/\s'[D0]?=some (.lst acc')/\I [] acc' s'
 | [],acc,s,h,hD,_=>⟨s,acc,rfl,hD,h⟩
 | d::r,acc,s,h,hD,hs=>by
  with_unfolding_all
   obtain⟨σ1,h1,h2⟩:=hs d r acc s h hD;unfold lcV;rw[h1];dsimp only
   cases ht:t σ1 s with
   | none=>rw[ht]at h2;exact h2.elim
   | some q =>
    rw[ht]at h2
    cases q with
    | exc c fs s'=>exact h2.elim
    | ok c s1 =>
     cases c with
     | false =>
      simp only[uB,rM,if_false]at h2;exact ziK I r acc h2.2 h2.1 hs
     | true =>
      simp only[uB,if_true]at h2;dsimp only
      cases he:e σ1 s1 with
      | none=>rw[he]at h2;exact h2.elim
      | some q =>
       rw[he]at h2
       cases q with
       | exc c fs s'=>exact h2.elim
       | ok y s2 =>
        obtain⟨h3,h4,h5⟩:=uB.mp h2;have hl:D0<s2.length:=(sU.mp h3).1;dsimp only;unfold zbj;rw[h3];dsimp only;rw[if_pos h4];exact ziK I r (acc++[y]) h5 (by rw[rF hl]) hs
theorem zsH{vs:List Nat}{src:SrcE}{g:G}{t:T}{e:E}{Q:D->S->Prop}:wE (eLc vs src g t e σ s) Q X↔wE (src σ s) (λsk s1=>wE (match sk with
  | .vals ds=>wX s1 λD0 s2=>lcV D0 vs g t e ds σ s2
  | .list n k=>wX s1 λD0 s2=>lcL D0 n vs g t e k 0 σ s2
  | .dict n ds=>uL n s1 λs2=>wX s2 λD0 s3=>lcV D0 vs g t e ds σ s3) Q X) X:=by
 with_unfolding_all
  exact yK
theorem jG{f:Nat->S->Option S}{Q:D->S->Prop}:wE (wX s f) Q X↔∃ s',f s.length (s++[.lst []])=some s'/\Q (.ref s.length) s':=by
 with_unfolding_all
  unfold wX;rw[zjW];rfl
end
section
variable{α β:Type}{s:S}{σ:Env}{X:Xc}
def onD(o:Option (Option D))(k:D->Prop):Prop:=match o with
 | some (some d)=>k d
 | _=>False
@[simp] theorem jT{d:D}{k:D->Prop}:onD (some (some d)) k↔k d:=by
 with_unfolding_all
  exact Iff.rfl
def onO{α:Type}(o:Option α)(k:α->Prop):Prop:=match o with
 | some d=>k d
 | none=>False
@[simp] theorem zB{d:α}{k:α->Prop}:onO (some d) k↔k d:=by
 with_unfolding_all
  exact Iff.rfl
@[simp] theorem zpo{k:α->Prop}:onO none k↔False:=by
 with_unfolding_all
  exact Iff.rfl
theorem uQ{o:Option α}{k:α->Prop}:onO o k↔∃ d,o=some d/\k d:=by
 with_unfolding_all
  cases o <;> simp
def onB(x:D)(k:Bool->Prop):Prop:=match x with
 | .bl c=>k c
 | _=>False
@[simp] theorem zry{c:Bool}{k:Bool->Prop}:onB (.bl c) k↔k c:=by
 with_unfolding_all
  exact Iff.rfl
theorem zhW{x:D}{k:Bool->Prop}:onB x k↔∃ c,x=.bl c/\k c:=by
 with_unfolding_all
  cases x <;> simp[onB]
def onI(x:D)(k:Int->Prop):Prop:=match x with
 | .int c=>k c
 | _=>False
@[simp] theorem zqo{c:Int}{k:Int->Prop}:onI (.int c) k↔k c:=by
 with_unfolding_all
  exact Iff.rfl
theorem zhX{x:D}{k:Int->Prop}:onI x k↔∃ c,x=.int c/\k c:=by
 with_unfolding_all
  cases x <;> simp[onI]
def onT(c:Bool)(a b:Prop):Prop:=if c=true then a else b
@[simp] theorem yj{a b:Prop}:onT true a b↔a:=by
 with_unfolding_all
  simp[onT]
@[simp] theorem zbz{a b:Prop}:onT false a b↔b:=by
 with_unfolding_all
  simp[onT]
theorem zlN{c:Bool}{a b:Prop}:onT c a b↔(c=true->a)/\(c=false->b):=by
 with_unfolding_all
  cases c <;> simp[onT]
theorem jU{c:Bool}{a b:Prop}(h1:c=true->a)(h2:c=false->b):onT c a b:=by
 with_unfolding_all
  exact zlN.mpr ⟨h1,h2⟩
@[simp ↓] theorem v_var{i:Nat}{Q:D->S->Prop}:wE (zg i σ s) Q X↔onD σ[i]? λd=>Q d s:=by
 with_unfolding_all
  rw[w_var];unfold onD
  cases h:σ[i]? with
  | none=>simp
  | some o=>cases o <;> simp
@[simp ↓] theorem v_c{d:D}{Q:D->S->Prop}:wE (eC d σ s) Q X↔Q d s:=by
 with_unfolding_all
  exact Iff.rfl
@[simp ↓] theorem zsX{f:D->M D}{a:E}{Q:D->S->Prop}:wE (e1 f a σ s) Q X↔wE (a σ s) (λx s'=>wE (f x s') Q X) X:=by
 with_unfolding_all
  exact zsC
@[simp ↓] theorem zsY{f:D->D->M D}{a b:E}{Q:D->S->Prop}:wE (e2 f a b σ s) Q X↔wE (a σ s) (λx s1=>wE (b σ s1) (λy s2=>wE (f x y s2) Q X) X) X:=by
 with_unfolding_all
  exact zsD
@[simp ↓] theorem zrL{Q:List D->S->Prop}:wE (zj σ s) Q X↔Q [] s:=by
 with_unfolding_all
  exact Iff.rfl
@[simp ↓] theorem ziH{a:E}{r:EL}{Q:List D->S->Prop}:wE (za a r σ s) Q X↔wE (a σ s) (λx s1=>wE (r σ s1) (λxs s2=>Q (x::xs) s2) X) X:=by
 with_unfolding_all
  exact zmF
@[simp ↓] theorem zst{f:List D->M D}{es:EL}{Q:D->S->Prop}:wE (eN f es σ s) Q X↔wE (es σ s) (λxs s'=>wE (f xs s') Q X) X:=by
 with_unfolding_all
  exact zsF
@[simp ↓] theorem zsZ{f:D->List D->M D}{o:E}{es:EL}{Q:D->S->Prop}:wE (eM f o es σ s) Q X↔wE (o σ s) (λx s1=>onT (uD s1 x) (wE (es σ s1) (λxs s2=>wE (f x xs s2) Q X) X) False) X:=by
 with_unfolding_all
  rw[zsE]
  constructor <;> (intro h;refine zr h λx s1 h=>?_;revert h;cases uD s1 x <;> simp)
@[simp ↓] theorem zta{t:T}{a b:E}{Q:D->S->Prop}:wE (eIf t a b σ s) Q X↔wE (t σ s) (λc s1=>onT c (wE (a σ s1) Q X) (wE (b σ s1) Q X)) X:=by
 with_unfolding_all
  exact zsG
@[simp ↓] theorem v_or{a b:E}{Q:D->S->Prop}:wE (eOr a b σ s) Q X↔wE (a σ s) (λx s1=>onO (truth s1 x) λc=>onT c (Q x s1) (wE (b σ s1) Q X)) X:=by
 with_unfolding_all
  rw[w_or]
  constructor <;> (intro h;refine zr h λx s1 h=>?_;revert h;simp[uQ,onT])
@[simp ↓] theorem v_and{a b:E}{Q:D->S->Prop}:wE (uH a b σ s) Q X↔wE (a σ s) (λx s1=>onO (truth s1 x) λc=>onT c (wE (b σ s1) Q X) (Q x s1)) X:=by
 with_unfolding_all
  rw[w_and]
  constructor <;> (intro h;refine zr h λx s1 h=>?_;revert h;simp[uQ,onT])
@[simp ↓] theorem ztd{a:E}{Q:Bool->S->Prop}:wE (tE a σ s) Q X↔wE (a σ s) (λx s1=>onO (truth s1 x) λc=>Q c s1) X:=by
 with_unfolding_all
  rw[zsJ]
  constructor <;> (intro h;refine zr h λx s1 h=>?_;revert h;simp[uQ])
@[simp ↓] theorem ztc{a:E}{Q:Bool->S->Prop}:wE (tB a σ s) Q X↔wE (a σ s) (λx s1=>onB x λc=>Q c s1) X:=by
 with_unfolding_all
  rw[zsI]
  constructor <;> (intro h;refine zr h λx s1 h=>?_;revert h;simp[zhW])
@[simp ↓] theorem zrQ{t:T}{Q:Bool->S->Prop}:wE (tNot t σ s) Q X↔wE (t σ s) (λc s1=>Q (!c) s1) X:=by
 with_unfolding_all
  exact zpj
@[simp ↓] theorem zqO{t:T}{Q:D->S->Prop}:wE (zax t σ s) Q X↔wE (t σ s) (λc s1=>Q (.bl (!c)) s1) X:=by
 with_unfolding_all
  exact zmE
@[simp ↓] theorem zrP{t u:T}{Q:Bool->S->Prop}:wE (tAnd t u σ s) Q X↔wE (t σ s) (λc s1=>onT c (wE (u σ s1) Q X) (Q false s1)) X:=by
 with_unfolding_all
  exact zpi
@[simp ↓] theorem zsB{t u:T}{Q:Bool->S->Prop}:wE (tOr t u σ s) Q X↔wE (t σ s) (λc s1=>onT c (Q true s1) (wE (u σ s1) Q X)) X:=by
 with_unfolding_all
  exact zqV
@[simp ↓] theorem zkR{Q:Bool->S->Prop}:wE (tYes σ s) Q X↔Q true s:=by
 with_unfolding_all
  exact Iff.rfl
@[simp ↓] theorem zqN{f g:D->D->M D}{a b c:E}{Q:D->S->Prop}:wE (wN f g a b c σ s) Q X↔wE (a σ s) (λx s1=>wE (b σ s1) (λy s2=>wE (f x y s2) (λr s3=>onB r λk=>onT k (wE (c σ s3) (λz s4=>wE (g y z s4) Q X) X) (Q (.bl false) s3)) X) X) X:=by
 with_unfolding_all
  rw[zmD]
  constructor <;> (intro h;refine zr h λx s1 h=>zr h λy s2 h=>zr h λr s3 h=>?_;revert h;simp[zhW,onT])
@[simp ↓] theorem zrF{f:F}{dfl:List D}{es:EL}{Q:D->S->Prop}:wE (zE f dfl es σ s) Q X↔wE (es σ s) (λds s1=>wE (f (ds++dfl) s1) Q X) X:=by
 with_unfolding_all
  exact w_call
@[simp ↓] theorem v_cut{a:E}{lo hi:EO}{Q:D->S->Prop}:wE (zaU a lo hi σ s) Q X↔wE (a σ s) (λx s1=>wE (lo σ s1) (λl s2=>wE (hi σ s2) (λh s3=>wE (ziQ x l h s3) Q X) X) X) X:=by
 with_unfolding_all
  exact zqT
@[simp ↓] theorem zsz{Q:Option Int->S->Prop}:wE (pNo σ s) Q X↔Q none s:=by
 with_unfolding_all
  exact Iff.rfl
@[simp ↓] theorem zrO{a:E}{Q:Option Int->S->Prop}:wE (jH a σ s) Q X↔wE (a σ s) (λx s1=>onI x λi=>Q (some i) s1) X:=by
 with_unfolding_all
  rw[zpg]
  constructor <;> (intro h;refine zr h λx s1 h=>?_;revert h;simp[zhX])
@[simp ↓] theorem zrH{d k z:E}{Q:D->S->Prop}:wE (zaV d k z σ s) Q X↔wE (d σ s) (λx s1=>onT (isDict s1 x) (wE (k σ s1) (λy s2=>wE (z σ s2) (λw s3=>onO (ug s3 x y) λo=>Q (o.getD w) s3) X) X) False) X:=by
 with_unfolding_all
  rw[zpd];constructor
  . intro h;refine zr h λx s1 h=>?_;rw[h.1,yj];refine zr h.2 λy s2 h=>zr h λw s3 h=>?_;rw[uQ];exact h
  . intro h;refine zr h λx s1 h=>?_
    cases e:isDict s1 x with
    | false=>rw[e]at h;simp at h
    | true =>
     rw[e,yj]at h;refine⟨rfl,zr h λy s2 h=>zr h λw s3 h=>?_⟩;rw[uQ]at h;exact h
@[simp ↓] theorem v_ite{α:Type}{c:Prop}[Decidable c]{m m':Option (Res α)}{Q:α->S->Prop}:wE (if c then m else m') Q X↔onT (decide c) (wE m Q X) (wE m' Q X):=by
 with_unfolding_all
  by_cases h:c <;> simp[h]
@[simp ↓] theorem zsy{α:Type}{o:Option α}{f:α->Res β}{Q:β->S->Prop}:wE (o.map f) Q X↔onO o λx=>wE (some (f x)) Q X:=by
 with_unfolding_all
  cases o <;> simp
@[simp ↓] theorem zoS{f:S->D->D->Option D}{x y:D}{Q:D->S->Prop}:wE (zaA f x y s) Q X↔onO (f s x y) λd=>Q d s:=by
 with_unfolding_all
  rw[zph,uQ]
@[simp ↓] theorem zmC{o:O}{Q:D->S->Prop}:wE (new o s) Q X↔Q (.ref s.length) (s++[o]):=by
 with_unfolding_all
  exact Iff.rfl
@[simp ↓] theorem zsA{x:α}{Q:α->S->Prop}:wE (ret x s) Q X↔Q x s:=by
 with_unfolding_all
  exact Iff.rfl
@[simp ↓] theorem zsP{P:Pst}{e:Env}:wC (some (.nx e s)) P↔P.nx e s:=by
 with_unfolding_all
  exact Iff.rfl
@[simp ↓] theorem zrn{P:Pst}:wC none P↔False:=by
 with_unfolding_all
  exact Iff.rfl
@[simp ↓] theorem zsb{P:Pst}:wC (yL σ s) P↔P.nx σ s:=by
 with_unfolding_all
  exact Iff.rfl
@[simp ↓] theorem zpN{P:Pst}:wC (zcZ σ s) P↔False:=by
 with_unfolding_all
  exact Iff.rfl
@[simp ↓] theorem zsd{a b:C}{P:Pst}:wC (zG a b σ s) P↔wC (a σ s) { P with nx:=λe s=>wC (b e s) P }:=by
 with_unfolding_all
  exact zoX
@[simp ↓] theorem zrm{e:E}{P:Pst}:wC (yE e σ s) P↔wE (e σ s) (λ_ s'=>P.nx σ s') P.xc:=by
 with_unfolding_all
  exact wu
@[simp ↓] theorem znv{e:E}{P:Pst}:wC (zY e σ s) P↔wE (e σ s) (λd s'=>P.rt d s') P.xc:=by
 with_unfolding_all
  exact wu
@[simp ↓] theorem zsO{t:T}{a b:C}{P:Pst}:wC (cIf t a b σ s) P↔wE (t σ s) (λc s1=>onT c (wC (a σ s1) P) (wC (b σ s1) P)) P.xc:=by
 with_unfolding_all
  exact zqS
@[simp ↓] theorem zse{e:E}{g:G}{P:Pst}:wC (zR e g σ s) P↔wE (e σ s) (λd s1=>onO (g d σ s1) λσ'=>P.nx σ' s1) P.xc:=by
 with_unfolding_all
  rw[zoY]
  constructor <;> (intro h;refine zr h λx s1 h=>?_;revert h;simp[uQ])
@[simp ↓] theorem zsc{i j:Nat}{es:EL}{P:Pst}:wC (zda i j es σ s) P↔wE (es σ s) (λds s1=>match ds with
  | [x,y]=>P.nx ((σ.set i (some x)).set j (some y)) s1
  | _=>False) P.xc:=by
 with_unfolding_all
  rw[zoW];constructor
  . intro h;refine zr h λds s1 h=>?_;obtain⟨x,y,rfl,h⟩:=h;exact h
  . intro h;refine zr h λds s1 h=>?_;split at h
    . exact⟨_,_,rfl,h⟩
    . exact h.elim
def putAt(s:S)(x y v:D):Option S:=match x with
 | .ref n=>match s[n]? with
  | some (.lst ds)=>match y with
   | .int k=>(L2.ixN ds.length k).map λj=>s.set n (.lst (ds.set j v))
   | _=>none
  | some ob=>(dput ob y v).map λo'=>s.set n o'
  | none=>none
 | _=>none
@[simp ↓] theorem k_sub{o i e:E}{P:Pst}:wC (zaf o i e σ s) P↔wE (e σ s) (λv s1=>wE (o σ s1) (λx s2=>wE (i σ s2) (λy s3=>onO (putAt s3 x y v) λs4=>P.nx σ s4) P.xc) P.xc) P.xc:=by
 with_unfolding_all
  rw[zoZ]
  have key:∀(v x y:D) (s3:S),onO (putAt s3 x y v) (λs4=>P.nx σ s4)↔∃ n ob,x=.ref n/\s3[n]?=some ob /\
    ((∃ ds k j,ob=.lst ds/\y=.int k/\L2.ixN ds.length k=some j/\P.nx σ (s3.set n (.lst (ds.set j v))))\/((∀ ds,ob≠.lst ds)/\∃ o',dput ob y v=some o'/\P.nx σ (s3.set n o'))):=by
    intro v x y s3;unfold putAt
    cases x with
    | ref n =>
     dsimp only
     cases hn:s3[n]? with
     | none=>simp[hn]
     | some ob =>
      cases ob with
      | lst ds =>
       cases y with
       | int k =>
        dsimp only
        cases hj:L2.ixN ds.length k with
        | none=>simp[hn,hj]
        | some j=>simp[hn,hj]
       | _=>simp[hn]
      | _ =>
       dsimp only
       cases hj:dput _ y v with
       | none=>simp[hn,hj]
       | some j=>simp[hn,hj]
    | _=>simp
  constructor
  . intro h;exact zr h λv s1 h=>zr h λx s2 h=>zr h λy s3 h=>(key v x y s3).mpr h
  . intro h;exact zr h λv s1 h=>zr h λx s2 h=>zr h λy s3 h=>(key v x y s3).mp h
theorem yW{np nn:Nat}{b:C}{ds:List D}{Q:D->S->Prop}(h:ds.length=np):wE (yt np nn b ds s) Q X↔wC (b (ds.map some++List.replicate (nn - np) none) s) { nx:=λ_ s'=>Q .non s',rt:=Q,xc:=X }:=by
 with_unfolding_all
  rw[zqU];simp[h]
@[simp ↓] theorem zsv{src:SrcE}{g:G}{b:C}{P:Pst}:wC (xf src g b σ s) P↔wE (src σ s) (λsk s1=>match sk with
  | .vals ds=>wC (zbL g b ds σ s1) P
  | .list n k=>wC (forL n g b k 0 σ s1) P
  | .dict n ds=>wC (zbP n s1 λs2=>zbL g b ds σ s2) P) P.xc:=by
 with_unfolding_all
  rw[zoU]
  constructor <;> (intro h;refine zr h λx s1 h=>?_;cases x <;> exact h)
@[simp ↓] theorem zrI{k:Src}{e:E}{Q:SK->S->Prop}:wE (yd k e σ s) Q X↔wE (e σ s) (λx s1=>onO (srcOf k x s1) λsk=>Q sk s1) X:=by
 with_unfolding_all
  rw[zpe]
  constructor <;> (intro h;refine zr h λx s1 h=>?_;revert h;simp[uQ])
@[simp ↓] theorem zpr{a b:E}{Q:SK->S->Prop}:wE (xm a b σ s) Q X↔wE (a σ s) (λx s1=>wE (b σ s1) (λy s2=>onI x λi=>onI y λj=>onT (small i&&small j) (Q (.vals (yP i j)) s2) False) X) X:=by
 with_unfolding_all
  rw[zjV]
  constructor <;> (intro h;refine zr h λx s1 h=>zr h λy s2 h=>?_;revert h;simp only[zhX,onT])
  . rintro⟨i,j,rfl,rfl,h,q⟩;exact⟨i,rfl,j,rfl,by rw[if_pos h];exact q⟩
  . rintro⟨i,rfl,j,rfl,q⟩;by_cases h:(small i&&small j)=true
    . rw[if_pos h]at q;exact⟨i,j,rfl,rfl,h,q⟩
    . rw[if_neg h]at q;exact q.elim
@[simp ↓] theorem ztb{vs:List Nat}{src:SrcE}{g:G}{t:T}{e:E}{Q:D->S->Prop}:wE (eLc vs src g t e σ s) Q X↔wE (src σ s) (λsk s1=>match sk with
  | .vals ds=>wE (wX s1 λD0 s2=>lcV D0 vs g t e ds σ s2) Q X
  | .list n k=>wE (wX s1 λD0 s2=>lcL D0 n vs g t e k 0 σ s2) Q X
  | .dict n ds=>wE (uL n s1 λs2=>wX s2 λD0 s3=>lcV D0 vs g t e ds σ s3) Q X) X:=by
 with_unfolding_all
  rw[zsH]
  constructor <;> (intro h;refine zr h λx s1 h=>?_;cases x <;> exact h)
end
section
variable{s:S}{σ:Env}{X:Xc}{Q:D->S->Prop}
@[simp ↓] theorem zpX{i j:Int}:wE (yq (.int i) (.int j) s) Q X↔Q (.int (i+j)) s:=by
 with_unfolding_all
  exact Iff.rfl
@[simp ↓] theorem zpY{a b:Str}:wE (yq (.str a) (.str b) s) Q X↔onT (sz (a.length+b.length)) (Q (.str (a++b)) s) False:=by
 with_unfolding_all
  unfold yq;by_cases h:sz (a.length+b.length)=true <;> simp[h]
@[simp ↓] theorem zqk{i j:Int}:wE (zlK (.int i) (.int j) s) Q X↔Q (.int (i - j)) s:=by
 with_unfolding_all
  exact Iff.rfl
@[simp ↓] theorem zqf{i j:Int}:wE (zcV (.int i) (.int j) s) Q X↔onT (decide (bits i+bits j<900000)) (Q (.int (i*j)) s) False:=by
 with_unfolding_all
  unfold zcV;by_cases h:bits i+bits j<900000 <;> simp[h]
@[simp ↓] theorem zqe{i j:Int}:wE (oMod (.int i) (.int j) s) Q X↔onT (decide (0<j)) (Q (.int (i%j)) s) False:=by
 with_unfolding_all
  unfold oMod zaA;by_cases h:0<j <;> simp[h]
@[simp ↓] theorem zqc{i j:Int}:wE (oDiv (.int i) (.int j) s) Q X↔onT (decide (0<j)&&decide (bits j<8000)) (Q (.int (i / j)) s) False:=by
 with_unfolding_all
  unfold oDiv zaA;by_cases h:(decide (0<j)&&decide (bits j<8000))=true
  . rw[h];simp only[if_pos h];simp
  . have h':=qY.mpr h;rw[h'];simp only[if_neg h];simp
@[simp ↓] theorem zqj{i j:Int}:wE (zjt (.int i) (.int j) s) Q X↔onT (decide (0<=j)&&decide ((bits i+1)*j.toNat<=100000)) (Q (.int (i ^ j.toNat)) s) False:=by
 with_unfolding_all
  unfold zjt zaA;by_cases h:(decide (0<=j)&&decide ((bits i+1)*j.toNat<=100000))=true
  . rw[h];simp only[if_pos h];simp
  . have h':=qY.mpr h;rw[h'];simp only[if_neg h];simp
@[simp ↓] theorem zqg{i:Int}:wE (zay (.int i) s) Q X↔Q (.int (-i)) s:=by
 with_unfolding_all
  exact Iff.rfl
@[simp ↓] theorem zrw{i j:Int}:wE (oLt (.int i) (.int j) s) Q X↔Q (.bl (decide (i<j))) s:=by
 with_unfolding_all
  exact Iff.rfl
@[simp ↓] theorem zrv{i j:Int}:wE (oLe (.int i) (.int j) s) Q X↔Q (.bl (decide (i<=j))) s:=by
 with_unfolding_all
  exact Iff.rfl
@[simp ↓] theorem zrt{i j:Int}:wE (oGt (.int i) (.int j) s) Q X↔Q (.bl (decide (j<i))) s:=by
 with_unfolding_all
  exact Iff.rfl
@[simp ↓] theorem zsT{x y:D}:wE (oEq x y s) Q X↔onO (eqD s x y) λb=>Q (.bl b) s:=by
 with_unfolding_all
  unfold oEq zaA;cases h:eqD s x y <;> simp[h]
@[simp ↓] theorem zsW{x y:D}:wE (oNe x y s) Q X↔onO (eqD s x y) λb=>Q (.bl (!b)) s:=by
 with_unfolding_all
  unfold oNe zaA;cases h:eqD s x y <;> simp[h]
@[simp ↓] theorem zsU{x y:D}:wE (oIn x y s) Q X↔onO (isIn s x y) λb=>Q (.bl b) s:=by
 with_unfolding_all
  unfold oIn zaA;cases h:isIn s x y <;> simp[h]
@[simp ↓] theorem zqh{x y:D}:wE (yU x y s) Q X↔onO (isIn s x y) λb=>Q (.bl (!b)) s:=by
 with_unfolding_all
  unfold yU zaA;cases h:isIn s x y <;> simp[h]
@[simp ↓] theorem zsQ{x y:D}:wE (oAt x y s) Q X↔onO (atD s x y) λb=>Q b s:=by
 with_unfolding_all
  unfold oAt zaA;cases h:atD s x y <;> simp[h]
def isNon:D->Bool
 | .non=>true
 | _=>false
@[simp] theorem znr:isNon .non=true:=by
 with_unfolding_all
  exact rfl
@[simp] theorem znt{b:Str}:isNon (.str b)=false:=by
 with_unfolding_all
  exact rfl
@[simp] theorem zns{b:Nat}:isNon (.ref b)=false:=by
 with_unfolding_all
  exact rfl
@[simp ↓] theorem zsk{x:D}:wE (zhR x s) Q X↔Q (.bl (isNon x)) s:=by
 with_unfolding_all
  cases x <;> rfl
@[simp ↓] theorem zsl{x:D}:wE (wW [x] s) Q X↔onO (zbk s x) λn=>Q (.int n) s:=by
 with_unfolding_all
  unfold wW;cases h:zbk s x <;> simp[h]
@[simp ↓] theorem zqd{b:Bool}:wE (zdm [.bl b] s) Q X↔Q (.int (if b then 1 else 0)) s:=by
 with_unfolding_all
  exact Iff.rfl
@[simp ↓] theorem zsn{i j:Int}:wE (zmH [.int i,.int j] s) Q X↔Q (.int (max i j)) s:=by
 with_unfolding_all
  have e:zhB i [j]=max i j:=by
   simp only[zhB];split <;> omega
  unfold zmH mm;simp[e]
@[simp ↓] theorem zso{ds:List D}:wE (ye ds s) Q X↔onT (sz ds.length) (Q (.tup ds) s) False:=by
 with_unfolding_all
  unfold ye;cases sz ds.length <;> simp[stuck]
@[simp ↓] theorem zsm{ds:List D}:wE (zQ ds s) Q X↔onT (sz ds.length) (Q (.ref s.length) (s++[.lst ds])) False:=by
 with_unfolding_all
  unfold zQ;cases sz ds.length <;> simp[stuck]
@[simp ↓] theorem zsR{Q:D->S->Prop}:wE (mDK s) Q X↔Q (.ref s.length) (s++[.dK []]):=by
 with_unfolding_all
  exact Iff.rfl
@[simp ↓] theorem zsS{Q:D->S->Prop}:wE (mDT s) Q X↔Q (.ref s.length) (s++[.dT []]):=by
 with_unfolding_all
  exact Iff.rfl
@[simp ↓] theorem zsV{t:Ty}{x:D}:wE (oIs t x s) Q X↔onO (zge s x t) λb=>Q (.bl b) s:=by
 with_unfolding_all
  unfold oIs;cases zge s x t <;> simp
@[simp ↓] theorem zpn{i:Int}:wE (zbt (.int i) s) Q X↔Q (.int (Builtin.Int.intBits i:Nat)) s:=by
 with_unfolding_all
  exact Iff.rfl
@[simp ↓] theorem zhU{n:Nat}:wE (fTuple [.ref n] s) Q X↔onO (yx s n) λds=>Q (.tup ds) s:=by
 with_unfolding_all
  unfold fTuple yx
  cases h:s[n]? with
  | none=>simp[h]
  | some o=>cases o <;> simp[h]
@[simp ↓] theorem zsj{n:Nat}{y:D}:wE (yc (.ref n) [y] s) Q X↔onO (yx s n) λds=>onT (decide (ds.length<16777216)) (Q .non (s.set n (.lst (ds++[y])))) False:=by
 with_unfolding_all
  unfold yc zkw yx
  cases h:s[n]? with
  | none=>simp[h]
  | some o =>
   cases o <;> simp[h];rename_i ds;by_cases h':ds.length<16777216 <;> simp[h']
@[simp ↓] theorem zrx{n:Nat}:wE (zep (.ref n) s) Q X↔onO (yx s n) λds=>Q (.ref s.length) (s++[.lst ds.reverse]):=by
 with_unfolding_all
  unfold zep yx
  cases h:s[n]? with
  | none=>simp[h]
  | some o=>cases o <;> simp[h]
@[simp ↓] theorem zqa{ds:List D}{lo hi:Option Int}:wE (ziQ (.tup ds) lo hi s) Q X↔Q (.tup (kE ds lo hi)) s:=by
 with_unfolding_all
  exact Iff.rfl
@[simp] theorem zsM{i:Nat}{d:D}:gName i d σ s=some (σ.set i (some d)):=by
 with_unfolding_all
  exact rfl
@[simp] theorem zsN{k:Nat}{r:GL}{ds:List D}:gTup k r (.tup ds) σ s=if ds.length=k then r ds σ s else none:=by
 with_unfolding_all
  exact rfl
@[simp] theorem zsL:gNil [] σ s=some σ:=by
 with_unfolding_all
  exact rfl
@[simp] theorem zsK{g:G}{r:GL}{d:D}{ds:List D}:gCons g r (d::ds) σ s=(g d σ s).bind λσ'=>r ds σ' s:=by
 with_unfolding_all
  exact rfl
@[simp] theorem xY{n:Nat}(h:n<=16777216):sz n=true:=by
 with_unfolding_all
  exact decide_eq_true h
@[simp] theorem zra{ds:List D}{i:Int}:atD s (.tup ds) (.int i)=L2.atI ds i:=by
 with_unfolding_all
  exact rfl
theorem yM{n:Nat}{ds:List D}{i:Int}(h:s[n]?=some (.lst ds)):atD s (.ref n) (.int i)=L2.atI ds i:=by
 with_unfolding_all
  simp[atD,h]
theorem atI_nat{α:Type}{xs:List α}{i:Nat}:L2.atI xs (i:Int)=xs[i]?:=by
 with_unfolding_all
  unfold L2.atI L2.ixN;rw[if_pos (by omega)];by_cases h:i<xs.length
  . rw[if_pos (by omega)];simp
  . rw[if_neg (by omega)];simp only[Option.bind_none];exact(List.getElem?_eq_none (by omega)).symm
@[simp] theorem zrS{α:Type}{xs:List α}:L2.atI xs 0=xs[0]?:=by
 with_unfolding_all
  exact atI_nat (i:=0)
@[simp] theorem zrT{α:Type}{xs:List α}:L2.atI xs 1=xs[1]?:=by
 with_unfolding_all
  exact atI_nat (i:=1)
@[simp] theorem zrU{α:Type}{xs:List α}:L2.atI xs 2=xs[2]?:=by
 with_unfolding_all
  exact atI_nat (i:=2)
@[simp] theorem zrV{α:Type}{xs:List α}:L2.atI xs 3=xs[3]?:=by
 with_unfolding_all
  exact atI_nat (i:=3)
@[simp] theorem zpR{ds:List D}:zbk s (.tup ds)=some ds.length:=by
 with_unfolding_all
  exact rfl
@[simp] theorem zsr{b:Bool}:truth s (.bl b)=some b:=by
 with_unfolding_all
  exact rfl
@[simp] theorem zss{b:Bool}{t:Ty}:zge s (.bl b) t=some (match t with | .int=>true | .bool=>true | _=>false):=by
 with_unfolding_all
  exact rfl
@[simp] theorem ty_int{b:Int}{t:Ty}:zge s (.int b) t=some (match t with | .int=>true | _=>false):=by
 with_unfolding_all
  exact rfl
@[simp] theorem ty_str{b:Str}{t:Ty}:zge s (.str b) t=some (match t with | .str=>true | _=>false):=by
 with_unfolding_all
  exact rfl
@[simp] theorem zrE{b:List D}{t:Ty}:zge s (.tup b) t=some (match t with | .tuple=>true | _=>false):=by
 with_unfolding_all
  exact rfl
theorem zbf{a b:D}{x y:PyData}(h1:dat s 60 a=some x)(h2:dat s 60 b=some y)(h3:SeqAt.shaped x=true)(h4:SeqAt.shaped y=true):eqD s a b=some (PyData.eqv x y):=by
 with_unfolding_all
  unfold eqD;rw[h1,h2];simp[h3,h4]
@[simp] theorem zkZ{n:Nat}:dat s n .non=some .none:=by
 with_unfolding_all
  cases n <;> simp[dat]
@[simp] theorem zmY{n:Nat}{b:Bool}:dat s n (.bl b)=some (.bool b):=by
 with_unfolding_all
  cases n <;> simp[dat]
@[simp] theorem vU{n:Nat}{b:Int}:dat s n (.int b)=some (.int b):=by
 with_unfolding_all
  cases n <;> simp[dat]
@[simp] theorem yR{n:Nat}{b:Str}:dat s n (.str b)=some (.str b):=by
 with_unfolding_all
  cases n <;> simp[dat]
@[simp] theorem yF{n:Nat}:dats s n []=some []:=by
 with_unfolding_all
  cases n <;> simp[dats]
theorem wF{n:Nat}{ds:List D}:dat s (n+1) (.tup ds)=(dats s n ds).map .tuple:=by
 with_unfolding_all
  simp[dat]
theorem zL{n:Nat}{d:D}{r:List D}{x:PyData}{xs:List PyData}(h1:dat s n d=some x)(h2:dats s n r=some xs):dats s n (d::r)=some (x::xs):=by
 with_unfolding_all
  cases n <;> simp[dats,h1,h2]
theorem yQ{n a:Nat}{ds:List D}(h:s[a]?=some (.lst ds)):dat s (n+1) (.ref a)=(dats s n ds).map .list:=by
 with_unfolding_all
  simp[dat,yx,h]
end
end Fc
namespace P1
open PySem Fc
noncomputable section
def b_is_name:C :=
 (zG (cIf (tOr (tNot (tE (e1 (oIs .str) (zg 0)))) (tNot (tB (wN oLe oLe (eC (.int 1)) (eN wW (za (zg 0) zj)) (eC (.int 12))))))
 (zY (eC (.bl false)))
 yL)
 (zY (e2 oEq (eLc [1] (yd .seq (zg 0)) (gName 1) (tB (e2 yU (zg 1) (eC (.str "abcdefghijklmnopqrstuvwxyz")))) (zg 1)) (eN zQ zj))))
def d_is_name:F:=yt 1 2 b_is_name
def b_is_whole:C :=
 (zY (uH (e1 (oIs .int) (zg 0)) (zax (tE (e1 (oIs .bool) (zg 0))))))
def d_is_whole:F:=yt 1 1 b_is_whole
def b_is_arc:C :=
 (zG (cIf (tOr (tNot (tE (e1 (oIs .tuple) (zg 0)))) (tOr (tB (e2 oNe (eN wW (za (zg 0) zj)) (eC (.int 3)))) (tOr (tNot (tE (zE d_is_whole [] (za (e2 oAt (zg 0) (eC (.int 0))) zj)))) (tNot (tE (zE d_is_whole [] (za (e2 oAt (zg 0) (eC (.int 1))) zj)))))))
 (zY (eC (.bl false)))
 yL)
 (zY (uH (wN oLe oLt (eC (.int 0)) (e2 oAt (zg 0) (eC (.int 0))) (zg 1)) (uH (wN oLe oLt (eC (.int 0)) (e2 oAt (zg 0) (eC (.int 1))) (zg 2)) (e1 (oIs .bool) (e2 oAt (zg 0) (eC (.int 2))))))))
def d_is_arc:F:=yt 3 3 b_is_arc
def b_arcs_of:C :=
 (zY (eN fTuple (za (eLc [1,2] (yd .seq (eN zgZ (za (eLc [1,2] (yd .seq (zg 0)) (gTup 2 (gCons (gName 1) (gCons (gName 2) gNil))) tYes (eN ye (za (eN zdm (za (zg 1) zj)) (za (eN zdm (za (zg 2) zj)) zj)))) zj))) (gTup 2 (gCons (gName 1) (gCons (gName 2) gNil))) tYes (eN ye (za (zg 1) (za (zg 2) (za (e2 oAt (zg 0) (eN ye (za (zg 1) (za (zg 2) zj)))) zj))))) zj)))
def d_arcs_of:F:=yt 1 3 b_arcs_of
def b_joined:C :=
 (zG (zR (eN (λ_=>mDT) zj) (gName 2))
 (zG (xf (yd .seq (e2 oAt (zg 0) (eC (.int 2)))) (gTup 3 (gCons (gName 3) (gCons (gName 4) (gCons (gName 5) gNil))))
 (xf (yd .seq (e2 oAt (zg 1) (eC (.int 2)))) (gTup 3 (gCons (gName 6) (gCons (gName 7) (gCons (gName 8) gNil))))
 (cIf (tB (e2 oEq (zg 6) (zg 4)))
 (zaf (zg 2) (eN ye (za (zg 3) (za (zg 7) zj))) (eOr (zaV (zg 2) (eN ye (za (zg 3) (za (zg 7) zj))) (eC (.bl false))) (eOr (zg 5) (zg 8))))
 yL)))
 (zY (eN ye (za (e2 oAt (zg 0) (eC (.int 0))) (za (e2 oAt (zg 1) (eC (.int 1))) (za (zE d_arcs_of [] (za (zg 2) zj)) zj)))))))
def d_joined:F:=yt 2 9 b_joined
def b_falls_around:C :=
 (zG (zR (zg 0) (gName 1))
 (zG (xf (xm (eC (.int 0)) (eC (.int 3))) (gName 2)
 (zG (cIf (tB (e2 oNe (eLc [3] (yd .seq (e2 oAt (zg 1) (eC (.int 2)))) (gName 3) (tAnd (tB (e2 oEq (e2 oAt (zg 3) (eC (.int 0))) (e2 oAt (zg 3) (eC (.int 1))))) (tE (e2 oAt (zg 3) (eC (.int 2))))) (zg 3)) (eN zQ zj)))
 (zY (eC (.bl true)))
 yL)
 (zR (zE d_joined [] (za (zg 1) (za (zg 0) zj))) (gName 1))))
 (zY (eC (.bl false)))))
def d_falls_around:F:=yt 1 4 b_falls_around
end
end P1
namespace Fc
open PySem
theorem bits_lt{i:Int}(h1:-(2 ^ 2000)<i)(h2:i<2 ^ 2000):bits i<2000:=by
 unfold bits;by_cases h:i.natAbs=0
 . rw[h];decide
 . refine(Nat.log2_lt h).mpr ?_;omega
theorem zbs{i j:Int}(h1:-(2 ^ 2000)<i)(h2:i<2 ^ 2000)(h3:-(2 ^ 2000)<j)(h4:j<2 ^ 2000):decide (bits i+bits j<900000)=true:=by
 have a:=bits_lt h1 h2;have b:=bits_lt h3 h4;exact decide_eq_true (by omega)
def Gen(s:S)(g:Nat)(B:Nat):Prop:=∃ a b c:Int,s[g]?=some (.lst [.int a,.int b,.int c])/\0<=a/\0<=b/\b<2147483647/\0<=c/\c+B<=2 ^ 90
theorem Gen.mono{s:S}{g B B':Nat}(h:Gen s g B)(k:B'<=B):Gen s g B':=by
 obtain⟨a,b,c,h1,h2,h3,h4,h5,h6⟩:=h;exact⟨a,b,c,h1,h2,h3,h4,h5,by omega⟩
def Fr(g:Nat)(s s':S):Prop:=s.length<=s'.length/\∀ n:Nat,n≠g->∀ o,s[n]?=some o->s'[n]?=some o
def Pf(s s':S):Prop:=∀(n:Nat) (o:O),s[n]?=some o->s'[n]?=some o
theorem zJ{s:S}{o:O}:(s++[o])[s.length]?=some o:=by simp
theorem zjz{m n:Nat}(h:m<=n):(2:Int) ^ m<=2 ^ n:=by
 have:(2 ^ m:Nat)<=2 ^ n:=Nat.pow_le_pow_right (by omega) h
 exact_mod_cast this
theorem set_same{s:S}{n:Nat}{o:O}(h:s[n]?=some o):s.set n o=s:=by
 apply List.ext_getElem?;intro i;rw[qC];split
 . rename_i e;subst e;rw[h];simp[(sU.mp h).1]
 . rfl
theorem Pf.refl{s:S}:Pf s s:=λ_ _ h=>h
theorem Pf.trans{s s1 s2:S}(a:Pf s s1)(b:Pf s1 s2):Pf s s2:=λn o h=>b n o (a n o h)
theorem Pf.app{s t:S}:Pf s (s++t):=λn o h=>by
 rw[rN (sU.mp h).1];exact h
theorem Pf.len{s s':S}(h:Pf s s'):s.length<=s'.length:=by
 cases hs:s.length with
 | zero=>omega
 | succ n =>
  have e:s[n]?=some (s[n]'(by omega)):=by simp
  have:=(sU.mp (h n _ e)).1;omega
theorem Pf.fr{g:Nat}{s s':S}(h:Pf s s'):Fr g s s':=⟨h.len,λn _ o e=>h n o e⟩
theorem Pf.gen{s s':S}{g B:Nat}(h:Pf s s')(k:Gen s g B):Gen s' g B:=by
 obtain⟨a,b,c,h1,h2⟩:=k;exact⟨a,b,c,h _ _ h1,h2⟩
theorem Fr.refl{g:Nat}{s:S}:Fr g s s:=Pf.refl.fr
theorem Fr.trans{g:Nat}{s s1 s2:S}(a:Fr g s s1)(b:Fr g s1 s2):Fr g s s2:=⟨sW a.1 b.1,λn hn o h=>b.2 n hn o (a.2 n hn o h)⟩
theorem Fr.set{g:Nat}{s:S}{o:O}:Fr g s (s.set g o):=⟨by simp,λn hn o' h=>by rw[sV (sH hn)];exact h⟩
end Fc
namespace P1
open PySem Fc
theorem zpy{b:Int}{n:Nat}(h1:0<b)(h2:b<2 ^ n):Builtin.Int.intBits b<=n:=by
 unfold Builtin.Int.intBits;split
 . omega
 . rename_i h
   have e:((2 ^ n:Nat):Int)=2 ^ n:=by simp
   have k:b.natAbs<2 ^ n:=by
    have:(b.natAbs:Int)<((2 ^ n:Nat):Int):=by rw[e];omega
    omega
   have:b.natAbs.log2<n:=(Nat.log2_lt (by omega)).mpr k;omega
end P1
namespace Fc
open PySem
theorem xF{g:G}{b:C}{P:Pst}{n:Nat}{ds:List D}(I:List D->Fc.Env->S->Prop)(hk:∀ r σ s,I r σ s->s[n]?=some (.lst ds))
  (hs:∀ d r σ s,I (d::r) σ s->∃ σ1,g d σ s=some σ1/\wC (b σ1 s) { P with nx:=λe s=>I r e s,ct:=λe s=>I r e s,bk:=P.nx }) (hd:∀ σ s,I [] σ s->P.nx σ s) :
  ∀(k i:Nat) {σ:Fc.Env}{s:S},ds.length=i+k->I (ds.drop i) σ s->wC (forL n g b k i σ s) P
 | 0,i,σ,s,hl,h=>by
  with_unfolding_all
   have e:=hk _ _ _ h;unfold forL yx;rw[e];dsimp only;rw[if_pos (by omega)];rw[pK (by omega)]at h;exact hd σ s h
 | k+1,i,σ,s,hl,h=>by
  with_unfolding_all
   have e:=hk _ _ _ h
   have hi:i<ds.length:=by omega
   rw[qG hi]at h;obtain⟨σ1,h1,h2⟩:=hs _ _ σ s h;unfold forL yx;rw[e];dsimp only;rw[if_pos (by omega),rE hi];dsimp only;rw[h1];dsimp only
   cases hb:b σ1 s with
   | none=>rw[hb]at h2;exact h2.elim
   | some r =>
    rw[hb]at h2
    cases r with
    | nx e2 s2=>exact xF I hk hs hd k (i+1) (by omega) h2
    | ct e2 s2=>exact xF I hk hs hd k (i+1) (by omega) h2
    | bk e2 s2=>exact h2
    | rt d2 s2=>exact h2
    | xc c fs e2 s2=>exact h2
@[simp] theorem zqw:yP 0 3=[.int 0,.int 1,.int 2]:=rfl
@[simp] theorem zrB:small 0=true:=by decide
@[simp] theorem zrC:small 3=true:=by decide
theorem yD{s:S}{n:Nat}{o:O}(h:n<s.length):(s.set n o)[n]?=some o:=by rw[rF h]
theorem zP{s:S}{n m:Nat}{o:O}(h:n≠m):(s.set n o)[m]?=s[m]?:=by rw[sV h]
theorem zq{s:S}{n:Nat}{o:O}(h:s[n]?=some o):n<s.length:=(sU.mp h).1
theorem yr{s:S}{n:Nat}{ds:List D}(h:s[n]?=some (.lst ds)):yx s n=some ds:=by simp[yx,h]
end Fc
namespace P1
open PySem Fc
abbrev Mt:=Nat->Nat->Nat
abbrev Arc:=Nat×Nat×Bool
def aD(a:Arc):D:=.tup [.int a.1,.int a.2.1,.bl a.2.2]
def zdb(M:Mt)(i j:Nat):List Arc:=if 0<M i j then [(i,j,M i j == 2)]else []
def zmf(M:Mt)(i:Nat):List Arc:=[0,1,2].flatMap λj=>zdb M i j
def xT(M:Mt):List Arc:=[0,1,2].flatMap λi=>zmf M i
def jX(b e:Str)(M:Mt):D:=.tup [.str b,.str e,.tup ((xT M).map aD)]
theorem yN{s:S}{i j:Int}:eqD s (.int i) (.int j)=some (i == j):=by
 rw[zbf (vU) (vU) (by simp[SeqAt.shaped,PyData.canLay0,PyData.depth]) (by simp[SeqAt.shaped,PyData.canLay0,PyData.depth])];simp[PyData.eqv]
theorem zcp{M:Mt}{i j:Nat}:(zdb M i j).length<=1:=by
 unfold zdb;split <;> simp
theorem zex{M:Mt}{i:Nat}:(zmf M i).length<=3:=by
 have h0:=zcp (M:=M) (i:=i) (j:=0);have h1:=zcp (M:=M) (i:=i) (j:=1);have h2:=zcp (M:=M) (i:=i) (j:=2);simp only[zmf,List.flatMap_cons,List.flatMap_nil,sY,qm];omega
theorem ziT{M:Mt}:(xT M).length<=9:=by
 have h0:=zex (M:=M) (i:=0);have h1:=zex (M:=M) (i:=1);have h2:=zex (M:=M) (i:=2);simp only[xT,List.flatMap_cons,List.flatMap_nil,sY,qm];omega
def zcX(M:Mt)(i j v:Nat):Mt:=λa b=>if a=i/\b=j then v else M a b
def zrR(M:Mt)(a:Arc):Mt:=zcX M a.1 a.2.1 (max (M a.1 a.2.1) (1+a.2.2.toNat))
def zln(M:Mt)(A:List Arc):Mt:=A.foldl zrR M
def In3(A:List Arc):Prop:=∀ a∈A,a.1<3/\a.2.1<3
structure Drw(s:S)(g p q:Nat)(s':S)(A:List Arc)(B:Nat):Prop where
 at_:s'[s.length]?=some (.lst (A.map aD))
 fr:Fr g s s'
 gen:Gen s' g B
 bd:∀ a∈A,a.1<p/\a.2.1<q
theorem Drw.mono{s:S}{g p q:Nat}{s':S}{A:List Arc}{B B':Nat}(h:Drw s g p q s' A B)(k:B'<=B):Drw s g p q s' A B':=⟨h.at_,h.fr,h.gen.mono k,h.bd⟩
theorem Drw.draw{s:S}{g p q:Nat}{s':S}{A:List Arc}{B B':Nat}{o:O}(h:Drw s g p q s' A B)(hg:g<s.length)(k:Gen (s'.set g o) g B'):Drw s g p q (s'.set g o) A B' :=
 ⟨by rw[zP (by omega)];exact h.at_,h.fr.trans Fr.set,k,h.bd⟩
theorem Drw.put{s:S}{g p q:Nat}{s':S}{A:List Arc}{B:Nat}{a:Arc}(h:Drw s g p q s' A B)(hg:g<s.length)(ha:a.1<p/\a.2.1<q):Drw s g p q (s'.set s.length (.lst (A.map aD++[aD a]))) (A++[a]) B:=by
 have hl:=zq h.at_;refine⟨by rw[yD hl];simp,⟨?_,λn hn o e=>?_⟩,?_,?_⟩
 . simpa using h.fr.1
 . have:=zq e;rw[zP (by omega)];exact h.fr.2 n hn o e
 . obtain⟨a0,b0,c0,e,r⟩:=h.gen;exact⟨a0,b0,c0,by rw[zP (by omega)];exact e,r⟩
 . intro x hx
   rcases tZ.mp hx with hx | hx
   . exact h.bd x hx
   . simp at hx;subst hx;exact ha
theorem uV:SeqAt.shaped (.list [])=true:=by decide
theorem jc{s:S}{n:Nat}(f:Arc->PyData)(h:∀ a,dat s n (aD a)=some (f a)):∀ A:List Arc,dats s n (A.map aD)=some (A.map f)
 | []=>by simp
 | a::A=>zL (h a) (jc f h A)
def zaD(a:Arc):PyData:=.tuple [.int a.1,.int a.2.1,.bool a.2.2]
theorem zaR{s:S}{n:Nat}(a:Arc):dat s (n+1) (aD a)=some (zaD a):=by
 unfold aD;rw[wF,zL vU (zL vU (zL zmY yF))];rfl
theorem zkW(a:Arc):(zaD a).canLay0=true/\(zaD a).depth=1:=by
 simp[zaD,PyData.canLay0,PyData.canLayAll0,PyData.depth,PyData.depthAll]
theorem vR:∀ A:List Arc,PyData.canLayAll0 (A.map zaD)=true/\PyData.depthAll (A.map zaD)<=1
 | []=>by simp[PyData.canLayAll0,PyData.depthAll]
 | a::A=>by
  have h1:=zkW a;have h2:=vR A;simp[PyData.canLayAll0,PyData.depthAll,h1.1,h1.2,h2.1,h2.2]
theorem zez(A:List Arc):SeqAt.shaped (.list (A.map zaD))=true:=by
 have h:=vR A;refine rD.mpr ⟨by simp only[PyData.canLay0,h.1],decide_eq_true ?_⟩;simp only[PyData.depth];omega
theorem eq_nil{s:S}{n m:Nat}{A:List Arc}(h:s[n]?=some (.lst (A.map aD)))(h2:s[m]?=some (.lst [])):eqD s (.ref n) (.ref m)=some A.isEmpty:=by
 have e1:dat s 60 (.ref n)=some (.list (A.map zaD)):=by rw[yQ h,jc zaD (λa=>zaR a)];rfl
 have e2:dat s 60 (.ref m)=some (.list []):=by rw[yQ h2];simp
 rw[zbf e1 e2 (zez A) uV];cases A <;> simp[PyData.eqv,PyData.eqvAll]
def Bd2(M:Mt):Prop:=∀ i j,M i j<=2
end P1
open PySem
namespace Fc
theorem zaB{s0:S}{vs:List Nat}{g:G}{t:T}{e:E}{ds:List D}{σ:Fc.Env}{Q:D->S->Prop}{X:Xc}(f:D->Option D)(hl:ds.length<16777216)
  (hs:∀ d∈ds,∀ s,Pf s0 s->∃ σ1,g d (wipe σ vs) s=some σ1/\wE (t σ1 s) (λc s1=>Pf s s1/\if c=true then wE (e σ1 s1) (λy s2=>Pf s1 s2/\f d=some y) (λ_ _ _=>False)else f d=none) (λ_ _ _=>False))
  (hQ:∀ s',Pf s0 s'->s'[s0.length]?=some (.lst (ds.filterMap f))->Q (.ref s0.length) s'):wE (wX s0 λD0 s2=>lcV D0 vs g t e ds σ s2) Q X:=by
 rw[jG]
 have pset:∀{s:S}{o:O},Pf s0 s->Pf s0 (s.set s0.length o):=λ{s o} h n w hw=>by
  have:=zq hw;rw[zP (by omega)];exact h n w hw
 obtain⟨s',acc',h1,h2,bs,h3,h4,h5⟩:=ziK (D0:=s0.length) (vs:=vs) (g:=g) (t:=t) (e:=e) (σ:=σ) (λr acc s=>∃ bs,ds=bs++r/\acc=bs.filterMap f/\Pf s0 s) ds [] (s:=s0++[.lst []]) ⟨[],rfl,rfl,Pf.app⟩ zJ (by
  rintro d r acc s ⟨bs,e1,rfl,pf⟩ hD;obtain⟨σ1,g1,g2⟩:=hs d (by rw[e1];simp) s pf;refine⟨σ1,g1,zr g2 λc s1 ⟨p1,h⟩=>?_⟩
  cases c with
  | false =>
   simp only[rM,if_false]at h ⊢;exact⟨p1 _ _ hD,bs++[d],by simp[e1],by simp[h],pf.trans p1⟩
  | true =>
   simp only[if_true]at h ⊢
   refine zr h λy s2 ⟨p2,h⟩=>⟨p2 _ _ (p1 _ _ hD),?_,bs++[d],by simp[e1],by simp[h],pset ((pf.trans p1).trans p2)⟩
   have:(bs.filterMap f).length<=bs.length:=pM ..
   have:bs.length<=ds.length:=by rw[e1];simp
   omega)
 refine⟨s',h1,hQ s' h5 ?_⟩;rw[h2,h4];simp at h3;rw[h3]
end Fc
namespace P1
open PySem Fc
theorem zcR{s:S}{i:Int}{X:Xc}{Q:D->S->Prop}(hQ:Q (.bl true) s):wE (d_is_whole [.int i] s) Q X:=by
 unfold d_is_whole;refine(yW (by rfl)).mpr ?_;unfold b_is_whole;simp;exact hQ
theorem kW{α β:Type}:∀ l:List α,l.filterMap (λ_=>(none:Option β))=[]
 | []=>rfl
 | a::l=>by rw[pN];exact kW l
def letters:Str:="abcdefghijklmnopqrstuvwxyz"
def NameOk(x:Str):Prop:=1<=x.length/\x.length<=12/\∀ c∈x.cps.toList,(Builtin.Str.occurrences letters ⟨#[c]⟩ 0 letters.length 1).isEmpty=false
theorem zad{s:S}{x:Str}{X:Xc}{Q:D->S->Prop}(h:NameOk x)(hQ:∀ s',Pf s s'->Q (.bl true) s'):wE (d_is_name [.str x] s) Q X:=by
 unfold d_is_name;refine(yW (by rfl)).mpr ?_;unfold b_is_name;obtain⟨h1,h2,h3⟩:=h;have hs:sz x.length=true:=xY (by omega);have e1:decide (1<=(x.length:Int))=true:=decide_eq_true (by omega);have e2:decide ((x.length:Int)<=12)=true:=decide_eq_true (by omega);simp[zbk,hs,e1,e2,srcOf]
 have hlen:(signs x).length<16777216:=by
   have:x.cps.size=x.length:=rfl;simp[signs];omega
 refine zaB (λ_=>none) hlen (λd hd s' pf=>⟨_,rfl,?_⟩) λs' pf h=>?_
 . obtain⟨c,hc,rfl⟩:=tK.mp hd;have h4:=h3 c hc
   have e3:isIn s' (.str ⟨#[c]⟩) (.str letters)=some true:=by simp[isIn,h4]
   simp[Fc.wipe];rw[show(Str.ofString "abcdefghijklmnopqrstuvwxyz")=letters from rfl,e3];simp;exact Pf.refl
 . have e4:eqD (s'++[O.lst []]) (.ref s.length) (.ref s'.length)=some true:=by
    have:=eq_nil (s:=s'++[.lst []]) (n:=s.length) (m:=s'.length) (A:=[]) (Pf.app _ _ (by rw[h,kW];rfl)) zJ;simpa using this
   rw[e4];exact hQ _ (pf.trans Pf.app)
theorem zjh{M:Mt}{i j:Nat}(hi:i<3)(hj:j<3):In3 (zdb M i j):=by
 intro a ha;unfold zdb at ha;split at ha
 . simp at ha;subst ha;exact⟨hi,hj⟩
 . simp at ha
theorem zfh{M:Mt}:In3 (xT M):=by
 intro a ha;simp only[xT,zmf,List.mem_flatMap]at ha;obtain⟨i,hi,j,hj,ha⟩:=ha;simp at hi hj;exact zjh (by omega) (by omega) a ha
theorem zfe{α β γ:Type}(g:α->β)(f:β->Option γ)(k:α->γ)(h:∀ a,f (g a)=some (k a)):∀ l:List α,(l.map g).filterMap f=l.map k
 | []=>rfl
 | a::l=>by rw[tM,pN,h a,tM,zfe g f k h l]
abbrev Pr:=Nat×Nat
def kD(p:Pr):List L2.Key:=[.inl (p.1:Int),.inl (p.2:Int)]
theorem zhr{p q:Pr}:kD p=kD q↔p=q:=by
 unfold kD;constructor
 . intro h;obtain⟨a,b⟩:=p;obtain⟨c,d⟩:=q;simp at h;obtain⟨h1,h2⟩:=h
   have h1:(a:Int)=c:=by simpa using h1
   have h2:(b:Int)=d:=by simpa using h2
   have e1:a=c:=by omega
   have e2:b=d:=by omega
   rw[e1,e2]
 . rintro rfl;rfl
def kvO(F:Mt)(ps:List Pr):List (List L2.Key×D):=ps.map λp=>(kD p,.bl (F p.1 p.2 == 2))
structure Pls(F:Mt)(ps:List Pr):Prop where
 nd:ps.Nodup
 mem:∀ p,p∈ps↔p.1<3/\p.2<3/\0<F p.1 p.2
theorem zaK{F:Mt}{p:Pr}:∀{ps:List Pr},kget (kvO F ps) (kD p)=if p∈ps then some (.bl (F p.1 p.2 == 2))else none
 | []=>rfl
 | q::ps=>by
  have ih:=zaK (F:=F) (p:=p) (ps:=ps);unfold kget kvO at ih ⊢;by_cases h:kD q=kD p
  . have e:=zhr.mp h;subst e;simp
  . have ne:¬ p=q:=λz=>h (by rw[z]);simp only[tM,qj,h,decide_false,tU,ne,false_or];exact ih
theorem zfn{F:Mt}{p:Pr}{w:Nat}{ps:List Pr}:kput (kvO F ps) (kD p) (.bl (w == 2))=kvO (zcX F p.1 p.2 w) (if p∈ps then ps else ps++[p]):=by
 have any:((kvO F ps).any λkv=>decide (kv.1=kD p))=true↔p∈ps:=by
   simp[kvO,zhr]
 have upd:∀ q:Pr,zcX F p.1 p.2 w q.1 q.2=if q=p then w else F q.1 q.2:=λq=>by
   unfold zcX;by_cases h:q=p
   . subst h;simp
   . rw[if_neg h,if_neg];rintro⟨h1,h2⟩;exact h (Prod.ext h1 h2)
 unfold kput;by_cases h:p∈ps
 . rw[if_pos (any.mpr h),if_pos h];unfold kvO;rw[tW];refine qI λq hq=>?_;simp only[Function.comp,zhr,upd];by_cases e:q=p
   . simp[e]
   . simp[e]
 . rw[if_neg (λz=>h (any.mp z)),if_neg h];unfold kvO;rw[sG];congr 1
   . refine qI λq hq=>?_;have e:¬ q=p:=λz=>h (z ▸ hq);simp[upd,e]
   . simp[upd]
theorem Pls.put{F:Mt}{ps:List Pr}{p:Pr}{w:Nat}(h:Pls F ps)(h1:p.1<3)(h2:p.2<3)(hw:0<w):Pls (zcX F p.1 p.2 w) (if p∈ps then ps else ps++[p]):=by
 have upd:∀ q:Pr,zcX F p.1 p.2 w q.1 q.2=if q=p then w else F q.1 q.2:=λq=>by
   unfold zcX;by_cases h:q=p
   . subst h;simp
   . rw[if_neg h,if_neg];rintro⟨h1,h2⟩;exact h (Prod.ext h1 h2)
 by_cases hp:p∈ps
 . rw[if_pos hp];refine⟨h.nd,λq=>?_⟩;rw[h.mem,upd];by_cases e:q=p
   . subst e;have:=(h.mem q).mp hp;simp[hw,this]
   . simp[e]
 . rw[if_neg hp];refine⟨?_,λq=>?_⟩
   . rw[rK];refine⟨h.nd,by simp,λa ha b hb e=>?_⟩;simp at hb;subst hb;subst e;exact hp ha
   . rw[tZ,h.mem,upd];by_cases e:q=p
     . subst e;simp[hw,h1,h2]
     . simp[e]
theorem zfu{α:Type}[DecidableEq α]:∀{l m:List α},l.Nodup->l⊆m->l.length<=m.length
 | [],_,_,_=>Nat.zero_le _
 | a::l,m,h,hs=>by
  obtain⟨h1,h2⟩:=qJ.mp h;have ha:a∈m:=hs (tH);have hl:l⊆m.erase a:=λx hx=>(List.mem_erase_of_ne (λz=>h1 (by rw[← z];exact hx))).mpr (hs (tQ _ hx));have:=zfu h2 hl;have e:=List.length_erase_of_mem ha;have:0<m.length:=List.length_pos_of_mem ha;simp only[sS];omega
theorem Pls.len{F:Mt}{ps:List Pr}(h:Pls F ps):ps.length<=9:=by
 have:ps⊆[(0,0),(0,1),(0,2),(1,0),(1,1),(1,2),(2,0),(2,1),(2,2)]:=λp hp=>by
  have:=(h.mem p).mp hp;obtain⟨a,b⟩:=p;obtain⟨h1,h2,_⟩:=this;simp only at h1 h2
  match a,b,h1,h2 with
  | 0,0,_,_=>simp
  | 0,1,_,_=>simp
  | 0,2,_,_=>simp
  | 1,0,_,_=>simp
  | 1,1,_,_=>simp
  | 1,2,_,_=>simp
  | 2,0,_,_=>simp
  | 2,1,_,_=>simp
  | 2,2,_,_=>simp
 have k:=zfu h.nd this;simpa using k
theorem zmv{s:S}{n:Nat}{F:Mt}{ps:List Pr}{d1 d2:D}{i k j k':Nat}{f m:Bool}{P:Pst}(hn:s[n]?=some (.dT (kvO F ps)))(hp:Pls F ps)(hi:i<3)(hj:j<3)(hF:Bd2 F)(hf0:∀ a b,(a,b)∉ps->F a b=0)
   (h1:¬ k'=k->P.nx [some d1,some d2,some (.ref n),some (.int i),some (.int k),some (.bl f),some (.int k'),some (.int j),some (.bl m)] s)
   (h2:k'=k->∀ ps',Pls (zcX F i j (max (F i j) (1+(f||m).toNat))) ps'->P.nx [some d1,some d2,some (.ref n),some (.int i),some (.int k),some (.bl f),some (.int k'),some (.int j),some (.bl m)] (s.set n (.dT (kvO (zcX F i j (max (F i j) (1+(f||m).toNat))) ps')))) :
   wC (cIf (tB (e2 oEq (zg 6) (zg 4)))
     (zaf (zg 2) (eN ye (za (zg 3) (za (zg 7) zj))) (eOr (zaV (zg 2) (eN ye (za (zg 3) (za (zg 7) zj))) (eC (.bl false))) (eOr (zg 5) (zg 8))))
     yL [some d1,some d2,some (.ref n),some (.int i),some (.int k),some (.bl f),some (.int k'),some (.int j),some (.bl m)] s) P:=by
 have hl:=hp.len
 have g:ug s (.ref n) (.tup [.int i,.int j])=some (kget (kvO F ps) (kD (i,j))):=by
   unfold ug rd;simp[hn,unl,dget,keysOf,keyOf];rfl
 have isd:isDict s (.ref n)=true:=by simp[isDict,rd,hn,unl]
 have key:∀ w:Nat,0<w->Fc.putAt s (.ref n) (.tup [.int i,.int j]) (.bl (w == 2))=some (s.set n (.dT (kvO (zcX F i j w) (if (i,j)∈ps then ps else ps++[(i,j)])))):=λw hw=>by
   unfold Fc.putAt;dsimp only;rw[hn];dsimp only
   have hlen:(kvO F ps).length<16777216:=by simp[kvO];omega
   have e:=zfn (F:=F) (p:=(i,j)) (w:=w) (ps:=ps);unfold dput;dsimp only;rw[if_pos hlen];simp[keysOf,keyOf];unfold kD at e;rw[e]
 have kgf:(kget (kvO F ps) (kD (i,j))).getD (.bl false)=.bl (F i j == 2):=by
   rw[zaK];by_cases h:(i,j)∈ps
   . rw[if_pos h];rfl
   . rw[if_neg h,hf0 i j h];rfl
 simp[yN];refine jU (λh=>?_) λh=>?_
 . have h:k'=k:=by
     have:(k':Int)=k:=by simpa using h
     omega
   rw[isd,yj,g];simp only[zB];rw[kgf];simp;have hb:=hF i j
   have fin:∀ c:Bool,c=(max (F i j) (1+(f||m).toNat) == 2)->onO (Fc.putAt s (.ref n) (.tup [.int i,.int j]) (.bl c)) λs4=>P.nx [some d1,some d2,some (.ref n),some (.int i),some (.int k),some (.bl f),some (.int k'),some (.int j),some (.bl m)] s4:=by
     rintro c rfl;rw[key _ (by omega)];exact h2 h _ (hp.put (p:=(i,j)) hi hj (by omega))
   refine jU (λhc=>?_) λhc=>?_
   . have hc:F i j=2:=by simpa using hc
     rw[hc];refine fin _ ?_;rw[hc];cases f <;> cases m <;> rfl
   . have hc:¬ F i j=2:=by simpa using hc
     have hv:F i j=0\/F i j=1:=by omega
     cases f with
     | true =>
      simp;refine fin _ ?_
      rcases hv with e | e <;> rw[e] <;> cases m <;> rfl
     | false =>
      simp;refine fin _ ?_
      rcases hv with e | e <;> rw[e] <;> cases m <;> rfl
 . have h:¬ k'=k:=by
     have:¬ (k':Int)=k:=by simpa using h
     omega
   simpa using h1 h
def leP(p q:Pr):Bool:=decide (p.1<q.1\/(p.1=q.1/\p.2<=q.2))
def a2(a:Arc):Pr:=(a.1,a.2.1)
theorem zaL{F:Mt}{a:Arc}:a∈xT F↔a.1<3/\a.2.1<3/\0<F a.1 a.2.1/\a.2.2=(F a.1 a.2.1 == 2):=by
 simp only[xT,zmf,List.mem_flatMap,zdb];constructor
 . rintro⟨i,hi,j,hj,h⟩;split at h
   . rename_i hF;simp at h;subst h;simp at hi hj;exact⟨by simp;omega,by simp;omega,hF,rfl⟩
   . simp at h
 . rintro⟨h1,h2,h3,h4⟩;refine⟨a.1,by simp;omega,a.2.1,by simp;omega,?_⟩;rw[if_pos h3];obtain⟨i,j,f⟩:=a;simp at h4 ⊢;exact h4
theorem zhZ{F:Mt}:((xT F).map a2).Pairwise (λp q=>p.1<q.1\/(p.1=q.1/\p.2<q.2)):=by
 have sc:∀ i j:Nat,((zdb F i j).map a2).Sublist [(i,j)]:=λi j=>by unfold zdb;split <;> simp[a2]
 have sr:∀ i:Nat,((zmf F i).map a2).Sublist [(i,0),(i,1),(i,2)]:=λi=>by
  have h:=(sc i 0).append ((sc i 1).append (sc i 2));simpa[zmf]using h
 have h:=(sr 0).append ((sr 1).append (sr 2));refine List.Pairwise.sublist (l₂:=[(0,0),(0,1),(0,2),(1,0),(1,1),(1,2),(2,0),(2,1),(2,2)]) (by simpa[xT]using h) (by decide)
theorem zmm{F:Mt}{ps:List Pr}(h:Pls F ps):ps.mergeSort leP=(xT F).map a2:=by
 have hs:=zhZ (F:=F)
 have nd:((xT F).map a2).Nodup:=hs.imp λ{a b} h e=>by subst e;omega
 refine List.Perm.eq_of_pairwise (le:=λp q=>leP p q=true) (λa b _ _ h1 h2=>?_) (List.pairwise_mergeSort (λa b c h1 h2=>?_) (λa b=>?_) ps) (hs.imp λ{a b} h=>?_) ((List.mergeSort_perm ps leP).trans ((List.perm_ext_iff_of_nodup h.nd nd).mpr λp=>?_))
 . simp only[leP,decide_eq_true_eq]at h1 h2;exact Prod.ext (by omega) (by omega)
 . simp only[leP,decide_eq_true_eq]at h1 h2 ⊢;omega
 . simp only[leP,Bool.or_eq_true,decide_eq_true_eq];omega
 . simp only[leP,decide_eq_true_eq];omega
 . rw[h.mem,tK];constructor
   . rintro⟨h1,h2,h3⟩;exact⟨(p.1,p.2,F p.1 p.2 == 2),zaL.mpr ⟨h1,h2,h3,rfl⟩,rfl⟩
   . rintro⟨a,ha,rfl⟩;obtain⟨h1,h2,h3,_⟩:=zaL.mp ha;exact⟨h1,h2,h3⟩
def pQ(p:Pr):D:=.tup [.int p.1,.int p.2]
def pP(p:Pr):PyData:=.tuple [.int p.1,.int p.2]
theorem zkc{s:S}{n:Nat}(p:Pr):dat s (n+1) (pQ p)=some (pP p):=by
 unfold pQ;rw[wF,zL vU (zL vU yF)];rfl
theorem zkh{s:S}(p:Pr):enc s (pQ p)=pP p:=by unfold enc;rw[zkc];rfl
theorem zmZ{s:S}{n:Nat}:∀ ps:List Pr,dats s (n+1) (ps.map pQ)=some (ps.map pP)
 | []=>by simp
 | p::ps=>zL (zkc p) (zmZ ps)
theorem zis{s:S}{ps:List Pr}(h:ps.length<=9):zbF s (ps.map pQ)=true:=by
 unfold zbF
 have e:(ps.map pQ).map (enc s)=ps.map pP:=by
  rw[tW];exact qI λp _=>zkh p
 rw[zmZ,e];have h1:sz (ps.map pQ).length=true:=xY (by simp;omega);rw[h1];simp[List.all_map,zcK,pP,PySem.W.alike,PySem.W.alikeAll]
theorem zjL{s:S}{ps:List Pr}:zgr s (ps.map pQ)=(ps.mergeSort leP).map pQ:=by
 unfold zgr;refine(List.map_mergeSort λa _ b _=>?_).symm;have e:=congrFun (congrFun (PySem.W.dataLe_ii (β:=Pr) (λp=>(p.1:Int)) (λp=>(p.2:Int))) a) b
 have e2:PySem.W.dataLe false (enc s) (pQ a) (pQ b)=PySem.W.dataLe false (λp:Pr=>.tuple [.int (p.1:Int),.int (p.2:Int)]) a b:=by
   simp only[PySem.W.dataLe_eq,zkh,pP]
 rw[e2,e];unfold leP;by_cases h:a.1<b.1\/(a.1=b.1/\a.2<=b.2)
 . rw[decide_eq_true h,decide_eq_true (by omega)]
 . rw[decide_eq_false h,decide_eq_false (by omega)]
end P1
namespace Fc
open PySem
theorem zgy{D0 n:Nat}{dsA:List D}{vs:List Nat}{g:G}{t:T}{e:E}{σ:Fc.Env}(I:List D->List D->S->Prop)(hk:∀ r acc s,I r acc s->s[n]?=some (.lst dsA)):∀(k i:Nat) (acc:List D) {s:S},dsA.length=i+k->I (dsA.drop i) acc s->s[D0]?=some (.lst acc) ->
  (∀ d r acc s,I (d::r) acc s->s[D0]?=some (.lst acc)->∃ σ1,g d (wipe σ vs) s=some σ1/\wE (t σ1 s) (λc s1=>if c=true then wE (e σ1 s1) (λy s2=>s2[D0]?=some (.lst acc)/\acc.length<16777216/\I r (acc++[y]) (s2.set D0 (.lst (acc++[y])))) (λ_ _ _=>False)else s1[D0]?=some (.lst acc)/\I r acc s1) (λ_ _ _=>False)) ->
  ∃ s' acc',lcL D0 n vs g t e k i σ s=some s'/\s'[D0]?=some (.lst acc')/\I [] acc' s'
 | 0,i,acc,s,hl,h,hD,_=>by
  have e1:=hk _ _ _ h;rw[pK (by omega)]at h;refine⟨s,acc,?_,hD,h⟩;unfold lcL yx;rw[e1];simp[hl]
 | k+1,i,acc,s,hl,h,hD,hs=>by
  with_unfolding_all
   have e1:=hk _ _ _ h
   have hi:i<dsA.length:=by omega
   rw[qG hi]at h;obtain⟨σ1,h1,h2⟩:=hs _ _ acc s h hD;unfold lcL yx;rw[e1];dsimp only;rw[if_pos (by omega),rE hi];dsimp only;rw[h1];dsimp only
   cases ht:t σ1 s with
   | none=>rw[ht]at h2;exact h2.elim
   | some q =>
    rw[ht]at h2
    cases q with
    | exc c fs s'=>exact h2.elim
    | ok c s1 =>
     cases c with
     | false =>
      simp only[uB,rM,if_false]at h2;exact zgy I hk k (i+1) acc (by omega) h2.2 h2.1 hs
     | true =>
      simp only[uB,if_true]at h2;dsimp only
      cases he:e σ1 s1 with
      | none=>rw[he]at h2;exact h2.elim
      | some q =>
       rw[he]at h2
       cases q with
       | exc c fs s'=>exact h2.elim
       | ok y s2 =>
        obtain⟨h3,h4,h5⟩:=uB.mp h2;have hl':D0<s2.length:=(sU.mp h3).1;dsimp only;unfold zbj;rw[h3];dsimp only;rw[if_pos h4];exact zgy I hk k (i+1) (acc++[y]) (by omega) h5 (by rw[rF hl']) hs
theorem zfV{s0:S}{n:Nat}{vs:List Nat}{g:G}{t:T}{e:E}{ds:List D}{σ:Fc.Env}{Q:D->S->Prop}{X:Xc}(f:D->Option D)(hn:s0[n]?=some (.lst ds))(hl:ds.length<16777216)
  (hs:∀ d∈ds,∀ s,Pf s0 s->∃ σ1,g d (wipe σ vs) s=some σ1/\wE (t σ1 s) (λc s1=>Pf s s1/\if c=true then wE (e σ1 s1) (λy s2=>Pf s1 s2/\f d=some y) (λ_ _ _=>False)else f d=none) (λ_ _ _=>False))
  (hQ:∀ s',Pf s0 s'->s'[s0.length]?=some (.lst (ds.filterMap f))->Q (.ref s0.length) s'):wE (wX s0 λD0 s2=>lcL D0 n vs g t e ds.length 0 σ s2) Q X:=by
 rw[jG]
 have pset:∀{s:S}{o:O},Pf s0 s->Pf s0 (s.set s0.length o):=λ{s o} h n w hw=>by
  have:=zq hw;rw[zP (by omega)];exact h n w hw
 obtain⟨s',acc',h1,h2,bs,h3,h4,h5⟩:=zgy (D0:=s0.length) (n:=n) (dsA:=ds) (vs:=vs) (g:=g) (t:=t) (e:=e) (σ:=σ) (λr acc s=>∃ bs,ds=bs++r/\acc=bs.filterMap f/\Pf s0 s) (λr acc s ⟨_,_,_,pf⟩=>pf _ _ hn) ds.length 0 [] (s:=s0++[.lst []]) (by omega) ⟨[],rfl,rfl,Pf.app⟩ zJ (by
  rintro d r acc s ⟨bs,e1,rfl,pf⟩ hD;obtain⟨σ1,g1,g2⟩:=hs d (by rw[e1];simp) s pf;refine⟨σ1,g1,zr g2 λc s1 ⟨p1,h⟩=>?_⟩
  cases c with
  | false =>
   simp only[rM,if_false]at h ⊢;exact⟨p1 _ _ hD,bs++[d],by simp[e1],by simp[h],pf.trans p1⟩
  | true =>
   simp only[if_true]at h ⊢
   refine zr h λy s2 ⟨p2,h⟩=>⟨p2 _ _ (p1 _ _ hD),?_,bs++[d],by simp[e1],by simp[h],pset ((pf.trans p1).trans p2)⟩
   have:(bs.filterMap f).length<=bs.length:=pM ..
   have:bs.length<=ds.length:=by rw[e1];simp
   omega)
 refine⟨s',h1,hQ s' h5 ?_⟩;rw[h2,h4];simp at h3;rw[h3]
theorem Pf.unlock{s s':S}{n:Nat}{o o':O}(h:s[n]?=some o)(p:Pf (s.set n o') s'):Pf s (s'.set n o):=λm w hw=>by
 have hl:n<s.length:=zq h;by_cases e:n=m
 . subst e;rw[h]at hw;cases hw
   have:n<s'.length:=by have:=p.len;simp at this;omega
   rw[yD this]
 . rw[zP e];exact p _ _ (by rw[zP e];exact hw)
end Fc
namespace P1
open PySem Fc
theorem zeb{α β γ:Type}(g:α->β)(f:β->Option γ)(k:α->γ):∀ l:List α,(∀ a∈l,f (g a)=some (k a))->(l.map g).filterMap f=l.map k
 | [],_=>rfl
 | a::l,h=>by rw[tM,pN,h a (tH),tM,zeb g f k l λb hb=>h b (tQ _ hb)]
def zqE(a b:Arc)(F:Mt):Mt:=if b.1=a.2.1 then zcX F a.1 b.2.1 (max (F a.1 b.2.1) (1+(a.2.2||b.2.2).toNat))else F
def inJ(F:Mt)(a:Arc)(Bs:List Arc):Mt:=Bs.foldl (λF b=>zqE a b F) F
def znM(F:Mt)(As Bs:List Arc):Mt:=As.foldl (λF a=>inJ F a Bs) F
structure DJ(F:Mt)(ps:List Pr):Prop where
 pl:Pls F ps
 bd:Bd2 F
 z:∀ a b,¬ (a<3/\b<3)->F a b=0
theorem DJ.out{F:Mt}{ps:List Pr}(h:DJ F ps):∀ a b,(a,b)∉ps->F a b=0:=λa b hn=>by
 by_cases k:a<3/\b<3
 . have:¬ 0<F a b:=λw=>hn ((h.pl.mem (a,b)).mpr ⟨k.1,k.2,w⟩);omega
 . exact h.z a b k
theorem DJ.put{F:Mt}{ps ps':List Pr}{i j:Nat}{f:Bool}(h:DJ F ps)(hi:i<3)(hj:j<3)(k:Pls (zcX F i j (max (F i j) (1+f.toNat))) ps'):DJ (zcX F i j (max (F i j) (1+f.toNat))) ps':=by
 refine⟨k,λa b=>?_,λa b hab=>?_⟩
 . unfold zcX;have:=h.bd i j;have:=h.bd a b;cases f <;> simp <;> split <;> omega
 . unfold zcX;rw[if_neg (by rintro⟨rfl,rfl⟩;exact hab ⟨hi,hj⟩)];exact h.z a b hab
theorem wk{s:S}{x y:Str}(h1:PyData.strOk x=true)(h2:PyData.strOk y=true):eqD s (.str x) (.str y)=some (x == y):=by
 rw[zbf (yR) (yR) (by simp[SeqAt.shaped,PyData.canLay0,PyData.depth,h1]) (by simp[SeqAt.shaped,PyData.canLay0,PyData.depth,h2])];simp[PyData.eqv]
def zrr(M N:Mt):Mt:=znM (λ_ _=>0) (xT M) (xT N)
theorem zqH{s:S}{b e:Str}{M:Mt}:atD s (jX b e M) (.int 0)=some (.str b):=by simp[jX]
theorem zqI{s:S}{b e:Str}{M:Mt}:atD s (jX b e M) (.int 1)=some (.str e):=by simp[jX]
def tm(x y:Nat):Nat:=if 0<x/\0<y then max x y else 0
def zsh(M N:Mt):Mt:=λi j=>if i<3/\j<3 then max (tm (M i 0) (N 0 j)) (max (tm (M i 1) (N 1 j)) (tm (M i 2) (N 2 j)))else 0
def pw(M:Mt):Nat->Mt
 | 0=>M
 | n+1=>zsh (pw M n) M
def dg(M:Mt):Bool:=M 0 0 == 2||M 1 1 == 2||M 2 2 == 2
def hf(M:Mt):Bool:=dg M||(dg (pw M 1)||dg (pw M 2))
end P1
namespace Fc
open PySem
section
variable{s:S}{σ:Env}{X:Xc}{Q:D->S->Prop}
def zkl(s:S)(x:D)(f:Str):Option D:=match x with
 | .ref n=>match s[n]? with
  | some (.ins _ fs)=>fs.lookup f
  | some (.err _ fs)=>fs.lookup f
  | _=>none
 | _=>none
@[simp ↓] theorem zsu{f:Str}{x:D}:wE (zaM f x s) Q X↔onO (zkl s x f) λd=>Q d s:=by
 with_unfolding_all
  unfold zaM zkl
  cases x with
  | ref n =>
   dsimp only
   cases h:s[n]? with
   | none=>simp
   | some o =>
    cases o with
    | ins c fs=>dsimp only;cases fs.lookup f <;> simp
    | err c fs=>dsimp only;cases fs.lookup f <;> simp
    | _=>simp
  | _=>simp
theorem zfd{n:Nat}{c f:Str}{fs:List (Str×D)}(h:s[n]?=some (.ins c fs)):zkl s (.ref n) f=fs.lookup f:=by
 simp[zkl,h]
def zob(s:S)(x:D)(f:Str)(v:D):Option S:=match x with
 | .ref n=>match s[n]? with
  | some (.ins c fs)=>if fs.length<900 then some (s.set n (.ins c (fput f v fs)))else none
  | _=>none
 | _=>none
@[simp ↓] theorem zsa{f:Str}{o e:E}{P:Pst}:wC (zmG f o e σ s) P↔wE (e σ s) (λv s1=>wE (o σ s1) (λx s2=>onO (zob s2 x f v) λs3=>P.nx σ s3) P.xc) P.xc:=by
 with_unfolding_all
  show wC (ex σ (e σ s) _) P↔_;rw[wu]
  have key:∀(v x:D) (s2:S),wC (match x with
     | .ref n=>match s2[n]? with
      | some (.ins c fs)=>if fs.length<900 then some (R.nx σ (s2.set n (.ins c (fput f v fs))))else none
      | _=>none
     | _=>none) P↔onO (zob s2 x f v) λs3=>P.nx σ s3:=by
    intro v x s2;unfold zob
    cases x with
    | ref n =>
     dsimp only
     cases h:s2[n]? with
     | none=>simp
     | some o =>
      cases o with
      | ins c fs =>
       dsimp only;by_cases z:fs.length<900 <;> simp[z]
      | _=>simp
    | _=>simp
  constructor
  . intro h;exact zr h λv s1 h=>zr (wu.mp h) λx s2 h=>(key v x s2).mp h
  . intro h;exact zr h λv s1 h=>wu.mpr (zr h λx s2 h=>(key v x s2).mpr h)
theorem zcI{n:Nat}{c f:Str}{v:D}{fs:List (Str×D)}(h:s[n]?=some (.ins c fs))(hl:fs.length<900):zob s (.ref n) f v=some (s.set n (.ins c (fput f v fs))):=by
 simp[zob,h,hl]
def onN(d:D)(k:Prop):Prop:=match d with
 | .non=>k
 | _=>False
@[simp] theorem zqp{k:Prop}:onN .non k↔k:=Iff.rfl
theorem zfs{m:Option (Res D)}{r:D}:wE (match m with
  | some (.ok .non s')=>some (.ok r s')
  | some (.exc x fs s')=>some (.exc x fs s')
  | _=>none) Q X↔wE m (λd s'=>onN d (Q r s')) X:=by
 with_unfolding_all
  cases m with
  | none=>simp
  | some q =>
   cases q with
   | exc c fs s'=>simp
   | ok d s'=>cases d <;> simp[onN]
@[simp ↓] theorem zrM{c:Str}{init:F}{dfl:List D}{es:EL}:wE (vD c init dfl es σ s) Q X↔wE (es σ s) (λds s1=>wE (init (.ref s1.length::(ds++dfl)) (s1++[.ins c []])) (λd s'=>onN d (Q (.ref s1.length) s')) X) X:=by
 with_unfolding_all
  show wE (bnd (es σ) _ s) Q X↔_;rw[yK];constructor
  . intro h;exact zr h λds s1 h=>zfs.mp h
  . intro h;exact zr h λds s1 h=>zfs.mpr h
def zls(s:S)(x:D)(c m:Str):Bool:=match x with
 | .ref n=>match s[n]? with
  | some (.ins c' fs)=>decide (c'=c)&&(fs.lookup m).isNone
  | _=>false
 | _=>false
theorem zhk{n:Nat}{c m:Str}{fs:List (Str×D)}(h:s[n]?=some (.ins c fs))(hm:fs.lookup m=none):zls s (.ref n) c m=true:=by
 simp[zls,h,hm]
@[simp ↓] theorem zrN{c m:Str}{f:F}{dfl:List D}{o:E}{es:EL}:wE (uC c m f dfl o es σ s) Q X↔wE (o σ s) (λx s1=>onT (zls s1 x c m) (wE (es σ s1) (λds s2=>wE (f (x::(ds++dfl)) s2) Q X) X) False) X:=by
 with_unfolding_all
  show wE (bnd (o σ) _ s) Q X↔_;rw[yK]
  have key:∀(x:D) (s1:S),wE (match x with
     | .ref n=>match s1[n]? with
      | some (.ins c' fs)=>if c'=c/\fs.lookup m=none then bnd (es σ) (λds=>f (x::(ds++dfl))) s1 else none
      | _=>none
     | _=>none) Q X↔onT (zls s1 x c m) (wE (es σ s1) (λds s2=>wE (f (x::(ds++dfl)) s2) Q X) X) False:=by
    intro x s1;unfold zls
    cases x with
    | ref n =>
     dsimp only
     cases h:s1[n]? with
     | none=>simp
     | some o =>
      cases o with
      | ins c' fs =>
       dsimp only;by_cases z:c'=c
       . by_cases z2:fs.lookup m=none
         . simp only[z,z2,and_self,if_true,decide_true,Option.isNone_none,rJ,yj];exact yK
         . have z3:(List.lookup m fs).isNone=false:=by cases hh:List.lookup m fs with
            | none=>exact absurd hh z2
            | some _=>rfl
           simp[z,z2,z3]
       . simp[z]
      | _=>simp
    | _=>simp
  constructor
  . intro h;exact zr h λx s1 h=>(key x s1).mp h
  . intro h;exact zr h λx s1 h=>(key x s1).mpr h
def two(s:S)(x y:D)(c:Str):Bool:=match x,y with
 | .ref m,.ref n=>match s[m]?,s[n]? with
  | some (.ins c1 _),some (.ins c2 _)=>decide (c1=c/\c2=c)
  | _,_=>false
 | _,_=>false
theorem zlT{c:Str}{F:Fc.F}{x y:D}{g:Bool->Bool}:wE ((zlS c F x y s).map λr=>Res.ok (D.bl (g r.1)) r.2) Q X↔(two s x y c=true/\wE (F [x,y] s) (λd s'=>onB d λb=>Q (.bl (g b)) s') (λ_ _ _=>False)):=by
 with_unfolding_all
  unfold zlS two;split
  . rename_i m n;split
    . rename_i c1 f1 c2 f2 h1 h2;by_cases h:c1=c/\c2=c
      . simp only[h,and_self,if_true,decide_true,true_and];obtain⟨rfl,rfl⟩:=h
        try simp only[h1,h2,and_self,if_true,decide_true,true_and]
        cases hF:F [D.ref m,D.ref n] s with
        | none=>simp
        | some q =>
         cases q with
         | exc _ _ _=>simp
         | ok d s'=>cases d <;> simp[onB]
      . simp only[h1,h2,h,if_false,decide_false,rM,false_and,iff_false];simp
    . simp
  . simp
theorem zqP{c:Str}{F:Fc.F}{x y:D}:wE (zgi c F x y s) Q X↔(two s x y c=true/\wE (F [x,y] s) (λd s'=>onB d λb=>Q (.bl (!b)) s') (λ_ _ _=>False)):=zlT (g:=λb=>!b)
def zcw(s:S)(x:D):Option (List D):=match x with
 | .ref n=>match s[n]? with
  | some (.dK kvs)=>some (kvs.map pairD)
  | _=>none
 | _=>none
@[simp ↓] theorem zps{x:D}:wE (xW x s) Q X↔onO (zcw s x) λds=>Q (.ref s.length) (s++[.lst ds]):=by
 with_unfolding_all
  unfold xW zcw
  cases x with
  | ref n =>
   dsimp only
   cases h:s[n]? with
   | none=>simp
   | some o=>cases o <;> simp
  | _=>simp
theorem jL{n:Nat}{kvs:List (L2.Key×D)}(h:s[n]?=some (.dK kvs)):zcw s (.ref n)=some (kvs.map pairD):=by
 simp[zcw,h]
@[simp ↓] theorem zpt{ds:List D}:wE (zcs [.tup ds] s) Q X↔Q (.ref s.length) (s++[.lst ds]):=by
 with_unfolding_all
  exact Iff.rfl
theorem zjT{n:Nat}{ds:List D}(h:s[n]?=some (.lst ds)):wE (zcs [.ref n] s) Q X↔Q (.ref s.length) (s++[.lst ds]):=by
 with_unfolding_all
  unfold zcs;dsimp only;rw[h];exact Iff.rfl
theorem ziJ{n:Nat}{o:O}{f:S->Option R}{P:Pst}(h:s[n]?=some o)(hl:∀ o',o≠.lck o')(k:wC (f (s.set n (.lck o))) { nx:=λe s=>P.nx e (s.set n o),rt:=λd s=>P.rt d (s.set n o),bk:=λe s=>P.bk e (s.set n o),ct:=λe s=>P.ct e (s.set n o),xc:=P.xc }):wC (zbP n s f) P:=by
 with_unfolding_all
  unfold zbP;rw[h]
  cases o with
  | lck o'=>exact absurd rfl (hl o')
  | _ =>
   dsimp only;revert k
   cases f (s.set n (.lck _))with
   | none=>exact λk=>k
   | some r=>cases r <;> exact λk=>k
theorem jY{n:Nat}{o:O}{f:S->Option (Res D)}(h:s[n]?=some o)(hl:∀ o',o≠.lck o')(k:wE (f (s.set n (.lck o))) (λd s=>Q d (s.set n o)) X):wE (uL n s f) Q X:=by
 with_unfolding_all
  unfold uL;rw[h]
  cases o with
  | lck o'=>exact absurd rfl (hl o')
  | _ =>
   dsimp only;revert k
   cases f (s.set n (.lck _))with
   | none=>exact λk=>k
   | some r=>cases r <;> exact λk=>k
end
section
variable{s:S}{σ:Env}{X:Xc}{Q:D->S->Prop}
@[simp ↓] theorem zpO{c f:Str}{e:E}{P:Pst}:wC (wy c f e σ s) P↔wE (e σ s) (λv s'=>P.xc c [(f,v)] s') P.xc:=by
 with_unfolding_all
  exact wu
def isJ(s:S)(x:D)(sub:List Str):Option Bool:=match x with
 | .ref n=>match s[n]? with
  | some (.ins c _)=>some (sub.contains c)
  | some (.err c _)=>some (sub.contains c)
  | some (.lst _)=>some false
  | some (.dK _)=>some false
  | some (.dT _)=>some false
  | _=>none
 | .rol _=>none
 | .stu _=>none
 | _=>some false
@[simp ↓] theorem zsw{sub:List Str}{x:D}:wE (zhQ sub x s) Q X↔onO (isJ s x sub) λb=>Q (.bl b) s:=by
 with_unfolding_all
  unfold zhQ isJ
  cases x with
  | ref n =>
   dsimp only
   cases h:s[n]? with
   | none=>simp
   | some o=>cases o <;> simp
  | _=>simp
theorem zhp{n:Nat}{c:Str}{sub:List Str}{fs:List (Str×D)}(h:s[n]?=some (.ins c fs)):isJ s (.ref n) sub=some (sub.contains c):=by
 simp[isJ,h]
@[simp ↓] theorem zqb{n:Nat}:wE (ju [.ref n] s) Q X↔onO (yx s n) λds=>onO (jA ds) λkvs=>Q (.ref s.length) (s++[.dK (uM [] kvs)]):=by
 with_unfolding_all
  unfold ju;dsimp only
  cases h:yx s n with
  | none=>simp[h]
  | some ds =>
   dsimp only
   cases h2:jA ds with
   | none=>simp[h2]
   | some kvs=>simp[h2]
end
end Fc
namespace Fc
open PySem PySem.Spec PyProof.Rows L2
variable{cm:CM}{W:WX}
def strsOf:List D->Option (List Str)
 | []=>some []
 | .str x::r=>(strsOf r).map (x::·)
 | _=>none
def zkY:List D->Option (List Bool)
 | []=>some []
 | .bl x::r=>(zkY r).map (x::·)
 | _=>none
def zmJ(ds:List D)(v:D):Option Nat:=match v with
 | .str k=>match strsOf ds with
  | some ks=>if k∈ks then some (ks.idxOf k)else none
  | none=>none
 | .bl k=>match zkY ds with
  | some ks=>if k∈ks then some (ks.idxOf k)else none
  | none=>none
 | _=>none
def zbp:D->List D->M D:=λx xs s=>match x,xs with
 | .ref n,[v]=>match s[n]? with
  | some (.lst ds)=>(zmJ ds v).map λi=>.ok (.int i) s
  | _=>none
 | _,_=>none
theorem zdG:∀{ds:List D}{ks:List Str},strsOf ds=some ks->ds=ks.map .str
 | [],ks,h=>by cases h;rfl
 | .str x::r,ks,h=>by
  obtain⟨l,h1,rfl⟩:=tY.mp h;rw[zdG h1];rfl
 | .non::_,_,h=>by cases h
 | .bl _::_,_,h=>by cases h
 | .int _::_,_,h=>by cases h
 | .tup _::_,_,h=>by cases h
 | .ref _::_,_,h=>by cases h
 | .rol _::_,_,h=>by cases h
 | .stu _::_,_,h=>by cases h
theorem zeS:∀{ds:List D}{ks:List Bool},zkY ds=some ks->ds=ks.map .bl
 | [],ks,h=>by cases h;rfl
 | .bl x::r,ks,h=>by
  obtain⟨l,h1,rfl⟩:=tY.mp h;rw[zeS h1];rfl
 | .non::_,_,h=>by cases h
 | .str _::_,_,h=>by cases h
 | .int _::_,_,h=>by cases h
 | .tup _::_,_,h=>by cases h
 | .ref _::_,_,h=>by cases h
 | .rol _::_,_,h=>by cases h
 | .stu _::_,_,h=>by cases h
section
variable{K:pX}{p:List Addr}{H:Hp}{X:Cx}{a b:Expr}{fa:E}{fl:EL}
theorem zfK:∀{ks:List Str}{vs:List V}{us:List Value},RVs K p H (ks.map .str) vs->Vals vs us->StrsAre us ks
 | [],vs,us,h,r=>by
  simp only[rY,RVs]at h;subst h;cases r;exact .nil
 | k::ks,vs,us,h,r=>by
  simp only[tM,RVs]at h;obtain⟨v,r',rfl,h1,h2⟩:=h;have e:=xq h1;subst e
  cases r with
  | cons r1 r2 =>
   obtain⟨t,rfl⟩:=r1;exact .cons k t (zfK h2 r2)
theorem zgK:∀{ks:List Bool}{vs:List V}{us:List Value},RVs K p H (ks.map .bl) vs->Vals vs us->us=ks.map .bool
 | [],vs,us,h,r=>by
  simp only[rY,RVs]at h;subst h;cases r;rfl
 | k::ks,vs,us,h,r=>by
  simp only[tM,RVs]at h;obtain⟨v,r',rfl,h1,h2⟩:=h;have e:=jW h1;subst e
  cases r with
  | cons r1 r2 =>
   cases (show _=Value.bool k from r1);rw[zgK h2 r2];rfl
def rIndex(K:pX)(cm:CM):V->List V->Hp->VK->Prop:=λx vs H Q=>∃ p s n ds y d i,RS K cm p s H/\RV K p H (.ref n) x/\vs=[y]/\RV K p H d y/\s[n]?=some (.lst ds)/\zmJ ds d=some i/\Q (.int (i:Nat)) H
theorem mt_index:MtR X "list.index" (rIndex X.K cm):=by
 intro pins s0 σ H x vs v us Q I rx rv h;obtain⟨p,s,n,ds,y,d,i,rs,r1,rfl,r2,hn,hi,q⟩:=h;obtain⟨a,ws,rfl,_,hH,rr⟩:=yu rs r1 hn;cases (show v=Value.ref a from rx);obtain⟨u,rfl,ru⟩:=vals1 rv;obtain⟨its,w,pl,hz⟩:=I.list (SqL.of hH);have hl:=w.length;have hl2:=rr.length;unfold zmJ at hi;split at hi
 . rename_i k;have e:=xq r2;subst e;obtain⟨t,rfl⟩:=ru;split at hi
   . rename_i ks hk;split at hi
     . rename_i hm;cases hi;have e:=zdG hk;subst e;exact PySem.SeqAt.list_index_strs pl.isList (zfK rr w) (by simp at hl2;omega) hm ⟨.int _,H,I.tok _,⟨_,rfl⟩,q⟩
     . cases hi
   . cases hi
 . rename_i k;have e:=jW r2;subst e;cases (show u=Value.bool k from ru);split at hi
   . rename_i ks hk;split at hi
     . rename_i hm;cases hi;have e:=zeS hk;subst e;have ei:=zgK rr w;subst ei;refine PySem.SeqAt.call_list_index (ks:=ks) (k:=k) pl.isList ⟨by simp,λj h1 h2=>?_⟩ (by simp at hl2;omega) hm ⟨.int _,H,I.tok _,⟨_,rfl⟩,q⟩;have:=PySem.SeqAt.EqAt.bool_bool (A:=X.A.in1) (s:=s0) ks[j] k;simp only[List.getElem_map];rw[show decide (ks[j]=k)=(ks[j] == k) by rw[qZ];simp];exact this
     . cases hi
   . cases hi
 . cases hi
theorem zgm{apos cpos:Pos}(ho:JE X cm W a fa)(ha:JA X cm W [b] fl)
   (hbase:attributeBase a "index" X.env (eval a X.env)=eval a X.env:=by rfl)
   (hfew:((backTo cpos (starEach [b] X.env)).all (λx=>!x.1)&&(backToKw cpos (keywordEach [] X.env)).all (λx=>x.1.isSome)
     && decide (([b]:List Expr).length+([]:List Keyword).length+(if ([]:List Keyword).isEmpty then 0 else 1)<30))=true:=by rfl)
   (hline:(apos.endLine == cpos.line)=true:=by rfl) (hs:starEach [b] X.env=(false,eval b X.env)::starEach [] X.env:=by rfl) (hplain:(backTo cpos (starEach [] X.env)).any (·.1)=false:=by rfl) :
   JE X cm W (.Call (.Attribute a "index" apos) [b] [] cpos) (eM zbp fa fl):=by
 refine r_m PySem.F.slot_list_index (by rfl) (mt_index (cm:=cm)) (λW p s σ H x xs d ds Q rs rx rxs q=>?_) ho ha hbase hfew hline hs hplain;unfold zbp at q;split at q
 . rename_i n v;split at q
   . rename_i ds' hn
     cases hi:zmJ ds' v with
     | none=>rw[hi]at q;exact q.elim
     | some i =>
      rw[hi]at q;obtain⟨y,rfl,r1⟩:=xU rxs;exact⟨p,s,n,ds',y,v,i,rs,rx,rfl,r1,hn,hi,Po.ok q rs (xQ _)⟩
   . exact q.elim
 . exact q.elim
end
section
variable{s:S}{X:Xc}{Q:D->S->Prop}
theorem zmB{n:Nat}{ds:List D}{v:D}{i:Nat}(h:s[n]?=some (.lst ds))(hi:zmJ ds v=some i)(q:Q (.int i) s):wE (zbp (.ref n) [v] s) Q X:=by
 unfold zbp;simp only[h,hi,rA];exact uB.mpr q
end
end Fc
namespace Fc
open PySem PySem.Spec PyProof.Rows L2
def zpa(K:pX)(c:Value)(i:Nat)(ts:TS)(Wo:WX)(Dn:Ends):WX:=λcls d σ H=>∃ b,PySem.W.exmOne K cls c=some b /\
 (b=true->∃ C,cls=.ref C/\∀ a,H a=none->ts { nx:=λσ' H'=>Dn.nx (σ'.set i none) H',rt:=Dn.rt,bk:=λ_ _=>False,ct:=λ_ _=>False } (σ.set i (some (.ref a))) (upd H a (ErrO a C d)))/\(b=false->Wo cls d σ H)
section
variable{X:Cx}{x n:Str}{c:Value}{i:Nat}{sts suite:List Stmt}{b0:Stmt}{p1 p2 p6:Pos}{tb:WX->TS}{ts:TS}{Wo:WX}
theorem zoK{pins:List (Addr×Obj)}{σ:L2.St}{H:Hp}{s:Shared}(I:Inv X pins σ H s)(a:Addr):Inv (X.suite a (X.pn++pins)) [] σ H s :=
 ⟨I.ok.suite _ _,I.os,I.bare,I.base,I.loc,I.cell,I.free,I.freeC,λp hp=>I.pin p (by rw[sE]at hp;exact hp),I.hok,I.len⟩
theorem zfU{pins pn':List (Addr×Obj)}{σ:L2.St}{H:Hp}{s:Shared}{a:Addr}(I:Inv (X.suite a (X.pn++pins)) pn' σ H s)(ok:X.Ok):Inv X pins σ H s :=
 ⟨ok,I.os,I.bare,I.base,I.loc,I.cell,I.free,I.freeC,λp hp=>I.pin p (rH _ hp),I.hok,I.len⟩
theorem zlW(hx0:X.ex=[])(hs:X.stack=X.env::X.outer)(hf:X.env.frame=some X.env.locals)(hN:X.N.Nodup)(hi:X.N[i]?=some n)(hln:X.env.kindOf n=some .local)(hc:Names X x c)(tk:Takes X Wo)
   (hb:∀(W:WX) (pn:List (Addr×Obj)) (xe:Value->Shared->Prop),Takes (X.tr pn xe) W->PassesOwn (model X.prog X.w) X.A X.env xe->PSs (X.tr pn xe) sts (tb W))
   (hsu:∀(a:Addr) (pn:List (Addr×Obj)),PSs (X.suite a pn) (b0::suite) ts) :
   PS X (.Try sts [.ExceptHandler (some (.Name x p1)) (some n) (b0::suite) p2] [] [] p6) (λDn σ H=>tb (zpa X.K c i ts Wo Dn) Dn σ H):=by
 refine⟨λpins s σ H Dn I h=>?_⟩;have ok:=I.ok
 have frs0:X.A.frames=some (X.env::X.outer):=by rw[ok.frames,hs]
 refine wpAny_Try_except ?_
 have body:=(hb (zpa X.K c i ts Wo Dn) (X.pn++pins) (λe z1=>wpAny (model X.prog X.w) X.A (noteFrame e X.env) (λ_ z2=>wpAny (model X.prog X.w) X.A (setFlight e none) (λ_ z3 =>
   wpAny (model X.prog X.w) X.A (handleBy e X.env [.ExceptHandler (some (.Name x p1)) (some n) (b0::suite) p2]) (SP X pins Dn) X.xe z3) X.xe z2) X.xe z1) (λu s1 xx=>?_) PassesOwn.looking).run [] s σ H Dn (I.toTry _) h
 . refine wpAny_mono body (λfl s1 hsp=>?_) (λ_ _ z=>z);have z:=tail_ok ok hsp
   cases fl with
   | next=>exact wpAny_execs_nil z
   | brk=>exact z
   | cont=>exact z
   | ret u=>exact z
 . obtain⟨a,B,sI,pins1,σ1,H1,cls,d,rfl,J0,nb,up,sky,na,os,ag,b,hb1,hyes,hno⟩:=xx;have J:Inv X pins σ1 H1 sI:=J0.ofTry ok
   have sky1:Sky B (X.env::X.outer) a (Zc cls d) X.env.locals s1.heap:=by rw[← hs];exact sky
   show wpAny _ _ (noteFrame _ _) _ _ _;refine Sky.land Zc.steady frs0 hf sky1 λhpB wB upB=>?_;have JB:Inv X pins σ1 H1 { s1 with heap:=hpB }:=J.landed nb wB.1 (up.trans upB) os ag;obtain⟨oB,fsB,obB,zcB,dtB⟩:=wB.there
   have nofr:a∉frs (X.env::X.outer):=λhm=>by
    obtain⟨_,o1,e1,hnf⟩:=wB.2.2.1.mem hm;rw[obB]at e1;cases e1;exact hnf _ dtB
   have nL:a≠X.env.locals:=λz=>nofr (qw.mpr ⟨X.env,qR,by rw[hf,z]⟩)
   have nfs:a∉X.fs:=λhm=>by
    obtain⟨e,he,q⟩:=qw.mp hm;exact nofr (qw.mpr ⟨e,tQ _ he,q⟩)
   have SB:=JB.suite obB dtB na nL nfs
   refine wpAny_handleBy_cons (codeAny_handlers_test ?_)
    (λz=>by cases z)
   have lkT:PySem.W.Looks (model X.prog X.w) hpB (typeOf (.ref a)) cls:=λA Q E s k q=>wpAny_typeOf_ref (k _ _ obB) (by rw[zcB.1];exact q);have lkM:=PySem.W.exm_one (M:=model X.prog X.w) (JB.kIn) lkT hb1
   have test:∀{Q E:Value->Shared->Prop},Q c { s1 with heap:=hpB }->wpAny (model X.prog X.w) (X.A.mark (some (.ref a))) (eval (.Name x p1) X.env) Q E { s1 with heap:=hpB }:=λ{Q E} q=>by
    obtain⟨hg,hdb1,hm | ⟨hm,hv,hnm⟩⟩:=hc
    . exact ld_glob (X:=X.suite a ((a,oB)::(X.pn++pins))) SB hg hm q hdb1
    . exact ld_blt (X:=X.suite a ((a,oB)::(X.pn++pins))) SB hg hm hv q hnm hdb1
   refine test (lkM.here ?_)
   cases b with
   | true =>
    obtain⟨C,rfl,hq⟩:=hyes rfl;refine codeAny_handlers_suite_as ?_;refine HandSPX.lands_againZ wB λhpD wD upD=>?_;have JD:Inv X pins σ1 H1 { s1 with heap:=hpD }:=J.landed nb wD.1 ((up.trans upB).trans upD) os ag;obtain⟨oD,fsD,obD,zcD,dtD⟩:=wD.there
    have i0:sI.heap.get? a=none:=by
      cases z:sI.heap.get? a with
      | none=>rfl
      | some o1 =>
       have z1:=nb a o1 z (by rw[hs];exact nofr);rw[wB.2.1]at z1;cases z1
    have g0:X.s_0.heap.get? a=none:=by
      cases z:X.s_0.heap.get? a with
      | none=>rfl
      | some o1 =>
       obtain⟨o2,z1⟩:=J.base.there a o1 z (by rw[hx0];simp);rw[i0]at z1;cases z1
    have T:=adopt (o:=ErrO a C d) JD g0 obD dtD na nL (λq hq z=>by
      have z1:=(J.pin q hq).1;rw[z,i0]at z1
      cases z1) (zlk obD zcD dtD)
    have SD:=zoK T a;refine store_ok (X:=X.suite a (X.pn++pins)) (v:=.ref a) SD hN hi (.inl hln) rfl (λs5 S5=>?_) (.inr hln);refine wpAny_mono ((hsu a (X.pn++pins)).run [] s5 _ _ _ S5 (hq a na)) (λfl s6 hsp=>?_) (λ_ _ z=>False.elim z)
    cases fl with
    | next =>
      obtain⟨σ6,H6,S6,q6⟩:=hsp
      exact gone_ok (zfU S6 ok) hN hi hln λs7 J7=>⟨_,_,J7,q6⟩
    | brk =>
      obtain⟨_,_,_,z⟩:=hsp;exact False.elim z
    | cont =>
      obtain⟨_,_,_,z⟩:=hsp;exact False.elim z
    | ret u =>
      obtain⟨v6,σ6,H6,S6,r6,q6⟩:=hsp
      exact gone_ok (zfU S6 ok) hN hi hln λs7 J7=>⟨_,_,_,J7,r6,q6⟩
   | false =>
    show wpAny _ X.A (handleBy (.ref a) X.env []) _ _ _;refine wpAny_handleBy_nil ?_;obtain⟨k1,k2,k3,oe,vs,T,oTr,ts',he,hz,hd,h1,hr⟩:=id wB;unfold PySem.passOn;refine wpAny_bind (wpAny_field he hd h1 ?_)
    have tn:¬ ((Value.ref T == Value.none)=true):=by simp
    rw[if_neg tn]
    have last:wpAny (model X.prog X.w) X.A (setFlight (.ref a) X.env.frame) (λ_ s4=>wpAny (model X.prog X.w) X.A (throw (.ref a):Sem Flow) (SP X pins Dn) X.xe s4) X.xe { s1 with heap:=hpB }:=by
      rw[hf];refine HandSPX.setFlight_upZ wB λhpD wE2 upD=>wpAny_throw (tk _ _ ?_);exact⟨a,B,sI,pins,σ1,H1,cls,d,rfl,J,nb,(up.trans upB).trans upD,.inr (.inr (by rw[hs];exact wE2)),na,os,ag,hno rfl⟩
    first
      | exact wpAny_bind (wpAny_pure (wpAny_bind last))
      | exact wpAny_bind last
def zdQ(sub:List Str)(i:Nat)(b u:C):C:=λσ s=>match b σ s with
 | some (.xc c fs σ1 s1)=>if sub.contains c then match u (σ1.set i (some (.ref s1.length))) (s1++[.err c fs])with
   | some (.nx σ2 s2)=>some (.nx (σ2.set i none) s2)
   | some (.rt d s2)=>some (.rt d s2)
   | _=>none
  else some (.xc c fs σ1 s1)
 | r=>r
variable{cm:CM}{W:WX}{fb fu:C}{sub:List Str}
theorem znV(T:CatAt X.K cm X.mg x sub)(hx0:X.ex=[])(hs:X.stack=X.env::X.outer)(hf:X.env.frame=some X.env.locals)(hN:X.N.Nodup)(tk:Takes X W)
  (hb:∀(W:WX) (pn:List (Addr×Obj)) (xe:Value->Shared->Prop),Takes (X.tr pn xe) W->PassesOwn (model X.prog X.w) X.A X.env xe->JSs (X.tr pn xe) cm W sts fb)
  (hsu:∀(a:Addr) (pn:List (Addr×Obj)),JSs (X.suite a pn) cm Wf (b0::suite) fu)
  (hi:X.N[i]?=some n:=by rfl) (hln:X.env.kindOf n=some .local:=by rfl)
  (hg:Gl X x:=by rfl) (hdx:(x == ("__debug__":Str))=false:=by decide) :
  JS X cm W (.Try sts [.ExceptHandler (some (.Name x p1)) (some n) (b0::suite) p2] [] [] p6) (zdQ sub i fb fu):=by
 obtain⟨A,hA,hA2⟩:=T.ex;refine(zlW (i:=i) (c:=.ref A) (tb:=λW=>tS X.K cm W fb) (ts:=tS X.K cm Wf fu) hx0 hs hf hN hi hln ⟨hg,hdx,.inl hA⟩ tk hb (λa pn=>hsu a pn)).imp ?_;rintro Dn σ H ⟨p,e,s,re,rs,q⟩;refine⟨p,e,s,re,rs,?_⟩;unfold zdQ at q
 cases hr:fb e s with
 | none=>rw[hr]at q;exact q.elim
 | some r =>
  rw[hr]at q
  cases r with
  | nx e1 s1=>exact q
  | rt d s1=>exact q
  | bk e1 s1=>exact q
  | ct e1 s1=>exact q
  | xc c fs e1 s1 =>
   intro p' H' σ' cls dd f rs' re' rx;obtain⟨C,hC,rfl,rk⟩:=id rx;refine⟨sub.contains c,hA2 c C hC,λhb1=>?_,λhb1=>?_⟩
   . dsimp only at q;rw[if_pos hb1]at q;refine⟨C,rfl,λa ha=>?_⟩;have f2:Fut p' H' (p'++[a]) (upd H' a (ErrO a C dd)):=Fut.new ha
     have ro:RO X.K cm (p'++[a]) (upd H' a (ErrO a C dd)) a (.err c fs):=⟨C,dd,hC,upd_same,rk.mono f2⟩
     obtain⟨rs2,e2⟩:=rs'.zrs (u:=ErrO a C dd) (o:=.err c fs) ha ro;have rv:RV X.K (p'++[a]) (upd H' a (ErrO a C dd)) (.ref s1.length) (.ref a):=vh e2;refine⟨_,_,_,(re'.mono f2).set i rv,rs2,?_⟩
     cases hu:fu (e1.set i (some (.ref s1.length))) (s1++[.err c fs])with
     | none=>rw[hu]at q;exact q.elim
     | some r2 =>
      rw[hu]at q
      cases r2 with
      | nx e2 s2 =>
       intro p2 H2 σ2 g2 rs3 re3;exact q p2 H2 _ ((f.trans f2).trans g2) rs3 (re3.unset i)
      | rt d s2=>exact PoS.fut (r:=some (.rt d s2)) q (f.trans f2)
      | bk e2 s2=>exact q.elim
      | ct e2 s2=>exact q.elim
      | xc c2 fs2 e2 s2=>exact q.elim
   . dsimp only at q
     have hb2:¬ (sub.contains c=true):=by rw[hb1];simp
     rw[if_neg hb2]at q;exact q p' H' σ' (.ref C) dd f rs' re' rx
end
end Fc
namespace Fc
open PySem L2
def zim(a:Str)(k:Nat):Str:=⟨(List.replicate k a.cps).foldl (·++·) #[]⟩
theorem zfC:∀(k:Nat) (a acc:Array Nat),(List.foldl (λx1 x2=>x1++x2) acc (List.replicate k a)).size=acc.size+k*a.size
 | 0,a,acc=>by simp
 | k+1,a,acc=>by
  rw[qF,rP,zfC k a (acc++a),Array.size_append,qK];omega
end Fc
namespace Fc
open PySem PySem.Spec PyProof.Rows L2
variable{W:WX}
def zgx:List D->Option (List Str)
 | []=>some []
 | .str x::r=>(zgx r).map (x::·)
 | _::_=>none
theorem zfJ{K:pX}{p:List Addr}{H:Hp}:∀{ds:List D}{xs:List Str}{vs:List V},zgx ds=some xs->RVs K p H ds vs->vs=xs.map V.str
 | [],xs,vs,h,r=>by
  cases h;simpa[RVs]using r
 | d::ds,xs,vs,h,r=>by
  simp only[RVs]at r;obtain⟨v,r',rfl,r1,r2⟩:=r;unfold zgx at h;split at h
  . rename_i e;cases e
  . rename_i x r0 e;cases e;obtain⟨ys,h1,rfl⟩:=tY.mp h;simp only[RV]at r1;rw[r1,zfJ h1 r2];rfl
  . cases h
theorem zdH:∀ xs:List Str,zgx (xs.map D.str)=some xs
 | []=>rfl
 | x::xs=>by rw[tM,zgx,zdH xs];rfl
end Fc
namespace ST
open PySem PySem.Spec
open PyProof.Rows hiding strKind KeyKind
section
variable{prog:Program}{w:World}{A:Around}{E:Value->Shared->Prop}{s:Shared}{a b:Addr}{S T:Str->Bool}{n m:Nat}
theorem zdl:entryFor table "set.__eq__"=some Builtin.«frozenset.__eq__»:=entryFor_alias (id':="frozenset.__eq__") (by kernel_rfl) rfl (by decide +kernel) (by kernel_rfl)
theorem sub_set_frozenset:isSubtype (.type "set") (.type "frozenset")=pure false:=by rw[isSubtype_type];kernel_rfl
theorem sub_set_set:isSubtype (.type "set") (.type "set")=pure true:=by rw[isSubtype_type];kernel_rfl
theorem zch(h:s.heap.SetOf (PySem.strKind prog w) a S n):s.TypeIs (.ref a) "set":=by
 obtain⟨o,es,ep,t,ho,hx,_⟩:=h;exact⟨o,ho,hx.1⟩
theorem je(h:s.heap.SetOf (PySem.strKind prog w) a S n){Q:Nat->Shared->Prop}(hQ:Q n s):wpAny (model prog w) A (Builtin.Frozenset.sizeOf a) Q E s:=by
 obtain⟨o,es,ep,t,ho,_,hd,_,_,_,hf,hn⟩:=h;unfold Builtin.Frozenset.sizeOf setEntries;refine wpAny_bind (wpAny_bind (wpAny_setState_of ho hd hf (wpAny_pure ?_)));refine wpAny_pure ?_;show Q es.size s;rw[hn];exact hQ
theorem zig{x:Value}{k:Str}(hk:(PySem.strKind prog w).is k x=true){Q:Bool->Shared->Prop}(hQ:Q true s):wpAny (model prog w) A (Builtin.Frozenset.quietEq x) Q E s:=by
 obtain⟨t,rfl⟩:=Value.isStrOf_shape (show Value.isStrOf k x=true from hk);exact wpAny_pure hQ
theorem zeP(hS:s.heap.SetOf (PySem.strKind prog w) a S n)(hT:s.heap.SetOf (PySem.strKind prog w) b T m){Q:List (Int×Value)->Shared->Prop}
   (hQ:∀ es:Array (Int×Value),ElemsOf (PySem.strKind prog w) es.toList->(∀ k,S k=true↔∃ e∈es.toList,(PySem.strKind prog w).is k e.2=true)->Q es.toList s):wpAny (model prog w) A (Builtin.Frozenset.walkUnseen a b) Q E s:=by
 obtain⟨o,es,ep,t,ho,_,hd,hel,hmem,_,hf,_⟩:=hS;obtain⟨o2,es2,ep2,t2,ho2,_,hd2,hel2,_,_,hf2,_⟩:=hT;unfold Builtin.Frozenset.walkUnseen setEntries;refine wpAny_bind (wpAny_bind (wpAny_setState_of ho hd hf (wpAny_pure ?_)));dsimp only;refine wpAny_bind (wpAny_bind (wpAny_setState_of ho2 hd2 hf2 (wpAny_pure ?_)));dsimp only;refine wpAny_bind (wpAny_forIn_list _ (λrest q s'=>s'=s/\q=(none,())/\∀ e∈rest,∃ k,(PySem.strKind prog w).is k e.2=true) _ ?_ ?_ _ _ ⟨rfl,rfl,λe he=>?_⟩)
 . rintro⟨h,x⟩ rest q s' ⟨rfl,rfl,hr⟩;obtain⟨k,hk⟩:=hr (h,x) (tH);refine wpAny_bind (zig hk ?_);simp only[Bool.not_true,rM,if_false];exact wpAny_pure ⟨rfl,rfl,λe he=>hr e (tQ _ he)⟩
 . rintro q s' ⟨rfl,rfl,_⟩;exact wpAny_pure (hQ es hel hmem)
 . rcases tZ.mp he with he | he
   . obtain⟨⟨k,hk,_⟩,_⟩:=hel e he;exact⟨k,hk⟩
   . obtain⟨⟨k,hk,_⟩,_⟩:=hel2 e he;exact⟨k,hk⟩
theorem ziA{id:String}(hS:s.heap.SetOf (PySem.strKind prog w) a S n)(hT:s.heap.SetOf (PySem.strKind prog w) b T m){r:Bool}(hr:r=true↔n<=m/\∀ k,S k=true->T k=true){Q:Bool->Shared->Prop}(hQ:Q r s):wpAny (model prog w) A (Builtin.Frozenset.subsetOf id a b) Q E s:=by
 unfold Builtin.Frozenset.subsetOf;refine wpAny_bind (je hS (wpAny_bind (je hT ?_)));by_cases hn:n > m
 . rw[if_pos hn]
   have:r=false:=by
     cases r with
     | false=>rfl
     | true=>have:=(hr.mp rfl).1;omega
   subst this;exact wpAny_pure hQ
 . rw[if_neg hn];have hS0:=hS;obtain⟨o,es0,ep0,t,ho,hx,hd,hel,hmem,hb,hf,hnn⟩:=hS0;refine wpAny_bind (wpAny_setEpoch_of ho hd hf ?_);refine wpAny_bind (zeP hS hT λes hel hmem=>?_);dsimp only;refine wpAny_bind (wpAny_forIn_list _ (λrest q s'=>s'=s/\q=(none,())/\(∀ e∈rest,∃ k,(PySem.strKind prog w).is k e.2=true/\e.1=(PySem.strKind prog w).hash k/\e.2.scannable=true/\S k=true)/\(r=true↔∀ e∈rest,∀ k,(PySem.strKind prog w).is k e.2=true->T k=true)) _ ?_ ?_ _ _ ⟨rfl,rfl,λe he=>?_,?_⟩)
   . rintro⟨h,x⟩ rest q s' ⟨rfl,rfl,h1,h2⟩;obtain⟨k,hk,hh,hsc,_⟩:=h1 (h,x) (tH);have hh:h=(PySem.strKind prog w).hash k:=hh;have hk:(PySem.strKind prog w).is k x=true:=hk;have hsc:x.scannable=true:=hsc;subst hh;dsimp only;refine wpAny_bind ?_;refine wpAny_holding ?_;refine wpAny_setFind_of (a:=b) (x:=x) (k:=k) (knd:=PySem.strKind prog w) hk hsc hT (λr0 hr0=>?_)
     cases hT0:T k with
     | false =>
       rw[hT0]at hr0
       have:r0=none:=by cases r0 <;> simp_all
       subst this
       have:r=false:=by
         cases r with
         | false=>rfl
         | true =>
          have:=h2.mp rfl _ (tH) k hk;rw[hT0]at this;cases this
       subst this;simp only[Option.isNone_none,if_true];refine wpAny_pure ?_;exact wpAny_pure hQ
     | true =>
       rw[hT0]at hr0
       obtain⟨z,rfl⟩:∃ z,r0=some z:=by cases r0 <;> simp_all
       simp only[Option.isNone_some,rM,if_false];unfold Builtin.Frozenset.unchanged;refine wpAny_bind (wpAny_bind (wpAny_setEpoch_of ho hd hf ?_));simp only[bne_self_eq_false,rM,if_false];refine wpAny_pure (wpAny_pure ⟨rfl,rfl,λe he=>h1 e (tQ _ he),h2.trans ⟨λz e he=>z e (tQ _ he),λz e he k' hk'=>?_⟩⟩)
       rcases tU.mp he with rfl | he
       . have:=(PySem.strKind prog w).inj _ _ _ hk hk';rw[← this];exact hT0
       . exact z e he k' hk'
   . rintro q s' ⟨rfl,rfl,_,h2⟩
     have:r=true:=h2.mpr λe he=>by cases he
     subst this;exact wpAny_pure hQ
   . obtain⟨⟨k,hk,hh⟩,hsc⟩:=hel e he;exact⟨k,hk,hh,hsc,(hmem k).mpr ⟨e,he,hk⟩⟩
   . rw[hr];constructor
     . rintro⟨_,z⟩ e he k hk;exact z k ((hmem k).mpr ⟨e,he,hk⟩)
     . intro z;refine⟨by omega,λk hk=>?_⟩;obtain⟨e,he,hk2⟩:=(hmem k).mp hk;exact z e he k hk2
theorem znf{r:Bool}{Q:Value->Shared->Prop}(hS:s.heap.SetOf (PySem.strKind prog w) a S n)(hT:s.heap.SetOf (PySem.strKind prog w) b T m)(hu:A.units<cLine)(hr:r=true↔n=m/\∀ k,S k=true->T k=true)(h:Q (.bool r) s) :
   wpAny (model prog w) A (compareOp .Eq (.ref a) (.ref b)) Q E s:=by
 have ta:=zch hS;have tb:=zch hT;refine wpAny_richCompare_same_room (op:=.Eq) ta tb PySem.F.slot_set_eq (wpAny_call_entry PySem.F.slot_set_eq ta zdl ?_ (PySem.F.args_set_eq_2 _ _)) hu;show wpAny _ _ (Builtin.Frozenset.slot1 "__eq__" ⟨[.ref a,.ref b],[]⟩ >>= _) _ _ s;refine wpAny_bind (wpAny_pure ?_);dsimp only
 have any:∀{x:Addr}{Q:Bool->Shared->Prop}{A:Around},s.TypeIs (.ref x) "set"->Q true s->wpAny (model prog w) A (Builtin.Frozenset.isAnySet (.ref x)) Q E s:=λ{x Q A} tx q=>by
   unfold Builtin.Frozenset.isAnySet;refine wpAny_bind (wpAny_isInstance (T:="set") tx sub_set_set ?_);exact wpAny_pure q
 refine wpAny_bind (any tb ?_);simp only[Bool.not_true,rM,if_false];refine wpAny_bind (wpAny_pure (wpAny_bind (wpAny_pure ?_)));refine wpAny_bind (je hS (wpAny_bind (je hT ?_)));by_cases hn:n=m
 . rw[if_neg (by simp[hn])];refine wpAny_bind (wpAny_bind (wpAny_bind (wpAny_isInstance (T:="set") ta sub_set_frozenset ?_)));refine wpAny_pure ?_;simp only[rM,if_false];refine ziA hS hT (r:=r) (hr.trans ⟨λz=>⟨by omega,z.2⟩,λz=>⟨hn,z.2⟩⟩) ?_;exact wpAny_pure ⟨_,rfl,(λz=>by cases z),h⟩
 . rw[if_pos (by simpa using hn)]
   have:r=false:=by
    cases r with
    | false=>rfl
    | true=>exact absurd (hr.mp rfl).1 hn
   subst this;exact wpAny_bind (wpAny_pure (wpAny_pure ⟨_,rfl,(λz=>by cases z),h⟩))
end
end ST
namespace L2
open PySem PySem.Spec
open PyProof.Rows hiding strKind KeyKind
section
variable{X:Cx}{i j j1 j2:Nat}{x y:Str}{z u:Str}{p1 p2 p3 p4 q1 q2:Pos}
def zkN(i j:Nat)(z u:Str):TE:=λσ H Q=>∃ a b:Str,σ[i]?=some (some (.str a))/\σ[j]?=some (some (.str b))/\z≠u/\Q (.bl (decide (a=z/\b=u\/a=u/\b=z))) H
theorem zpF{P:Program}{w:World}{A:Around}{E:Value->Shared->Prop}{h₀:Heap}{s:Shared}{D:Addr}{a b:Str}{t1 t2:Tok}{h:Heap}{k:Nat}{Q:Value->Shared->Prop}(hS:h.SetOf (PySem.strKind P w) D (λ_=>false) 0)
   (hk:∀ b o,b≠D->h₀.get? b=some o->h.get? b=some o) (q:∀ h' k',h'.SetOf (PySem.strKind P w) D (λx=>decide (x∈[a,b])) (if a=b then 1 else 2)->(∀ b o,b≠D->h₀.get? b=some o->h'.get? b=some o)->Q (.ref D) { s with heap:=h',toks:=k' }) :
   PySem.W.KdsFill (model P w) A E false D Q [.str a t1,.str b t2] { s with heap:=h,toks:=k }:=by
 refine PySem.W.kds_fill_cons ?_;unfold setAdd;refine wpAny_holding (wpAny_bind ((PySem.strKind P w).pyHash (k:=a) (strKind_is _ _ _ _) ?_));refine wpAny_setAddHashed_of (knd:=PySem.strKind P w) (s:={ s with heap:=h,toks:=k+1 }) (strKind_is _ _ _ _) rfl hS (by unfold scanBound;omega) λh1 sb1 hS1=>?_;refine PySem.W.kds_fill_cons ?_;unfold setAdd;refine wpAny_holding (wpAny_bind ((PySem.strKind P w).pyHash (k:=b) (strKind_is _ _ _ _) ?_));refine wpAny_setAddHashed_of (knd:=PySem.strKind P w) (s:={ s with heap:=h1,toks:=k+1+1 }) (strKind_is _ _ _ _) rfl hS1 (by unfold scanBound;split <;> omega) λh2 sb2 hS2=>?_;refine PySem.W.kds_fill_nil rfl (q h2 _ (SetOf_congr hS2 (λx=>?_) ?_) λc o hc e=>(sb2.2 c hc).trans ((sb1.2 c hc).trans (hk c o hc e)))
 . simp
 . by_cases e:a=b
   . simp[e]
   . simp[e,sH e]
theorem zft{pins:List (Addr×Obj)}{σ:L2.St}{H:Hp}{s:Shared}{v:V}{pos:Pos}{Q:Value->Shared->Prop}{E:Value->Shared->Prop}(hN:X.N[i]?=some x)(hv:Vis X.env.scope x)(I:Inv X pins σ H s)(e:σ[i]?=some (some v))(q:∀ u,RelV v u->Q u s)
   (hd:(x == ("__debug__":Str))=false:=by decide) (hcd:(x == ("__classdict__":Str))=false:=by decide):wpAny (model X.prog X.w) X.A (eval (.Name x pos) X.env) Q E s:=by
 obtain⟨m,hn,hl⟩:=I.loc;obtain⟨u,r,l⟩:=hl i x v hN e hv
 rcases l with ⟨hk,hm⟩ | ⟨hk,c,hc,hcell⟩
 . exact wpAny_Name (wpAny_loadName_local I.ok.kind hk hn hm (q u r)) hd
 . rcases hk with hk | hk
   . exact wpAny_Name (wpAny_loadName_cell I.ok.kind hk hc hcell (q u r)) hd
   . exact wpAny_Name (wpAny_loadName_free I.ok.kind hk hc hcell (q u r) hcd) hd
theorem znc{es:List Expr}{A:Around}{E:Value->Shared->Prop}{s:Shared}{pos:Pos}{Q:Value->Shared->Prop}{K:pX}(KI:K.In s.heap)(hcd:PySem.W.kdsCode K X.env.code=true)(hp:es.all PySem.W.kdsPlain=true)(hl:es.length=2){a b:Str}
   (hes:∀(s':Shared) (Q':List Value->Shared->Prop),(∀ c o,s.heap.get? c=some o->s'.heap.get? c=some o)->s'={ s with heap:=s'.heap }->(∀ t1 t2 k,Q' [.str a t1,.str b t2] { s' with toks:=k })->PySem.W.KdsAll (model X.prog X.w) A E X.env es Q' s')
   (hQ:∀ h' k',h'.SetOf (PySem.strKind X.prog X.w) s.heap.objs.size (λx=>decide (x∈[a,b])) (if a=b then 1 else 2)->(∀ c o,c≠s.heap.objs.size->s.heap.get? c=some o->h'.get? c=some o)->Q (.ref s.heap.objs.size) { s with heap:=h',toks:=k' }) :
   wpAny (model X.prog X.w) A (eval (.Set es 0 pos) X.env) Q E s:=by
 rw[arm_eval_Set];refine wpAny_bind (wpAny_standAt ?_);refine wpAny_bind (PySem.W.kds_main KI hcd λbb=>?_);rw[PySem.W.kds_star es hp,tW];refine PySem.W.kds_core (ts:=(evalEach es X.env).map λt=>do let v ← t;standAt pos;pure v) (road0 es) ?_ ?_ ?_ λled=>?_
 . refine List.findIdx?_eq_none_iff.mpr λx hx=>?_;obtain⟨t,_,rfl⟩:=tK.mp hx;rfl
 . rw[tR,PySem.W.kds_len,hl];decide
 . rw[tW]
   try rfl
 . have hr:(displayRoad 0 es == DisplayRoad.unsure)=false:=by
    unfold displayRoad;rw[if_neg (qX 0),if_pos (by omega)];rfl
   rw[hr];refine PySem.W.kds_all pos es _ _ (hes _ _ (λc o e=>Heap.get?_push_of_some _ e) rfl λt1 t2 k=>?_);exact zpF (s:=s) (h₀:=s.heap) ((setObjOf_fresh (knd:=PySem.strKind X.prog X.w) led).setOf (Heap.get?_push_size _ rfl) (by decide)) (λb o _ e=>Heap.get?_push_of_some _ e) hQ
theorem zjx(hN:X.N[i]?=some x)(hv:Vis X.env.scope x)(hM:X.N[j]?=some y)(hv2:Vis X.env.scope y)(hcd:PySem.W.kdsCode X.K X.env.code=true)(hu:X.A.units<cLine)
   (hd:(x == ("__debug__":Str))=false:=by decide) (hcd1:(x == ("__classdict__":Str))=false:=by decide) (hd2:(y == ("__debug__":Str))=false:=by decide) (hcd2:(y == ("__classdict__":Str))=false:=by decide) :
   PC X .Eq (.Set [.Name x p1,.Name y p2] 0 q1) (.Set [.Constant (.str z) j1 p3,.Constant (.str u) j2 p4] 0 q2) (zkN i j z u):=by
 refine⟨λpins s σ H Q I h=>?_⟩;obtain⟨a,b,e1,e2,ne,hq⟩:=h;refine znc (a:=a) (b:=b) I.kIn hcd rfl rfl (λs' Q' k1 es' q=>?_) λh1 k1 hS1 hk1=>?_
 . have I':Inv X pins σ H s':=by
     rw[es'];exact I.kept (t':=s.toks) k1
   refine zft hN hv I' e1 (λu1 r1=>?_) hd hcd1;refine zft hM hv2 I' e2 (λu2 r2=>?_) hd2 hcd2;obtain⟨t1,rfl⟩:=r1;obtain⟨t2,rfl⟩:=r2;exact q t1 t2 s'.toks
 . have I1:Inv X pins σ H { s with heap:=h1,toks:=k1 }:=I.kept λc o e=>hk1 c o (λz=>qX _ (z ▸ Heap.lt_size e)) e;refine znc (a:=z) (b:=u) (s:={ s with heap:=h1,toks:=k1 }) I1.kIn hcd rfl rfl (λs' Q' k2 es' q=>?_) λh2 k2 hS2 hk2=>?_
   . exact Calls.Constant_str (Calls.Constant_str (q _ _ _))
   . have lt:s.heap.objs.size<h1.objs.size:=by
       obtain⟨o,_,_,_,ho,_⟩:=hS1;exact Heap.lt_size ho
     have hS1':h2.SetOf (PySem.strKind X.prog X.w) s.heap.objs.size (λx=>decide (x∈[a,b])) (if a=b then 1 else 2):=by
       obtain⟨o,es,ep,t,ho,rest⟩:=hS1;exact⟨o,es,ep,t,hk2 _ o (rO lt) ho,rest⟩
     have I2:Inv X pins σ H { s with heap:=h2,toks:=k2 }:=I.kept λc o e=>hk2 c o (rO (Nat.lt_trans (Heap.lt_size e) lt)) (hk1 c o (λz=>qX _ (z ▸ Heap.lt_size e)) e);refine ST.znf (r:=decide (a=z/\b=u\/a=u/\b=z)) hS1' hS2 hu ?_ ⟨.bl _,H,I2,rfl,hq⟩;rw[decide_eq_true_iff,if_neg ne];constructor
     . rintro(⟨rfl,rfl⟩ | ⟨rfl,rfl⟩)
       . exact⟨if_neg ne,λk h=>h⟩
       . refine⟨if_neg (sH ne),λk h=>?_⟩;simp only[tU,su,or_false,decide_eq_true_eq]at h ⊢;exact h.symm
     . rintro⟨h1,h2⟩
       have ab:a≠b:=λe=>by rw[if_pos e]at h1;cases h1
       have ha:=h2 a (by simp);have hb:=h2 b (by simp);simp only[tU,su,or_false,decide_eq_true_eq]at ha hb
       rcases ha with rfl | rfl
       . rcases hb with rfl | rfl
         . exact absurd rfl ab
         . exact .inl ⟨rfl,rfl⟩
       . rcases hb with rfl | rfl
         . exact .inr ⟨rfl,rfl⟩
         . exact absurd rfl ab
end
end L2
namespace Fc
open PySem PySem.Spec L2
open PyProof.Rows hiding strKind KeyKind
variable{cm:CM}{W:WX}
def zaW(i j:Nat)(z u:Str):E:=λσ s=>match σ[i]?,σ[j]? with
 | some (some (.str a)),some (some (.str b))=>if z≠u then some (.ok (.bl (decide (a=z/\b=u\/a=u/\b=z))) s)else none
 | _,_=>none
theorem zjI{X:Cx}{i j:Nat}{z u:Str}{σ:L2.St}{H:Hp}{Q:VK}(q:tD X.K cm W (zaW i j z u) σ H Q):zkN i j z u σ H Q:=by
 obtain⟨p,e,s,re,rs,q⟩:=q;unfold zaW at q;split at q
 . rename_i a b h1 h2;split at q
   . rename_i ne;obtain⟨v,e1,r1⟩:=re.2 i _ h1;obtain⟨v2,e2,r2⟩:=re.2 j _ h2;simp only[RV]at r1 r2;subst r1;subst r2;exact⟨a,b,e1,e2,ne,Po.ok q rs (jO _)⟩
   . exact q.elim
 . exact q.elim
section
variable{X:Cx}{i j j1 j2:Nat}{x y:Str}{z u:Str}{p1 p2 p3 p4 q1 q2 pos:Pos}{k:Nat}
theorem zjE(i j:Nat)(hcd:PySem.W.kdsCode X.K X.env.code=true)(hr:Room k X.A)(hN:X.N[i]?=some x:=by rfl)(hM:X.N[j]?=some y:=by rfl)(hv:Vis X.env.scope x:=by first | exact Or.inl rfl | exact Or.inr (Or.inl rfl) | exact Or.inr (Or.inr rfl))(hv2:Vis X.env.scope y:=by first | exact Or.inl rfl | exact Or.inr (Or.inl rfl) | exact Or.inr (Or.inr rfl))
  (hd:(x == ("__debug__":Str))=false:=by decide) (hcd1:(x == ("__classdict__":Str))=false:=by decide) (hd2:(y == ("__debug__":Str))=false:=by decide) (hcd2:(y == ("__classdict__":Str))=false:=by decide) :
  JT X cm W (.Compare (.Set [.Name x p1,.Name y p2] 0 q1) [.Eq] [.Set [.Constant (.str z) j1 p3,.Constant (.str u) j2 p4] 0 q2] pos) (tB (zaW i j z u)) :=
 (pt_cmp (zjx hN hv hM hv2 hcd (by have:=hr.un;omega) hd hcd1 hd2 hcd2)).imp λσ H Q q=>zjI (zfN q)
end
section
variable{K:pX}{P:Program}{w:World}{mg:Str->Option Value}{base:Heap}{k:Nat}{f:Addr}{fd:FuncData}{x qual:Str}{params:Arguments}{body:List Stmt}{scope:Scope}{dvs:List V}{kws:List (Str×V)}{N ps:List Str}{b:C}
theorem FnG.ofC(F:FunD K x qual params body scope dvs kws f fd)(S:FnScope N ps scope)
  (hbody:∀(cdv:Value) (hcd:PySem.W.kdsCode K cdv=true) (A:Around) (outer:List PySem.Env) (s:Shared) (H:Hp) (E:XK),Rg k (xj P w K mg base N qual scope f cdv A outer s H E).A->Takes (xj P w K mg base N qual scope f cdv A outer s H E) (Wx E) ->
   PassesOwn (model P w) (xj P w K mg base N qual scope f cdv A outer s H E).A (xj P w K mg base N qual scope f cdv A outer s H E).env (xj P w K mg base N qual scope f cdv A outer s H E).xe ->
   JSs (xj P w K mg base N qual scope f cdv A outer s H E) cm (Wx E) body b) :
  FnG P w K mg base (k+1) f fd ps (spD K cm ps.length (yt ps.length N.length b)):=by
 have len:∀ vs H Q E,spD K cm ps.length (yt ps.length N.length b) vs H Q E->vs.length=ps.length:=λvs H Q E ⟨p,s,ds,_,r,l,_⟩=>by rw[← r.length,l]
 obtain⟨oc,od,dV,kV,doc,pm,an,cdv,ct,osl,rfl,lk,hcd,_,_⟩:=F.ex;refine⟨len,λA outer s H args us vs Q E hr e0 hb r hsp=>?_⟩;have hl:=len _ _ _ _ hsp;have KX:K.In s.heap:=e0.mod.kin.keeps λb o e=>(e0.bs b o e).1;have lim:s.heap.NoLimit:=e0.mod.nolimit.keeps λb o e=>(e0.bs b o e).1
 have hkind:∀ y∈ps.zip us,scope.names.lookup y.1=some .local\/(scope.names.lookup y.1=some .cell/\((cellsFrom (s.heap.objs.size+1) scope.names []).lookup y.1).isSome=true):=λ⟨n,v⟩ hy =>
  (S.par n (List.of_mem_zip hy).1).elim .inl λq=>.inr ⟨q,PySem.W.cellsFrom_some _ _ _ (.inl q)⟩
 refine codeAny_call_function hr.room.depth (KX _ _ lk) rfl S.co S.gen rfl (PySem.W.codeRec_of KX hcd) (hb _ _ _ _ ?_);refine wpAny_newFunctionEnv_cells S.kind hkind λenv he s1 y=>?_;subst he;refine⟨lim.keeps y.toInCall.keep,codeAny_func ?_⟩;have ht:=hbody cdv (kdsCode_of hcd) A outer s H E (hr.deeper _) (takes_of (X:=xj P w K mg base N qual scope f cdv A outer s H E) rfl rfl rfl rfl) (passes_of (X:=xj P w K mg base N qual scope f cdv A outer s H E) rfl);have I:Inv (xj P w K mg base N qual scope f cdv A outer s H E) [] (L2.start N vs) H s1:=inv_start S hr.room.hd e0 hl r y;obtain⟨p,st,ds,rs,rv,hn,q⟩:=hsp
 have hq:tS K cm (Wx E) b { nx:=λ_ H'=>Q .non H',rt:=Q } (L2.start N vs) H:=by
  refine⟨p,_,st,zfA rv,rs,?_⟩;unfold yt at q;rw[if_pos hn,← hn]at q
  cases e:b (ds.map some++List.replicate (N.length - ds.length) none) st with
  | none=>rw[e]at q;exact q.elim
  | some rr =>
   rw[e]at q
   cases rr with
   | nx e' s'=>exact λp' H' σ' f rs' _=>q p' H' .non f rs' zhE
   | rt d s'=>exact q
   | bk _ _=>exact q.elim
   | ct _ _=>exact q.elim
   | xc c fs e' s'=>exact λp' H' σ' cls dd f rs' _ rx=>q p' H' cls dd f rs' rx
 refine wpAny_mono (ht.run [] s1 (L2.start N vs) H _ I hq) (λfl s' hs=>?_) λe s' hs=>hs
 have fin:∀{σ':L2.St}{H':Hp}{v:V}{u:Value},Inv (xj P w K mg base N qual scope f cdv A outer s H E) [] σ' H' s'->RelV v u->Q v H'->CE outer P w H s Q u s' :=
  λ{σ' H' v u} J rv q=>⟨v,H',J.os,J.bare,J.base,J.hok,rv,q⟩
 cases fl with
 | ret u =>
  obtain⟨v,σ',H',J,rv,q⟩:=hs;exact fin J rv q
 | next =>
  obtain⟨σ',H',J,q⟩:=hs;exact fin (v:=V.non) (u:=Value.none) J rfl q
 | brk =>
  obtain⟨_,_,_,q⟩:=hs;exact False.elim q
 | cont =>
  obtain⟨_,_,_,q⟩:=hs;exact False.elim q
end
end Fc
namespace Fc
open PySem PySem.Spec PyProof.Rows L2
variable{cm:CM}{W:WX}
section
variable{X:Cx}{pos:Pos}{a b c:Expr}{fa fb fc:E}
def zic(σ:Env)(x y v:D):S->Option R:=λs=>match x,y with
 | .ref n,.int k=>match s[n]? with
  | some (.lst ds)=>(ixN ds.length k).map λj=>.nx σ (s.set n (.lst (ds.set j v)))
  | _=>none
 | _,_=>none
def zhg(x y:D):M D:=λs=>match x,y with
 | .ref n,.int k=>match s[n]? with
  | some (.lst ds)=>(L2.atI ds k).map λv=>.ok v s
  | _=>none
 | _,_=>none
def zfY(f:D->D->M D)(o i e:E):C:=λσ s=>ex σ (o σ s) λx s1=>ex σ (i σ s1) λy s2=>ex σ (zhg x y s2) λv s3=>ex σ (e σ s3) λz s4=>ex σ (f v z s4) λr s5=>zic σ x y r s5
theorem zjy:PGet X (λo i H Q=>∃ p xs k z,o=.ref p/\i=.int k/\H p=some (.lst xs)/\L2.atI xs k=some z/\Q z H):=by
 intro pins s σ H o i ov iv Q I ro ri h;obtain⟨p,xs,k,z,rfl,rfl,hp,he,q⟩:=h;cases (show ov=Value.ref p from ro);obtain⟨t,rfl⟩:=ri;obtain⟨its,n,r,ho,hz⟩:=I.lst hp
 have pl:s.heap.IsList p its.toArray:=⟨_,ho,rfl,n,rfl⟩
 obtain⟨j,h1,h2,h3,h4,h5⟩:=atI_get he;obtain⟨w,ew,rw'⟩:=r.get h2;have hl:=r.length;have hn:=line63
 have fin:EP X pins σ Q w s:=⟨z,H,I,rw',q⟩
 by_cases h0:0<=k
 . have hj:k.toNat=j:=by
    rw[seqIndex_of h0 h5]at h1;exact Option.some.inj h1
   exact wpAny_getItem_list pl h0 (by omega) (by rw[hj];simpa using ew) fin
 . have hj:(k+(its.toArray.size:Int)).toNat=j:=by
    rw[seqIndex_neg (by omega) h4]at h1;rw[qW,← hl];exact Option.some.inj h1
   exact wpAny_getItem_list_neg pl (by omega) (by rw[qW] <;> omega) (by omega) (by rw[hj];simpa using ew) fin
theorem znQ{tpos:Pos}{op:Operator}{o:D->D->M D}(ho:SI X cm op o)(hb:JE X cm W b fb)(hc:JE X cm W c fc)(ha:JE X cm W a fa)
   (hst:∀ ov iv new,augStore c ov iv new=(do holding [new,ov,iv] (setItem ov iv new);release [new,ov,iv] [];pure .next):=by intros;rfl) :
   JS X cm W (.AugAssign (.Subscript b c tpos) op a pos) (zfY o fb fc fa):=by
 obtain⟨r,h1,h2⟩:=ho;refine(ps_augS hb hc zjy ha h1 set_list hst).imp ?_;rintro Dn σ H ⟨p,e,s,re,rs,q⟩;refine⟨p,e,s,re,rs,(PoS.ex (rel:=RV X.K) q re).imp ?_⟩;rintro ov H1 ⟨d1,p1,s1,f1,rs1,r1,q1⟩;refine⟨p1,e,s1,re.mono f1,rs1,(PoS.ex (rel:=RV X.K) q1 (re.mono f1)).imp ?_⟩;rintro iv H2 ⟨d2,p2,s2,f2,rs2,r2,q2⟩;have re2:=(re.mono f1).mono f2;unfold zhg at q2;split at q2
 . rename_i n k;split at q2
   . rename_i ds h;obtain⟨t,vs,rfl,hp,hH,rr⟩:=yu rs2 (r1.mono f2) h
     cases he:L2.atI ds k with
     | none=>rw[he]at q2;exact q2.elim
     | some d =>
      rw[he]at q2;unfold L2.atI at he;obtain⟨j,hj,hd⟩:=qb.mp he;obtain⟨v,hv,rv⟩:=rr.get hd
      have he2:L2.atI vs k=some v:=by
        unfold L2.atI;rw[← rr.length,hj];exact hv
      refine⟨t,vs,k,v,rfl,yo r2,hH,he2,?_⟩;obtain⟨d3,p3,s3,f3,rs3,r3,q3⟩:=Po.ok (PoS.ex (rel:=RV X.K) q2 re2) rs2 rv;have re3:=re2.mono f3;refine⟨p3,e,s3,re3,rs3,(PoS.ex (rel:=RV X.K) q3 re3).imp ?_⟩;rintro y H4 ⟨d4,p4,s4,f4,rs4,r4,q4⟩;have re4:=re3.mono f4;refine h2 W p4 s4 σ H4 _ y d3 d4 _ rs4 (r3.mono f4) r4 ((PoS.ex (rel:=RV X.K) q4 re4).imp ?_);rintro z H5 ⟨d5,p5,s5,f5,rs5,r5,q5⟩;have re5:=re4.mono f5;have r1':=(((r1.mono f2).mono f3).mono f4).mono f5;have r2':=((r2.mono f3).mono f4).mono f5;unfold zic at q5;dsimp only at q5;split at q5
      . rename_i ds' h';obtain⟨t',vs',e3,hp',hH',rr'⟩:=yu rs5 r1' h';cases e3
        cases hj':ixN ds'.length k with
        | none=>rw[hj']at q5;exact q5.elim
        | some j' =>
         rw[hj']at q5;obtain⟨f,rs'⟩:=rs5.put (o:=.lst (ds'.set j' d5)) (u:=.lst (vs'.set j' z)) hp' hH' trivial ⟨_,rfl,rr'.set j' r5⟩;exact⟨_,vs',k,j',rfl,yo r2',hH',by rw[← rr'.length];exact hj',q5 _ _ σ f rs' (re5.mono f)⟩
      . exact q5.elim
   . exact q2.elim
 . exact q2.elim
end
end Fc
namespace Fc
open PySem PySem.Spec PyProof.Rows L2
variable{cm:CM}{W:WX}
section
variable{X:Cx}
def kJ:List D->M D:=λxs s=>match xs with
 | [.str a]=>if a.length<=640 then (PySem.intText? a).map λn=>.ok (.int n) s else none
 | _=>none
theorem s_intS:SN X cm (.type "int") kJ:=by
 refine⟨_,call_int_str,λW p s σ H xs ds Q rs r q=>?_⟩;unfold kJ at q;split at q
 . rename_i a;obtain⟨x,rfl,r1⟩:=xU r;split at q
   . rename_i hl
     cases hn:PySem.intText? a with
     | none=>rw[hn]at q;exact q.elim
     | some n =>
      rw[hn]at q;exact⟨a,n,by rw[xq r1],hn,hl,Po.ok q rs (xQ _)⟩
   . exact q.elim
 . exact q.elim
end
end Fc
namespace Fc
open PySem PySem.Spec PyProof.Rows L2
section
variable{X:Cx}{cm:CM}{W:WX}{a b:Expr}{fa:E}{fl:EL}
def zej:D->List D->M D:=λx xs s=>match x,xs with
 | .ref n,[.int i]=>if i=0 then zkw n (λo=>match o with
  | .lst (y::ds)=>some (.lst ds,y)
  | _=>none) s else none
 | _,_=>none
theorem zjD{apos cpos:Pos}(ho:JE X cm W a fa)(ha:JA X cm W [b] fl)
   (hbase:attributeBase a "pop" X.env (eval a X.env)=eval a X.env:=by rfl)
   (hfew:((backTo cpos (starEach [b] X.env)).all (λx=>!x.1)&&(backToKw cpos (keywordEach [] X.env)).all (λx=>x.1.isSome)
     && decide (([b]:List Expr).length+([]:List Keyword).length+(if ([]:List Keyword).isEmpty then 0 else 1)<30))=true:=by rfl)
   (hline:(apos.endLine == cpos.line)=true:=by rfl) (hs:starEach [b] X.env=(false,eval b X.env)::starEach [] X.env:=by rfl) (hplain:(backTo cpos (starEach [] X.env)).any (·.1)=false:=by rfl) :
   JE X cm W (.Call (.Attribute a "pop" apos) [b] [] cpos) (eM zej fa fl):=by
 refine r_m PySem.F.slot_list_pop PySem.F.type_list_pop mt_popAt (λW p s σ H x xs d ds Q rs rx rxs q=>?_) ho ha hbase hfew hline hs hplain;unfold zej at q;split at q
 . rename_i n i;split at q
   . rename_i hi;subst hi;obtain⟨o,o',d',h1,h2,q⟩:=zel q;split at h2
     . rename_i y ds';cases h2;obtain⟨z,rfl,ry⟩:=xU rxs;have ez:=yo ry;subst ez;obtain⟨t,vs,rfl,hp,hH,rr⟩:=yu rs rx h1;obtain⟨w,hw,rw'⟩:=rr.get (i:=0) rfl
       cases vs with
       | nil=>cases hw
       | cons w' ws =>
        cases hw
        have c:RC X.K cm p H t (.lst ds') (.lst ws):=⟨_,rfl,by obtain⟨v0,r0,e0,_,r1⟩:=rr;cases e0;exact r1⟩
        obtain⟨f,rs'⟩:=rs.put hp hH trivial c;exact⟨t,w::ws,0,0,w,rfl,rfl,hH,by decide,by decide,seqIndex_of (by decide) (by simp),rfl,q _ _ _ f rs' (rw'.mono f)⟩
     . cases h2
   . exact q.elim
 . exact q.elim
end
theorem zkC{s:S}{X:Xc}{Q:D->S->Prop}{n:Nat}{ds:List D}{d:D}(h:s[n]?=some (.lst (d::ds))):wE (zej (.ref n) [.int 0] s) Q X↔Q d (s.set n (.lst ds)):=by
 with_unfolding_all
  unfold zej zkw;dsimp only;rw[if_pos rfl,h];simp
end Fc
namespace FZ
open PySem Builtin.SmallTypes L2
def zqY(K:pX)(a b:Addr):It :=
 ⟨λi H=>∃(xs ys:List V) (x y:V),SqL K H a xs/\SqL K H b ys/\xs[i]?=some x/\ys[i]?=some y,
  λi H v H'=>∃ T x y,v=.ref T/\H T=none/\H'=upd H T (.tup [x,y])/\(∀ xs,SqL K H a xs->xs[i]?=some x)/\∀ ys,SqL K H b ys->ys[i]?=some y,
  λi H=>∃ xs ys:List V,SqL K H a xs/\SqL K H b ys/\xs.length<=i/\ys.length<=i⟩
end FZ
namespace Fc
open PySem PySem.Spec PyProof.Rows L2
def zrd(s:S)(L:Nat)(ns:List Nat):Bool:=ns.all λn=>match yx s n with
 | some ds=>decide (ds.length=L)
 | none=>false
def zkG:List D->Option (List Nat)
 | [.ref a,.ref b]=>some [a,b]
 | [.ref a,.ref b,.ref c]=>some [a,b,c]
 | _=>none
theorem zeY{s:S}{L n:Nat}{ns:List Nat}(h:zrd s L ns=true)(hn:n∈ns):∃ xs,s[n]?=some (.lst xs)/\xs.length=L:=by
 have:=sO.mp h n hn;split at this
 . rename_i ds hd;exact⟨ds,wJ hd,of_decide_eq_true this⟩
 . cases this
variable{K:pX}{cm:CM}
section
variable{X:Cx}{a b:Expr}{vs:List Nat}
theorem zrD{p:List Addr}{σ:L2.St}{H:Hp}{R:It->Hp->Prop}{ds:List D}{s1:S}{xs:List V}(rs:RS X.K cm p s1 H)(rr:RVs X.K p H ds xs){n m k:Nat}(h:zkG ds=some [n,m])(he:zrd s1 k [n,m]=true)
   (q:∀ a b,p[n]?=some a->p[m]?=some b->R (FZ.zqY X.K a b) H):∃ a b us vs,xs=[.ref a,.ref b]/\SqL X.K H a us/\SqL X.K H b vs/\R (FZ.zqY X.K a b) H:=by
 unfold zkG at h;split at h
 . cases h;obtain⟨x,y,rfl,rx,ry⟩:=ziE rr;obtain⟨us,e1,_⟩:=zeY he (tH);obtain⟨ws,e2,_⟩:=zeY he (tQ _ (tH));obtain⟨a,vs,rfl,z1,z2,z3⟩:=yu rs rx e1;obtain⟨b,ts,rfl,y1,y2,y3⟩:=yu rs ry e2;exact⟨a,b,vs,ts,rfl,SqL.of z2,SqL.of y2,q a b z1 y1⟩
 . cases h
 . cases h
end
end Fc
namespace Fc
open PySem PySem.Spec PyProof.Rows L2
def lens(s:S):List D->Option (List Nat)
 | []=>some []
 | .ref n::ds=>match yx s n,lens s ds with
  | some xs,some r=>some (xs.length::r)
  | _,_=>none
 | _::_=>none
end Fc
namespace SL
open PySem PySem.Spec PyProof.Rows
section
variable{prog:Program}{w:World}{A:Around}{R:Result->Shared->Prop}{I:Addr}{fp wr:List Addr}{G:Array GenState->Array GenState->Prop}{n:Nat}{P:Nat->Value->Prop}{St:Nat->Shared->Prop}
def zdN(es:List Str)(x:Str):List Str:=if es.any (· == x)then es else es++[x]
def zeW(xs:List Str):List Str:=xs.foldl zdN []
theorem zgR{xs:List Str}{x:Str}:zeW (xs++[x])=zdN (zeW xs) x:=by
 unfold zeW;rw[qL];rfl
theorem ziS{es:List Str}{x k:Str}:(zdN es x).any (· == k)=(es.any (· == k)||decide (k=x)):=by
 unfold zdN;by_cases h:es.any (· == x)=true
 . rw[if_pos h];by_cases e:k=x
   . subst e;simp[h]
   . simp[e]
 . rw[if_neg h,List.any_append];congr 1;by_cases e:k=x
   . simp[e]
   . simp[e,sH e]
theorem zaC{es:List Str}{x:Str}:(zdN es x).length=if es.any (· == x)=true then es.length else es.length+1:=by
 unfold zdN;split <;> simp
theorem zdX(xs:List Str):(zeW xs).length<=xs.length:=by
 have key:∀(xs es:List Str),(xs.foldl zdN es).length<=es.length+xs.length:=by
  intro xs
  induction xs with
  | nil=>intro es;simp
  | cons x xs ih =>
   intro es;have h:=ih (zdN es x);have l:=zaC (es:=es) (x:=x);rw[rP,sS];split at l <;> omega
 have h:=key xs [];rw[qm,Nat.zero_add]at h;exact h
theorem zfP{xs:List Str}{i:Nat}(hi:i<xs.length):zeW (xs.take (i+1))=zdN (zeW (xs.take i)) xs[i]:=by
 rw[List.take_succ,rE hi,Option.toList_some,zgR]
abbrev Has(prog:Program)(w:World)(S:Addr)(xs:List Str)(i:Nat)(h:Heap):Prop:=h.SetOf (PySem.strKind prog w) S (λk=>(zeW (xs.take i)).any (· == k)) (zeW (xs.take i)).length
theorem Has.by{S:Addr}{xs:List Str}{i:Nat}{h h':Heap}(H:Has prog w S xs i h)(k:∀ o,h.get? S=some o->h'.get? S=some o):Has prog w S xs i h':=by
 obtain⟨o,es,ep,t,ho,rest⟩:=H;exact⟨o,es,ep,t,k o ho,rest⟩
theorem turns(W:WalksS prog w A.in1 I fp wr G n P St)(S:Addr)(hSf:S∉fp)(xs:List Str)(hsz:xs.length=n)(hb:n+1<scanBound)
  (hval:∀ i v,P i v->∃ t,v=.str (xs.getD i Str.empty) t) :
  ∀(k i:Nat) (s:Shared),n - i=k->i<=n->St i s->Has prog w S xs i s.heap ->
    (∀ s',Moved (S::wr) G s s'->Has prog w S xs n s'.heap->R (.ok (.ret .none)) s') ->
    codeAny (model prog w) A (.builtin "set.update.loop" ⟨[.ref S,.ref I],[]⟩) R s:=by
 have hSw:S∉wr:=λh=>hSf (W.sub _ h);have hsub:∀ b∈wr,b∈S::wr:=λb hb=>tQ _ hb;intro k
 induction k with
 | zero =>
  intro i s hk hi hst hS hR
  obtain rfl:i=n:=by omega
  refine codeAny_builtin PyProof.Rows.F.entry_set_update_loop ?_;rw[Around.under_plainId PyProof.Rows.F.plain_set_update_loop _];show wpAny _ A.in1 (pyNext (.ref I) >>= _) _ _ s;refine wpAny_bind (W.done s _ _ hst λs' hm=>?_);show wpAny _ A.in1 (ret Value.none) _ _ s';exact wpAny_pure (hR s' (hm.mono hsub) (hS.by λo ho=>hm.heap S o hSw ho))
 | succ k ih =>
  intro i s hk hi hst hS hR
  have hlt:i<n:=by omega
  have hlx:i<xs.length:=by omega
  refine codeAny_builtin PyProof.Rows.F.entry_set_update_loop ?_;rw[Around.under_plainId PyProof.Rows.F.plain_set_update_loop _];show wpAny _ A.in1 (pyNext (.ref I) >>= _) _ _ s;refine wpAny_bind (W.item i s _ _ hlt hst λv s' hP hst' hm=>?_);obtain⟨t,rfl⟩:=hval i v hP
  have e0:xs.getD i Str.empty=xs[i]:=by simp[List.getD,rE hlx]
  rw[e0];have hS':=hS.by (h':=s'.heap) λo ho=>hm.heap S o hSw ho;show wpAny _ A.in1 (holding [Value.str xs[i] t] (setAdd S (.str xs[i] t)) >>= _) _ _ s';refine wpAny_bind (wpAny_holding ?_);unfold setAdd;refine wpAny_holding ?_;refine wpAny_bind ((PySem.strKind prog w).pyHash (k:=xs[i]) (strKind_is _ _ _ _) ?_)
  have hroom:(zeW (xs.take i)).length+1<scanBound:=by
    have:=zdX (xs.take i);rw[List.length_take]at this;omega
  refine wpAny_setAddHashed_of (knd:=PySem.strKind prog w) (s:={ s' with toks:=s'.toks+1 }) (strKind_is _ _ _ _) rfl hS' hroom λh' hsb hS2=>?_;have hSi:Has prog w S xs (i+1) h':=PyProof.Rows.SetOf_congr hS2 (λk'=>by rw[zfP hlx,ziS]) (by rw[zfP hlx,zaC]);refine wpAny_pure ⟨plainId_quiet PyProof.Rows.F.plain_set_update_loop _,ih (i+1) _ (by omega) hlt (W.frame _ s' _ _ hst' (Nat.le_succ _) λb hb o e=>?_) hSi λs'' hm'' hS''=>?_⟩
  . rw[hsb.2 b (λh:b=S=>hSf (by rw[← h];exact hb))];exact e
  . refine hR s'' (Moved.trans W.gtrans ((hm.mono hsub).then_heap (Nat.le_succ _) λb o hb e=>?_) hm'') hS'';rw[hsb.2 b (λh:b=S=>hb (by rw[h];exact qR))];exact e
end
section
variable{prog:Program}{w:World}{A:Around}{E:Value->Shared->Prop}{s:Shared}
abbrev bare(led:Bool):Obj:={ cls:=.type "set",dict:=none,data:=.set #[] 0 (.fresh 0 0 led) }
def Full(prog:Program)(w:World)(s:Shared)(xs:List Str)(n:Nat)(r:Value)(s₂:Shared):Prop:=r=.none/\∃ h' tk,s₂={ s with heap:=h',toks:=tk }/\Has prog w s.heap.objs.size xs n h'/\∀ b o,b<s.heap.objs.size->s.heap.get? b=some o->h'.get? b=some o
theorem ziW{l:Addr}{items:Array Value}{xs:List Str}{Q:Value->Shared->Prop}(hh:A.handled=none)(hl:s.heap.IsList l items)(hi:PyProof.Rows.StrsAre items.toList xs)(hb:xs.length+1<scanBound)
  (h:∀(h':Heap) (tk:Nat),Has prog w s.heap.objs.size xs items.size h'->(∀ b o,b<s.heap.objs.size->s.heap.get? b=some o->h'.get? b=some o)->Q (.ref s.heap.objs.size) { s with heap:=h',toks:=tk }) :
  wpAny (model prog w) A (call (.type "set") [.ref l]) Q E s:=by
 obtain⟨c,tl,hmro⟩:=PySem.F.called_set.mro;have hmade:=PySem.F.called_set.made;have hsub:=PySem.F.called_set.sub;refine wpAny_call (codeAny_of_tree ?_);show wpAny _ _ (callAny (.type "set") _) _ _ _;refine wpAny_pure ⟨Code.quiet_builtin _ (by decide +kernel),codeAny_builtin PySem.F.entry_type_call ?_⟩;rw[Around.under_plain (weight_type_call_type "set" [.ref l] []) rfl];have h1:=PySem.F.called_set.notType;have h2:=PySem.F.called_set.canCreate;have hct:=PySem.F.typeCall_set_1 (.ref l)
 repeat (any_goals (first | assumption | wp_step))
 refine codeAny_mono (code_set_new_1 (.ref l) (E:=E) (Q₁:=λobj s₁=>∃ led:Bool,obj=.ref s.heap.objs.size/\s₁={ s with heap:=s.heap.push (bare led) }) λled=>⟨led,rfl,rfl⟩) λr s₁ hr=>?_
 cases r with
 | error e=>exact hr
 | ok fl =>
  cases fl with
  | ret obj =>
   obtain⟨led,rfl,rfl⟩:=hr;have hS:(s.heap.push (bare led)).get? s.heap.objs.size=some (bare led):=Heap.get?_push_size _ rfl
   have hT:Shared.TypeIs { s with heap:=s.heap.push (bare led) } (.ref s.heap.objs.size) "set":=⟨_,hS,rfl⟩
   have hli:=PySem.F.called_set.init.lookup;have hbi:=PySem.F.called_set.init.bind (.ref s.heap.objs.size)
   repeat (any_goals (first | assumption | wp_step))
   refine codeAny_mono (codeAny_call_builtin (R:=wants (Full prog w s xs items.size) E) PySem.F.called_set.init.plain PySem.F.entry_set_init (check_set_init_1 hT ?_)) λr₂ s₂ hr₂=>?_
   . obtain⟨ol,hol,hcl,nl,hdl⟩:=hl;obtain⟨ocls,odict,odata,oslots⟩:=ol;simp only at hcl hdl;subst hcl;subst hdl;have hol':(s.heap.push (bare led)).get? l=some { cls:=.type "list",dict:=odict,data:=.seq items nl,slots:=oslots }:=Heap.get?_push_of_some _ hol;have hsls:=PySem.F.sub_list_set;have hslf:=PySem.F.sub_list_frozenset
     have hne:(Value.type "list" == Value.type "dict")=false:=by decide
     have hl1:(s.heap.push (bare led)).IsList l items:=⟨_,hol',rfl,nl,rfl⟩
     have hlS:l<s.heap.objs.size:=Heap.lt_size hol;have hz:(s.heap.push (bare led)).objs.size=s.heap.objs.size+1:=Heap.size_push ..
     have hh3:A.in1.in1.in1.handled=none:=by simp[hh]
     have hsz:xs.length=items.size:=by rw[← StrsAre.len_eq hi,Array.length_toList]
     unfold Builtin.«set.__init__» noKeywords Builtin.Frozenset.updateFrom;generalize hPI:pyIter=PI
     wp_walk
     subst hPI;refine wpAny_pyIter_list hl1 (wpAny_bind (wpAny_runValue ?_));refine turns ((Walks.list hh3 _ l (show l≠(s.heap.push (bare led)).objs.size by rw[hz];exact rO (Nat.lt_succ_of_lt hlS)) items).toS) s.heap.objs.size ?_ xs hsz (by omega) (λi v hv=>SS.strs_at hi i v (by rw[pH];exact hv)) (items.size - 0) 0 _ (by omega) (Nat.zero_le _) ⟨⟨_,Heap.get?_push_size _ rfl,rfl,rfl⟩,(hl1.push _)⟩ ?_ λs' hm hS'=>?_
     . simp only[tU,su,or_false,not_or];rw[hz];exact⟨rO (qT _),Nat.ne_of_gt hlS⟩
     . exact PyProof.Rows.SetOf_congr ((PyProof.Rows.setObjOf_fresh (knd:=PySem.strKind prog w) led).setOf (Heap.get?_push_of_some _ hS) (by unfold scanBound;omega)) (λ_=>rfl) rfl
     . obtain⟨h',g',d',tk',os'⟩:=s';have eg:g'=s.gens:=hm.gens;have ed:d'=s.drawn:=hm.drawn;have eo:os'=s.os:=hm.os;subst eg;subst ed;subst eo;show wpAny _ _ _ _ _ _;refine wpAny_pure ?_;show wpAny _ _ (ret Value.none) _ _ _;refine wpAny_pure ⟨rfl,h',tk',rfl,hS',λb o hb e=>hm.heap b o ?_ (Heap.get?_push_of_some _ (Heap.get?_push_of_some _ e))⟩;simp only[tU,su,or_false,not_or];rw[hz];exact⟨rO hb,rO (Nat.lt_succ_of_lt hb)⟩
   . cases r₂ with
     | error e=>exact hr₂
     | ok fl₂ =>
       cases fl₂ with
       | ret r =>
        obtain⟨rfl,h',tk,rfl,hS',hk'⟩:=hr₂
        repeat (any_goals (first | assumption | wp_step))
        exact h _ _ hS' hk'
       | _=>exact hr₂.elim
  | _=>exact hr.elim
end
end SL
namespace Fc
open PySem PySem.Spec PyProof.Rows L2
variable{cm:CM}{W:WX}
def vf:List D->M D:=λxs s=>match xs with
 | [.ref n]=>match yx s n with
  | some ds=>match zgx ds with
   | some is=>if is.length<=4000 then ret (.int (SL.zeW is).length) s else none
   | none=>none
  | none=>none
 | _=>none
def zjS(X:Cx)(cm:CM)(ta:TA):TE:=λσ H Q=>ta σ H λvs H1=>∃ W p s σ' ds,RS X.K cm p s H1/\RVs X.K p H1 ds vs/\Po X.K cm W (RV X.K) p σ' H1 (vf ds s) Q
theorem zgl{X:Cx}{a:Expr}{ta:TA}{p p2 q pos:Pos}(hg:Gl X "len")(hm:X.mg "len"=none)(hg2:Gl X "set")(hm2:X.mg "set"=none)(ha:PA X [a] ta)(hc:X.calm=true)
   (na:starEach [a] X.env=(false,eval a X.env)::starEach [] X.env:=by rfl) (hpl:(backTo q (starEach [] X.env)).any (·.1)=false:=by rfl):PE X (.Call (.Name "len" p) [.Call (.Name "set" p2) [a] [] q] [] pos) (zjS X cm ta):=by
 refine⟨λpins s σ H Q I h=>?_⟩;refine Call_ (ld_blt I hg hm boot_len ?_);refine PyProof.Rows.callWith_builtin1 (PyProof.Rows.args_cons ?_ rfl) rfl rfl;refine Call_ (ld_blt I hg2 hm2 boot_set ?_);refine PyProof.Rows.callWith_type1 (thn (ha.run q pins s σ H _ I h) λus s1 ⟨vs,H1,I1,r1,q1⟩=>?_) na hpl;obtain⟨W,p',st,σ',ds,rs,rv,q⟩:=q1;unfold vf at q;split at q
 . rename_i n;split at q
   . rename_i es hn;split at q
     . rename_i ns hks;split at q
       . rename_i hl;obtain⟨x,rfl,rx⟩:=xU rv;obtain⟨b,ws,rfl,hp',ha',rw'⟩:=yu rs rx (wJ hn);obtain rfl:=zfJ hks rw';obtain⟨its,r,pl,hz⟩:=I1.list (SqL.of (K:=X.K) ha');rw[Vals.ref1 r1]
         have hlen:its.toArray.size=ns.length:=by rw[qW,← r.length,tR]
         refine SL.ziW (I1.ok.hd hc) pl.isList (by simpa using strsAre_of r) (by unfold scanBound;omega) λh' tk hS hk=>?_;refine PyProof.Rows.args_nil ?_;rw[hlen]at hS;unfold SL.Has at hS;rw[List.take_length]at hS;obtain⟨o,es,ep,t,ho,hex,hd,_,_,_,hf,hn'⟩:=hS;have I2:Inv X pins σ H1 { s1 with heap:=h',toks:=tk }:=I1.kept λb o e=>hk b o (Heap.lt_size e) e;have hle:=SL.zdX ns;refine call_len_set ho hex hd hf (by rw[hn'];omega) ⟨.int (SL.zeW ns).length,H1,I2.tok _,⟨_,by rw[hn']⟩,?_⟩;exact q _ _ _ Fut.refl rs (by simp[RV])
       . exact q.elim
     . exact q.elim
   . exact q.elim
 . exact q.elim
theorem zih{X:Cx}{a:Expr}{fl:EL}{p p2 q pos:Pos}(hc:X.calm=true)(ha:JA X cm W [a] fl)(hm:X.mg "len"=none)(hm2:X.mg "set"=none)(hg:Gl X "len":=by rfl)(hg2:Gl X "set":=by rfl)
  (na:starEach [a] X.env=(false,eval a X.env)::starEach [] X.env:=by rfl) (hpl:(backTo q (starEach [] X.env)).any (·.1)=false:=by rfl) :
  JE X cm W (.Call (.Name "len" p) [.Call (.Name "set" p2) [a] [] q] [] pos) (eN vf fl):=by
 refine(zgl (cm:=cm) hg hm hg2 hm2 ha hc na hpl).imp λσ H Q q=>?_;obtain⟨p,e,s,re,rs,q⟩:=tD.args q;refine⟨p,e,s,re,rs,q.imp ?_⟩;rintro xs H1 ⟨p,e,s,ds,re,rs,r1,q⟩;exact⟨W,p,s,σ,ds,rs,r1,q⟩
theorem ziI{s:S}{n:Nat}{xs:List Str}{Q:D->S->Prop}{Y:Xc}(h:s[n]?=some (.lst (xs.map .str)))(hl:xs.length<=4000)(hQ:Q (.int (SL.zeW xs).length) s):wE (vf [.ref n] s) Q Y:=by
 unfold vf;have e:yx s n=some (xs.map .str):=yr h;simp only[e,zdH,if_pos hl];exact uB.mpr hQ
end Fc
namespace Fc
open PySem L2
def zeo:D->D->M D:=λx y s=>match x,y with
 | .str a,.int k=>if decide (2<=k)&&decide (k<100000)&&decide (1<=a.length)&&decide (a.length<=100)then some (.ok (.str (zim a k.toNat)) s)else none
 | _,_=>none
def zqu:R2:=λx y H Q=>∃ a k,x=.str a/\y=.int k/\2<=k/\k<100000/\1<=a.length/\a.length<=100/\Q (.str (zim a k.toNat)) H
section
variable{X:Cx}{cm:CM}
theorem zlP:OpR X (binaryOp .Mult) zqu:=by
 intro pins s σ H x y v u Q I rx ry h;obtain⟨a,k,rfl,rfl,h1,h2,h3,h4,q⟩:=h;obtain⟨t,rfl⟩:=rx;obtain⟨t',rfl⟩:=ry
 have hk:k.toNat<100000:=by omega
 refine PySem.P.mul_str ?_ (λ_ _=>?_) (λ_ _=>?_) ?_
 . rw[decide_eq_false (by omega),decide_eq_false (by omega)];rfl
 . have:(1000:Int)<=(2 ^ 63 - 1) / k:=by
    refine(Int.le_ediv_iff_mul_le (by omega)).mpr ?_;omega
   omega
 . unfold Builtin.Str.tooLong;have:a.length*k.toNat<=100*100000:=Nat.mul_le_mul h4 (by omega);exact decide_eq_false (by rw[sizeLine_eq];omega)
 . rw[if_neg (by omega),if_neg (by simp;omega)];refine⟨?_,⟨.str (zim a k.toNat),H,I.tok _,⟨_,rfl⟩,q⟩⟩;have:=zfC k.toNat a.cps #[]
   have e:(zim a k.toNat).length=k.toNat*a.length:=by
    show(List.foldl (λx1 x2=>x1++x2) #[] (List.replicate k.toNat a.cps)).size=_;rw[this];simp[Str.length]
   have h5:k.toNat*a.length<=100000*100:=Nat.mul_le_mul (by omega) h4;show(zim a k.toNat).length<=sizeLine;rw[e,sizeLine_eq];omega
theorem s_oMulB:S2 X cm (binaryOp .Mult) zeo:=by
 refine⟨_,zlP,λW p s σ H x y dx dy Q rs rx ry q=>?_⟩;unfold zeo at q;split at q
 . rename_i a k;split at q
   . rename_i h;simp only[rG,decide_eq_true_eq]at h;exact⟨a,k,xq rx,yo ry,h.1.1.1,h.1.1.2,h.1.2,h.2,Po.ok q rs (uN _)⟩
   . exact q.elim
 . exact q.elim
end
theorem znI{s:S}{a:Str}{k:Int}{Q:D->S->Prop}{X:Xc}(h:(decide (2<=k)&&decide (k<100000)&&decide (1<=a.length)&&decide (a.length<=100))=true):wE (zeo (.str a) (.int k) s) Q X↔Q (.str (zim a k.toNat)) s:=by
 with_unfolding_all
  unfold zeo;dsimp only;rw[if_pos h];exact Iff.rfl
end Fc
namespace Fc
open PySem PySem.Spec PyProof.Rows L2
section
variable{K:pX}{cm:CM}{P:Program}{w:World}{mg:Str->Option Value}{base:Heap}{k:Nat}{f:Addr}{fd:FuncData}{x qual:Str}{params:Arguments}{body:List Stmt}{scope:Scope}{dvs:List V}{kws:List (Str×V)}{ps:List Str}{b:C}
theorem FnG.r(N:List Str)(F:FunD K x qual params body scope dvs kws f fd)
 (hbody:∀(cdv:Value) (A:Around) (outer:List PySem.Env) (s:Shared) (H:Hp) (E:XK),Rg k (xj P w K mg base N qual scope f cdv A outer s H E).A->Takes (xj P w K mg base N qual scope f cdv A outer s H E) (Wx E) ->
  PassesOwn (model P w) (xj P w K mg base N qual scope f cdv A outer s H E).A (xj P w K mg base N qual scope f cdv A outer s H E).env (xj P w K mg base N qual scope f cdv A outer s H E).xe ->
  (xj P w K mg base N qual scope f cdv A outer s H E).calm=true->(xj P w K mg base N qual scope f cdv A outer s H E).N.Nodup->Room k (xj P w K mg base N qual scope f cdv A outer s H E).A->JSs (xj P w K mg base N qual scope f cdv A outer s H E) cm (Wx E) body b)
 (S:FnScope N ps scope:=by constructor <;> first | rfl | decide +kernel) :
 FnG P w K mg base (k+1) f fd ps (spD K cm ps.length (yt ps.length N.length b)):=FnG.of F S λcdv A outer s H E hr tk hp=>hbody cdv A outer s H E hr tk hp rfl S.nd hr.room
theorem FnG.rC(N:List Str)(F:FunD K x qual params body scope dvs kws f fd)
 (hbody:∀(cdv:Value) (hcd:PySem.W.kdsCode K cdv=true) (A:Around) (outer:List PySem.Env) (s:Shared) (H:Hp) (E:XK),Rg k (xj P w K mg base N qual scope f cdv A outer s H E).A->Takes (xj P w K mg base N qual scope f cdv A outer s H E) (Wx E) ->
  PassesOwn (model P w) (xj P w K mg base N qual scope f cdv A outer s H E).A (xj P w K mg base N qual scope f cdv A outer s H E).env (xj P w K mg base N qual scope f cdv A outer s H E).xe ->
  (xj P w K mg base N qual scope f cdv A outer s H E).calm=true->(xj P w K mg base N qual scope f cdv A outer s H E).N.Nodup->Room k (xj P w K mg base N qual scope f cdv A outer s H E).A->JSs (xj P w K mg base N qual scope f cdv A outer s H E) cm (Wx E) body b)
 (S:FnScope N ps scope:=by constructor <;> first | rfl | decide +kernel) :
 FnG P w K mg base (k+1) f fd ps (spD K cm ps.length (yt ps.length N.length b)):=FnG.ofC F S λcdv hcd A outer s H E hr tk hp=>hbody cdv hcd A outer s H E hr tk hp rfl S.nd hr.room
abbrev FunT(K:pX)(f:Addr)(fd:FuncData)(x:Str)(d:Stmt):Prop:=FunD K x x (defArgs d) (defBody d) (defScope d) [] [] f fd
abbrev FunS(K:pX)(f:Addr)(fd:FuncData)(x qual:Str)(d:Stmt):Prop:=FunD K x qual (defArgs d) (defBody d) (defScope d) [] [] f fd
theorem fnA{h:Heap}{np nn:Nat}(F:FunD K x qual params body scope [] [] (He.ga K x) fd)(X:K.In h)(N:h.Ns mainGlobals mg){fa:List He.Fa}{fn:List He.DefD}(c:He.SaysD fa fn K)(i:Nat)(G:FnG P w K mg base k (He.ga K x) fd ps (spD K cm np (yt np nn b)))
 (hb:∀(kV doc pm:Value) (an:Option Addr) (cdv ct:Value) (us:List Value),us.length=ps.length->bindArgs (PySem.W.fnOf x qual params body scope .none kV doc pm an cdv ct) ⟨us,[]⟩=pure (ps.zip us):=by
  first
  | exact λ_ _ _ _ _ _ us hl=>match us,hl with | [_],_=>rfl
  | exact λ_ _ _ _ _ _ us hl=>match us,hl with | [_,_],_=>rfl
  | exact λ_ _ _ _ _ _ us hl=>match us,hl with | [_,_,_],_=>rfl
  | exact λ_ _ _ _ _ _ us hl=>match us,hl with | [_,_,_,_],_=>rfl
  | exact λ_ _ _ _ _ _ us hl=>match us,hl with | [],_=>rfl
  | exact λ_ _ _ _ _ _ us hl=>match us,hl with | [_,_,_,_,_],_=>rfl) (hx:fa[i]?=some (.glo x):=by rfl):FnAt P w K mg base cm k x (yt np nn b) [[]]:=fnAt_of G (He.glo_ok X N (c.fact i hx)) F.kp (all_cons (uY F hb) all_nil)
theorem zni{h:Heap}{p0 p1 pa pn pc pe q1 q2 q3 q4:Pos}{cs es:List Str}{ed:List EDef}{wd:World}{d:EDef}{mf:Str}(i:Nat)(X:K.In h)(G:h.Ns mainGlobals mg)(ce:(ed.map λd=>ew K d.c)=ed.map EDef.val)(c3:ed.all (znh mf K)=true)(hmf:P.main.file=mf)(top:(P.main.scope.names.lookup ("super":Str)).isSome=false)(ms:mg "super"=none)
 (hd:d.body=zgU d.n p0 p1 pa pn pc pe q1 q2 q3 q4:=by rfl) (hm:d.c∈es:=by decide) (hi:ed[i]?=some d:=by rfl) (sc:EScope d.n d.sc:=by exact⟨rfl,rfl,rfl,rfl,rfl,rfl,rfl,by decide +kernel,by decide +kernel,by decide⟩)
 (hp:∃ ar,(d.params.posonlyargs++d.params.args).head?=some ar/\ar.arg=("self":Str):=by exact⟨_,rfl,rfl⟩) (t:EText d.n d.qual d.sc p0 p1 pa pn pc pe q1 q2 q3 q4:=by exact⟨λ_ _ _ _=>rfl,λ_ _ _ _=>rfl,⟨_,λ_ _ _ _=>rfl⟩,λ_ _ _ _=>rfl,λ_ _ _ _=>rfl,λ_ _ _ _=>rfl,by decide,by decide⟩)
 (hb:∀(kV doc pm ct:Value) (an:Option Addr) (cda cc T:Addr) (us its:List Value),us.length=2->its.length=1->∃ k,bindArgs (PySem.W.ksFn d.name d.qual d.params d.body d.sc (.ref T) kV doc pm an (.ref cda) ct cc) ⟨us,[]⟩=seqItems? (.ref T) >>= k/\k (some its.toArray)=pure ((["self",d.n]:List Str).zip (us++its.drop 1)):=by exact λ_ _ _ _ _ _ _ _ us its h1 h2=>match us,its,h1,h2 with | [_,_],[_],_,_=>⟨_,rfl,rfl⟩) :
 ErrAt P w K mg base (cm2 K cs es wd) (k+1) d.c d.n [[]]:=zjc (d:=d) X G (zmV hm) hd (zpE ce i hi) (zmQ c3 i hi) hmf top ms sc hp t hb
end
section
variable{cm:CM}{W:WX}{X:Cx}{x:Str}{es:List Expr}{pos:Pos}{fl:EL}
theorem ym(i:Nat)(hr:JA X cm W es fl)(hN:X.N[i]?=some x:=by rfl)(hv:Vis X.env.scope x:=by first | exact Or.inl rfl | exact Or.inr (Or.inl rfl) | exact Or.inr (Or.inr rfl))(hd:(x == ("__debug__":Str))=false:=by decide)
 (hcd:(x == ("__classdict__":Str))=false:=by decide) (hs:starEach (.Name x pos::es) X.env=(false,eval (.Name x pos) X.env)::starEach es X.env:=by rfl):JA X cm W (.Name x pos::es) (za (zg i) fl):=zm (zp i hN hv hd hcd) hr hs
end
section
variable{cm:CM}{W:WX}{X:Cx}{k j:Nat}{x:Str}{F:Fc.F}{dfls:List (List D)}{dfl:List D}{e:Expr}{es:List Expr}{p pos:Pos}{fl:EL}
theorem zM(V:FnAt X.prog X.w X.K X.mg X.base cm k x F dfls)(hr:Rg j X.A)(tk:Takes X W)(ha:JA X cm W (e::es) fl)(hk:k<=j:=by decide)(hd:dfl∈dfls:=by exact .head _)(hg:Gl X x:=by rfl)(hdb:(x == ("__debug__":Str))=false:=by decide)
 (he:starEach (e::es) X.env=(false,eval e X.env)::starEach es X.env:=by rfl) (hpl:(backTo pos (starEach es X.env)).any (·.1)=false:=by rfl):JE X cm W (.Call (.Name x p) (e::es) [] pos) (zE F dfl fl):=zau V hr tk hk hd ha hg hdb he hpl
end
end Fc
namespace Law_k81
open PySem PySem.Spec PyProof.Rows L2 Fc
noncomputable section
def b_law_purse:C :=
 (zG (zR (eN zmI (za (zgV (zg 0) (jH (zg 1)) (jH (e2 yq (zg 1) (eC (.int 1))))) zj)) (gName 2))
 (zY (eN zQ (za (e2 oMod (eN zmH (za (e2 zlK (zg 2) (e2 zjt (eC (.int 10)) (eC (.int 18)))) (za (eC (.int 0)) zj))) (e2 zjt (e2 zjt (eC (.int 10)) (eC (.int 60))) (eC (.int 10)))) (za (e2 oMod (zg 2) (eC (.int 2147483647))) (za (e2 zcV (eC (.int 1000)) (zg 1)) zj))))))
def d_law_purse:F:=yt 2 3 b_law_purse
def b_law_mixed:C :=
 (zG (zR (e2 oMod (e2 yq (e2 yq (e2 yq (e2 zcV (zg 0) (eC (.int 1103515245))) (e2 zcV (e2 zcV (eC (.int 7919)) (zg 1)) (zg 1))) (zg 1)) (eC (.int 1))) (eC (.int 2147483647))) (gName 2))
 (zG (zR (e2 oMod (e2 yq (e2 zcV (zg 2) (zg 2)) (eC (.int 69621))) (eC (.int 2147483629))) (gName 2))
 (zY (e2 oMod (e2 zcV (zg 2) (eC (.int 48271))) (eC (.int 2147483587))))))
def d_law_mixed:F:=yt 2 3 b_law_mixed
def b_law_draw:C :=
 (zG (cIf (tB (e2 oGt (e2 oAt (zg 0) (eC (.int 0))) (eC (.int 0))))
 (zG (zR (e2 oMod (e2 oAt (zg 0) (eC (.int 0))) (zg 1)) (gName 2))
 (zG (zaf (zg 0) (eC (.int 0)) (e2 oDiv (e2 oAt (zg 0) (eC (.int 0))) (zg 1)))
 (zY (zg 2))))
 yL)
 (zG (zR (eC (.int 0)) (gName 3))
 (zG (xf (xm (eC (.int 0)) (e2 yq (eC (.int 1)) (e2 oDiv (e1 zbt (zg 1)) (eC (.int 30))))) (gName 4)
 (zG (zaf (zg 0) (eC (.int 2)) (e2 yq (e2 oAt (zg 0) (eC (.int 2))) (eC (.int 1))))
 (zR (e2 yq (e2 zcV (zg 3) (eC (.int 2147483587))) (zE d_law_mixed [] (za (e2 oAt (zg 0) (eC (.int 1))) (za (e2 oAt (zg 0) (eC (.int 2))) zj)))) (gName 3))))
 (zY (e2 oMod (zg 3) (zg 1))))))
def d_law_draw:F:=yt 2 5 b_law_draw
def b_law_arcs_drawn:C :=
 (zG (zda 3 4 (za (eN zQ zj) (za (e2 yq (eC (.int 3)) (zE d_law_draw [] (za (zg 0) (za (eC (.int 3)) zj)))) zj)))
 (zG (xf (xm (eC (.int 0)) (zg 1)) (gName 5)
 (xf (xm (eC (.int 0)) (zg 2)) (gName 6)
 (zG (zR (zE d_law_draw [] (za (zg 0) (za (zg 4) zj))) (gName 7))
 (cIf (tB (e2 oLt (zg 7) (eC (.int 2))))
 (yE (eM yc (zg 3) (za (eN ye (za (zg 5) (za (zg 6) (za (e2 oEq (zg 7) (eC (.int 1))) zj)))) zj)))
 yL))))
 (zG (cIf (tAnd (tB (e2 oNe (zg 3) (eN zQ zj))) (tB (e2 oEq (zE d_law_draw [] (za (zg 0) (za (eC (.int 4)) zj))) (eC (.int 0)))))
 (yE (eM yc (zg 3) (za (eN ye (za (e2 oAt (e2 oAt (zg 3) (eC (.int 0))) (eC (.int 0))) (za (e2 oAt (e2 oAt (zg 3) (eC (.int 0))) (eC (.int 1))) (za (zax (tE (e2 oAt (e2 oAt (zg 3) (eC (.int 0))) (eC (.int 2))))) zj)))) zj)))
 yL)
 (zY (eIf (tB (e2 oEq (zE d_law_draw [] (za (zg 0) (za (eC (.int 2)) zj))) (eC (.int 0)))) (e1 zep (zg 3)) (zg 3))))))
def d_law_arcs_drawn:F:=yt 3 8 b_law_arcs_drawn
def b_law_table:C :=
 (zG (zR (eN (λ_=>mDT) zj) (gName 1))
 (zG (xf (yd .seq (e2 oAt (zg 0) (eC (.int 3)))) (gTup 3 (gCons (gName 2) (gCons (gName 3) (gCons (gName 4) gNil))))
 (zaf (zg 1) (eN ye (za (zg 2) (za (zg 3) zj))) (eOr (zaV (zg 1) (eN ye (za (zg 2) (za (zg 3) zj))) (eC (.bl false))) (zg 4))))
 (zY (eN ye (za (e2 oAt (zg 0) (eC (.int 1))) (za (e2 oAt (zg 0) (eC (.int 2))) (za (eN fTuple (za (eLc [2,3] (yd .seq (eN ww (za (zg 1) zj))) (gTup 2 (gCons (gName 2) (gCons (gName 3) gNil))) tYes (eN ye (za (zg 2) (za (zg 3) (za (e2 oAt (zg 1) (eN ye (za (zg 2) (za (zg 3) zj)))) zj))))) zj)) zj)))))))
def d_law_table:F:=yt 1 5 b_law_table
def b_law_joined:C :=
 (zG (zR (eN (λ_=>mDT) zj) (gName 2))
 (zG (xf (yd .seq (e2 oAt (zg 0) (eC (.int 2)))) (gTup 3 (gCons (gName 3) (gCons (gName 4) (gCons (gName 5) gNil))))
 (xf (yd .seq (e2 oAt (zg 1) (eC (.int 2)))) (gTup 3 (gCons (gName 6) (gCons (gName 7) (gCons (gName 8) gNil))))
 (cIf (tB (e2 oEq (zg 6) (zg 4)))
 (zaf (zg 2) (eN ye (za (zg 3) (za (zg 7) zj))) (eOr (zaV (zg 2) (eN ye (za (zg 3) (za (zg 7) zj))) (eC (.bl false))) (eOr (zg 5) (zg 8))))
 yL)))
 (zY (eN ye (za (e2 oAt (zg 0) (eC (.int 0))) (za (e2 oAt (zg 1) (eC (.int 1))) (za (eN fTuple (za (eLc [3,7] (yd .seq (eN ww (za (zg 2) zj))) (gTup 2 (gCons (gName 3) (gCons (gName 7) gNil))) tYes (eN ye (za (zg 3) (za (zg 7) (za (e2 oAt (zg 2) (eN ye (za (zg 3) (za (zg 7) zj)))) zj))))) zj)) zj)))))))
def d_law_joined:F:=yt 2 9 b_law_joined
def b_law_few_tables:C :=
 (zG (zR (eLc [3] (yd .seq (zg 0)) (gName 3) tYes (zE d_law_table [] (za (zg 3) zj))) (gName 2))
 (zG (zda 4 5 (za (eN (λ_=>mDN) zj) (za (eN zcs (za (zg 2) zj)) zj)))
 (zG (wM (tB (e2 oNe (zg 5) (eN zQ zj)))
 (zG (zR (eM zmL (zg 5) zj) (gName 6))
 (cIf (tB (e2 jF (zg 6) (zg 4)))
 (zG (zdP (zg 4) (zg 6) (eC (.bl true)))
 (zG (cIf (tB (e2 oGt (eN zga (za (zg 4) zj)) (zg 1)))
 (zY (eC (.bl false)))
 yL)
 (xf (yd .seq (zg 2)) (gName 7)
 (cIf (tB (e2 oEq (e2 oAt (zg 7) (eC (.int 0))) (e2 oAt (zg 6) (eC (.int 1)))))
 (yE (eM yc (zg 5) (za (zE d_law_joined [] (za (zg 6) (za (zg 7) zj))) zj)))
 yL))))
 yL)))
 (zY (eC (.bl true))))))
def d_law_few_tables:F:=yt 2 8 b_law_few_tables
def b_law_parts:C :=
 (zG (zda 4 5 (za (eN zQ zj) (za (eN zQ zj) zj)))
 (zG (xf (xm (eC (.int 0)) (e2 yq (eC (.int 1)) (zE d_law_draw [] (za (zg 0) (za (zg 1) zj))))) (gName 6)
 (yE (eM yc (zg 4) (za (eN ye (za (e2 oAt (eN zQ (za (eC (.str "g")) (za (eC (.str "f")) (za (eC (.str "gf")) (za (eC (.str "h")) (za (eC (.str "ff")) zj)))))) (zg 6)) (za (zE d_law_draw [] (za (zg 0) (za (e2 yq (zg 3) (eC (.int 1))) zj))) zj))) zj))))
 (zG (xf (xm (eC (.int 0)) (zE d_law_draw [] (za (zg 0) (za (e2 yq (zg 2) (eC (.int 1))) zj)))) (gName 6)
 (zG (zda 7 8 (za (e2 oAt (zg 4) (zE d_law_draw [] (za (zg 0) (za (eN wW (za (zg 4) zj)) zj)))) (za (e2 oAt (zg 4) (zE d_law_draw [] (za (zg 0) (za (eN wW (za (zg 4) zj)) zj)))) zj)))
 (zG (zR (e2 oAt (eN zQ (za (eC (.str "c")) (za (eC (.str "f")) (za (eC (.str "ca")) (za (eC (.str "g")) (za (eC (.str "b")) (za (eC (.str "ba")) (za (eC (.str "k")) (za (eC (.str "h")) (za (eC (.str "z")) (za (eC (.str "y")) zj))))))))))) (zg 6)) (gName 9))
 (yE (eM yc (zg 5) (za (eN ye (za (zg 9) (za (e2 oAt (zg 7) (eC (.int 0))) (za (e2 oAt (zg 8) (eC (.int 0))) (za (zE d_law_arcs_drawn [] (za (zg 0) (za (e2 oAt (zg 7) (eC (.int 1))) (za (e2 oAt (zg 8) (eC (.int 1))) zj)))) zj))))) zj))))))
 (zG (wM (tNot (tE (zE d_law_few_tables [] (za (zg 5) (za (eC (.int 400)) zj)))))
 (zR (zaU (zg 5) pNo (jH (e1 zay (eC (.int 1))))) (gName 5)))
 (zY (eN ye (za (zg 4) (za (zg 5) zj))))))))
def d_law_parts:F:=yt 4 10 b_law_parts
def b_law_renamed:C :=
 (zG (zR (eN ju (za (eLc [4,5] (yd .seq (zg 1)) (gTup 2 (gCons (gName 4) (gCons (gName 5) gNil))) tYes (eN ye (za (zg 4) (za (zg 4) zj)))) zj)) (gName 3))
 (zG (xf (yd .seq (zg 1)) (gTup 2 (gCons (gName 4) (gCons (gName 5) gNil)))
 (cIf (tB (e2 oEq (zE d_law_draw [] (za (zg 0) (za (eC (.int 4)) zj))) (eC (.int 0))))
 (zaf (zg 3) (zg 4) (e2 yq (e2 oAt (eN zQ (za (eC (.str "fun")) (za (eC (.str "call")) (za (eC (.str "abcdefghijkl")) (za (eC (.str "f")) zj))))) (zE d_law_draw [] (za (zg 0) (za (eC (.int 4)) zj)))) (zg 4)))
 yL))
 (zG (xf (yd .seq (eN zQ (za (eC (.str "fun")) (za (eC (.str "call")) zj)))) (gName 6)
 (cIf (tAnd (tB (e2 oNe (zg 1) (eN zQ zj))) (tAnd (tB (e2 oEq (zE d_law_draw [] (za (zg 0) (za (eC (.int 3)) zj))) (eC (.int 0)))) (tB (e2 yU (zg 6) (eLc [4] (yd .seq (zg 3)) (gName 4) tYes (e2 oAt (zg 3) (zg 4)))))))
 (zaf (zg 3) (e2 oAt (e2 oAt (zg 1) (e2 oMod (eM zbp (eN zQ (za (eC (.str "fun")) (za (eC (.str "call")) zj))) (za (zg 6) zj)) (eN wW (za (zg 1) zj)))) (eC (.int 0))) (zg 6))
 yL))
 (zG (zR (eN ju (za (eLc [4] (yd .seq (zg 3)) (gName 4) tYes (eN ye (za (zg 4) (za (zaU (e2 oAt (zg 3) (zg 4)) pNo (jH (eC (.int 12)))) zj)))) zj)) (gName 3))
 (zG (cIf (tB (e2 oLt (eN vf (za (eLc [4] (yd .seq (zg 3)) (gName 4) tYes (e2 oAt (zg 3) (zg 4))) zj)) (eN wW (za (zg 3) zj))))
 (zY (eN ye (za (zg 1) (za (zg 2) zj))))
 yL)
 (zG (zR (eLc [4,8,9,10] (yd .seq (zg 2)) (gTup 4 (gCons (gName 4) (gCons (gName 8) (gCons (gName 9) (gCons (gName 10) gNil))))) tYes (eN ye (za (zg 4) (za (e2 oAt (zg 3) (zg 8)) (za (e2 oAt (zg 3) (zg 9)) (za (zg 10) zj)))))) (gName 7))
 (zY (eN ye (za (eLc [4,5] (yd .seq (zg 1)) (gTup 2 (gCons (gName 4) (gCons (gName 5) gNil))) tYes (eN ye (za (e2 oAt (zg 3) (zg 4)) (za (zg 5) zj)))) (za (zg 7) zj))))))))))
def d_law_renamed:F:=yt 3 11 b_law_renamed
def b_law_arc_tokens:C :=
 (zG (zR (eN zQ zj) (gName 1))
 (zG (xf (yd .seq (zg 0)) (gTup 3 (gCons (gName 2) (gCons (gName 3) (gCons (gName 4) gNil))))
 (zR (e2 yq (zg 1) (eN zQ (za (eN zaI (za (zg 2) zj)) (za (e2 oAt (eN zQ (za (eC (.str ">=")) (za (eC (.str ">")) zj))) (eN zdm (za (zg 4) zj))) (za (eN zaI (za (zg 3) zj)) (za (eC (.str ",")) zj)))))) (gName 1)))
 (zY (zaU (zg 1) pNo (jH (e1 zay (eC (.int 1))))))))
def d_law_arc_tokens:F:=yt 1 5 b_law_arc_tokens
def b_law_statements:C :=
 (zG (zR (eLc [4,5] (yd .seq (zg 1)) (gTup 2 (gCons (gName 4) (gCons (gName 5) gNil))) tYes (eN zQ (za (eC (.str "fun")) (za (zg 4) (za (eN zaI (za (zg 5) zj)) zj))))) (gName 3))
 (zG (zR (eLc [4,7,8,9] (yd .seq (zg 2)) (gTup 4 (gCons (gName 4) (gCons (gName 7) (gCons (gName 8) (gCons (gName 9) gNil))))) tYes (e2 yq (e2 yq (eN zQ (za (eC (.str "call")) (za (zg 4) (za (zg 7) (za (zg 8) (za (eC (.str "[")) zj)))))) (zE d_law_arc_tokens [] (za (zg 9) zj))) (eN zQ (za (eC (.str "]")) zj)))) (gName 6))
 (zG (zR (eN zQ zj) (gName 10))
 (zG (wM (tOr (tB (e2 oNe (zg 3) (eN zQ zj))) (tB (e2 oNe (zg 6) (eN zQ zj))))
 (zG (zR (eLc [12] (yd .seq (eN zQ (za (zg 3) (za (zg 6) zj)))) (gName 12) (tB (e2 oNe (zg 12) (eN zQ zj))) (zg 12)) (gName 11))
 (yE (eM yc (zg 10) (za (eM zej (e2 oAt (zg 11) (zE d_law_draw [] (za (zg 0) (za (eN wW (za (zg 11) zj)) zj)))) (za (eC (.int 0)) zj)) zj)))))
 (zY (zg 10))))))
def d_law_statements:F:=yt 3 13 b_law_statements
def b_law_rowed:C :=
 (zG (zR (eN zQ zj) (gName 1))
 (zG (xf (yd .seq (zg 0)) (gName 2)
 (zR (e2 yq (e2 yq (zg 1) (zg 2)) (eN zQ (za (eC (.str ";")) zj))) (gName 1)))
 (zY (zaU (zg 1) pNo (jH (e1 zay (eC (.int 1))))))))
def d_law_rowed:F:=yt 1 3 b_law_rowed
def b_law_spaced:C :=
 (zG (zR (eN zQ (za (eC (.str "")) (za (eC (.str " ")) (za (eC (.str "  ")) (za (eC (.str "\n")) (za (eC (.str " \n ")) (za (eC (.str "\n\n")) zj))))))) (gName 2))
 (zG (zda 3 4 (za (e2 oAt (zg 2) (zE d_law_draw [] (za (zg 0) (za (eC (.int 6)) zj)))) (za (eC (.str "")) zj)))
 (zG (xf (yd .seq (zg 1)) (gName 5)
 (zG (zR (uH (e2 oNe (zg 4) (eC (.str ""))) (uH (e2 yU (zg 4) (eC (.str "[],;>="))) (e2 yU (zg 5) (eC (.str "[],;>="))))) (gName 6))
 (zG (zR (e2 yq (e2 yq (zg 3) (e2 oAt (zg 2) (e2 yq (eN zdm (za (zg 6) zj)) (zE d_law_draw [] (za (zg 0) (za (e2 zlK (eC (.int 6)) (eN zdm (za (zg 6) zj))) zj)))))) (zg 5)) (gName 3))
 (zR (zg 5) (gName 4)))))
 (zY (e2 yq (zg 3) (e2 oAt (zg 2) (zE d_law_draw [] (za (zg 0) (za (eC (.int 6)) zj)))))))))
def d_law_spaced:F:=yt 2 7 b_law_spaced
def b_kind_of:C :=
 (zG (xf (yd .seq (eN ye (za (eN ye (za (eC (.str "word")) (za (eC (.str "abcdefghijklmnopqrstuvwxyz")) zj))) (za (eN ye (za (eC (.str "number")) (za (eC (.str "0123456789")) zj))) (za (eN ye (za (eC (.str "blank")) (za (eC (.str " \n")) zj))) (za (eN ye (za (eC (.str "sign")) (za (eC (.str "[],;")) zj))) (za (eN ye (za (eC (.str "more")) (za (eC (.str ">=")) zj))) zj))))))) (gTup 2 (gCons (gName 1) (gCons (gName 2) gNil)))
 (cIf (tB (e2 oIn (zg 0) (zg 2)))
 (zY (zg 1))
 yL))
 (zY (eC .non)))
def d_kind_of:F:=yt 1 3 b_kind_of
def b_tokens_of:C :=
 (zG (zda 1 2 (za (eN zQ zj) (za (eC (.str "blank")) zj)))
 (zG (xf (yd .seq (zg 0)) (gName 3)
 (zG (zR (zE d_kind_of [] (za (zg 3) zj)) (gName 4))
 (zG (cIf (tOr (tB (e1 zhR (zg 4))) (tB (zaW 4 2 "word" "number")))
 (zY (eC .non))
 yL)
 (zG (zR (uH (e2 oEq (zg 4) (zg 2)) (e2 oIn (zg 4) (eN ye (za (eC (.str "word")) (za (eC (.str "number")) zj))))) (gName 5))
 (zG (cIf (tOr (tE (zg 5)) (tAnd (tB (e2 oEq (zg 4) (eC (.str "more")))) (tAnd (tB (e2 oEq (zg 2) (eC (.str "more")))) (tB (e2 oEq (e2 yq (e2 oAt (zg 1) (e1 zay (eC (.int 1)))) (zg 3)) (eC (.str ">=")))))))
 (zfY zcy (zg 1) (e1 zay (eC (.int 1))) (zg 3))
 (cIf (tB (e2 oNe (zg 4) (eC (.str "blank"))))
 (yE (eM yc (zg 1) (za (zg 3) zj)))
 yL))
 (zR (zg 4) (gName 2)))))))
 (zY (zg 1))))
def d_tokens_of:F:=yt 1 6 b_tokens_of
def b_parts_of:C :=
 (zG (zR (eN zQ (za (eN zQ zj) zj)) (gName 2))
 (zG (xf (yd .seq (zg 0)) (gName 3)
 (cIf (tB (e2 oEq (zg 3) (zg 1)))
 (yE (eM yc (zg 2) (za (eN zQ zj) zj)))
 (yE (eM yc (e2 oAt (zg 2) (e1 zay (eC (.int 1)))) (za (zg 3) zj)))))
 (zY (eIf (tB (e2 oNe (zg 0) (eN zQ zj))) (zg 2) (eN zQ zj)))))
def d_parts_of:F:=yt 2 4 b_parts_of
def b_is_word:C :=
 (zY (e2 oEq (eLc [1] (yd .seq (zg 0)) (gName 1) (tB (e2 yU (zg 1) (eC (.str "abcdefghijklmnopqrstuvwxyz")))) (zg 1)) (eN zQ zj)))
def d_is_word:F:=yt 1 2 b_is_word
def b_is_number:C :=
 (zG (cIf (tOr (tNot (tB (wN oLe oLe (eC (.int 1)) (eN wW (za (zg 0) zj)) (eC (.int 400))))) (tB (e2 oNe (eLc [1] (yd .seq (zg 0)) (gName 1) (tB (e2 yU (zg 1) (eC (.str "0123456789")))) (zg 1)) (eN zQ zj))))
 (zY (eC (.bl false)))
 yL)
 (zY (eOr (e2 oEq (zg 0) (eC (.str "0"))) (e2 oNe (e2 oAt (zg 0) (eC (.int 0))) (eC (.str "0"))))))
def d_is_number:F:=yt 1 2 b_is_number
def b_arcs_in:C :=
 (zG (zR (eN zQ zj) (gName 1))
 (zG (xf (yd .seq (zE d_parts_of [] (za (zg 0) (za (eC (.str ",")) zj)))) (gName 2)
 (zG (cIf (tOr (tB (e2 oNe (eN wW (za (zg 2) zj)) (eC (.int 3)))) (tOr (tNot (tE (zE d_is_number [] (za (e2 oAt (zg 2) (eC (.int 0))) zj)))) (tOr (tB (e2 yU (e2 oAt (zg 2) (eC (.int 1))) (eN ye (za (eC (.str ">")) (za (eC (.str ">=")) zj))))) (tNot (tE (zE d_is_number [] (za (e2 oAt (zg 2) (eC (.int 2))) zj)))))))
 (zY (eC .non))
 yL)
 (yE (eM yc (zg 1) (za (eN ye (za (eN kJ (za (e2 oAt (zg 2) (eC (.int 0))) zj)) (za (eN kJ (za (e2 oAt (zg 2) (eC (.int 2))) zj)) (za (e2 oEq (e2 oAt (zg 2) (eC (.int 1))) (eC (.str ">"))) zj)))) zj)))))
 (zY (zg 1))))
def d_arcs_in:F:=yt 1 3 b_arcs_in
def b_statement_in:C :=
 (zG (cIf (tOr (tB (e2 oNe (eLc [1] (yd .seq (zaU (zg 0) pNo (jH (eC (.int 2))))) (gName 1) (tNot (tE (zE d_is_word [] (za (zg 1) zj)))) (zg 1)) (eN zQ zj))) (tB (e2 oLt (eN wW (za (zg 0) zj)) (eC (.int 3)))))
 (zY (eC .non))
 yL)
 (zG (cIf (tB (e2 oEq (e2 oAt (zg 0) (eC (.int 0))) (eC (.str "fun"))))
 (zY (eIf (tAnd (tB (e2 oEq (eN wW (za (zg 0) zj)) (eC (.int 3)))) (tE (zE d_is_number [] (za (e2 oAt (zg 0) (eC (.int 2))) zj)))) (eN ye (za (e2 oAt (zg 0) (eC (.int 1))) (za (eN kJ (za (e2 oAt (zg 0) (eC (.int 2))) zj)) zj))) (eC .non)))
 yL)
 (zG (zR (uH (e2 oGt (eN wW (za (zg 0) zj)) (eC (.int 5))) (uH (zE d_is_word [] (za (e2 oAt (zg 0) (eC (.int 2))) zj)) (zE d_is_word [] (za (e2 oAt (zg 0) (eC (.int 3))) zj)))) (gName 2))
 (zG (cIf (tOr (tB (e2 oNe (e2 oAt (zg 0) (eC (.int 0))) (eC (.str "call")))) (tOr (tNot (tE (zg 2))) (tOr (tB (e2 oNe (e2 oAt (zg 0) (eC (.int 4))) (eC (.str "[")))) (tB (e2 oNe (e2 oAt (zg 0) (e1 zay (eC (.int 1)))) (eC (.str "]")))))))
 (zY (eC .non))
 yL)
 (zG (zR (zE d_arcs_in [] (za (zaU (zg 0) (jH (eC (.int 5))) (jH (e1 zay (eC (.int 1))))) zj)) (gName 3))
 (zY (eIf (tB (e1 zhR (zg 3))) (eC .non) (eN ye (za (e2 oAt (zg 0) (eC (.int 1))) (za (e2 oAt (zg 0) (eC (.int 2))) (za (e2 oAt (zg 0) (eC (.int 3))) (za (zg 3) zj))))))))))))
def d_statement_in:F:=yt 1 4 b_statement_in
def b_check_list:C :=
 (cIf (tNot (tE (e1 (oIs .list) (zg 0))))
 (wy "InvalidList" "value" (zg 0))
 yL)
def d_check_list:F:=yt 1 1 b_check_list
def b_is_name:C :=
 (zG (cIf (tOr (tNot (tE (e1 (oIs .str) (zg 0)))) (tNot (tB (wN oLe oLe (eC (.int 1)) (eN wW (za (zg 0) zj)) (eC (.int 12))))))
 (zY (eC (.bl false)))
 yL)
 (zY (e2 oEq (eLc [1] (yd .seq (zg 0)) (gName 1) (tB (e2 yU (zg 1) (eC (.str "abcdefghijklmnopqrstuvwxyz")))) (zg 1)) (eN zQ zj))))
def d_is_name:F:=yt 1 2 b_is_name
def b_is_whole:C :=
 (zY (uH (e1 (oIs .int) (zg 0)) (zax (tE (e1 (oIs .bool) (zg 0))))))
def d_is_whole:F:=yt 1 1 b_is_whole
def b_is_function:C :=
 (zG (cIf (tOr (tNot (tE (e1 (oIs .tuple) (zg 0)))) (tOr (tB (e2 oNe (eN wW (za (zg 0) zj)) (eC (.int 2)))) (tNot (tE (zE d_is_name [] (za (e2 oAt (zg 0) (eC (.int 0))) zj))))))
 (zY (eC (.bl false)))
 yL)
 (zY (uH (zE d_is_whole [] (za (e2 oAt (zg 0) (eC (.int 1))) zj)) (wN oLe oLe (eC (.int 0)) (e2 oAt (zg 0) (eC (.int 1))) (eC (.int 3))))))
def d_is_function:F:=yt 1 1 b_is_function
def b_is_arc:C :=
 (zG (cIf (tOr (tNot (tE (e1 (oIs .tuple) (zg 0)))) (tOr (tB (e2 oNe (eN wW (za (zg 0) zj)) (eC (.int 3)))) (tOr (tNot (tE (zE d_is_whole [] (za (e2 oAt (zg 0) (eC (.int 0))) zj)))) (tNot (tE (zE d_is_whole [] (za (e2 oAt (zg 0) (eC (.int 1))) zj)))))))
 (zY (eC (.bl false)))
 yL)
 (zY (uH (wN oLe oLt (eC (.int 0)) (e2 oAt (zg 0) (eC (.int 0))) (zg 1)) (uH (wN oLe oLt (eC (.int 0)) (e2 oAt (zg 0) (eC (.int 1))) (zg 2)) (e1 (oIs .bool) (e2 oAt (zg 0) (eC (.int 2))))))))
def d_is_arc:F:=yt 3 3 b_is_arc
def b_is_call:C :=
 (zG (cIf (tOr (tNot (tE (e1 (oIs .tuple) (zg 0)))) (tOr (tB (e2 oNe (eN wW (za (zg 0) zj)) (eC (.int 4)))) (tB (e2 oNe (eLc [2] (yd .seq (zaU (zg 0) pNo (jH (eC (.int 3))))) (gName 2) (tNot (tE (zE d_is_name [] (za (zg 2) zj)))) (zg 2)) (eN zQ zj)))))
 (zY (eC (.bl false)))
 yL)
 (zG (zR (zg 0) (gTup 4 (gCons (gName 2) (gCons (gName 3) (gCons (gName 4) (gCons (gName 5) gNil))))))
 (zG (cIf (tOr (tB (e2 yU (zg 3) (zg 1))) (tOr (tB (e2 yU (zg 4) (zg 1))) (tNot (tE (e1 (oIs .list) (zg 5))))))
 (zY (eC (.bl false)))
 yL)
 (zY (e2 oEq (eLc [6] (yd .seq (zg 5)) (gName 6) (tNot (tE (zE d_is_arc [] (za (zg 6) (za (e2 oAt (zg 1) (zg 3)) (za (e2 oAt (zg 1) (zg 4)) zj)))))) (zg 6)) (eN zQ zj))))))
def d_is_call:F:=yt 2 7 b_is_call
def b_Program_init:C :=
 (zG (yE (zE d_check_list [] (za (zg 1) zj)))
 (zG (zR (eN (λ_=>mDK) zj) (gName 3))
 (zG (xf (yd .seq (zg 1)) (gName 4)
 (zG (cIf (tOr (tNot (tE (zE d_is_function [] (za (zg 4) zj)))) (tB (e2 oIn (e2 oAt (zg 4) (eC (.int 0))) (zg 3))))
 (wy "InvalidFunction" "value" (zg 4))
 yL)
 (zaf (zg 3) (e2 oAt (zg 4) (eC (.int 0))) (e2 oAt (zg 4) (eC (.int 1))))))
 (zG (yE (zE d_check_list [] (za (zg 2) zj)))
 (zG (zR (eN (λ_=>mDK) zj) (gName 5))
 (zG (xf (yd .seq (zg 2)) (gName 6)
 (zG (cIf (tOr (tNot (tE (zE d_is_call [] (za (zg 6) (za (zg 3) zj))))) (tB (e2 oIn (e2 oAt (zg 6) (eC (.int 0))) (zg 5))))
 (wy "InvalidCall" "value" (zg 6))
 yL)
 (zaf (zg 5) (e2 oAt (zg 6) (eC (.int 0))) (eN ye (za (e2 oAt (zg 6) (eC (.int 1))) (za (e2 oAt (zg 6) (eC (.int 2))) (za (eN fTuple (za (e2 oAt (zg 6) (eC (.int 3))) zj)) zj)))))))
 (zG (zmG "many" (zg 0) (zg 3))
 (zmG "known" (zg 0) (zg 5)))))))))
def d_Program_init:F:=yt 3 7 b_Program_init
def b_read_program:C :=
 (zG (zR (eIf (tE (e1 (oIs .str) (zg 0))) (zE d_tokens_of [] (za (zg 0) zj)) (eC .non)) (gName 1))
 (zG (cIf (tB (e1 zhR (zg 1)))
 (wy "InvalidText" "value" (zg 0))
 yL)
 (zG (zR (eLc [3] (yd .seq (zE d_parts_of [] (za (zg 1) (za (eC (.str ";")) zj)))) (gName 3) tYes (zE d_statement_in [] (za (zg 3) zj))) (gName 2))
 (zG (cIf (tB (e2 oIn (eC .non) (zg 2)))
 (wy "InvalidText" "value" (zg 0))
 yL)
 (zdQ ["CallsError","InvalidList","InvalidFunction","InvalidCall","InvalidProgram","InvalidText"] 5
 (zY (vD "Program" d_Program_init [] (za (eLc [4] (yd .seq (zg 2)) (gName 4) (tB (e2 oEq (eN wW (za (zg 4) zj)) (eC (.int 2)))) (zg 4)) (za (eLc [4] (yd .seq (zg 2)) (gName 4) (tB (e2 oEq (eN wW (za (zg 4) zj)) (eC (.int 4)))) (zg 4)) zj))))
 zcZ)))))
def d_read_program:F:=yt 1 6 b_read_program
def b_Program_functions:C :=
 (zY (e1 xW (e1 (zaM "many") (zg 0))))
def d_Program_functions:F:=yt 1 1 b_Program_functions
def b_Program_calls:C :=
 (zY (eLc [1,2,3,4] (yd .items (e1 (zaM "known") (zg 0))) (gTup 2 (gCons (gName 1) (gCons (gTup 3 (gCons (gName 2) (gCons (gName 3) (gCons (gName 4) gNil)))) gNil))) tYes (eN ye (za (zg 1) (za (zg 2) (za (zg 3) (za (eN zcs (za (zg 4) zj)) zj)))))))
def d_Program_calls:F:=yt 1 5 b_Program_calls
def b_check_program:C :=
 (cIf (tNot (tE (e1 (zhQ ["Program"]) (zg 0))))
 (wy "InvalidProgram" "value" (zg 0))
 yL)
def d_check_program:F:=yt 1 1 b_check_program
def b_arc_text:C :=
 (zY (e2 yq (e2 yq (eN zaI (za (e2 oAt (zg 0) (eC (.int 0))) zj)) (e2 oAt (eN zQ (za (eC (.str " >= ")) (za (eC (.str " > ")) zj))) (eN zdm (za (e2 oAt (zg 0) (eC (.int 2))) zj)))) (eN zaI (za (e2 oAt (zg 0) (eC (.int 1))) zj))))
def d_arc_text:F:=yt 1 1 b_arc_text
def b_text_of:C :=
 (zG (yE (zE d_check_program [] (za (zg 0) zj)))
 (zG (zR (eLc [2,3] (yd .items (e1 (zaM "many") (zg 0))) (gTup 2 (gCons (gName 2) (gCons (gName 3) gNil))) tYes (e2 yq (e2 yq (e2 yq (eC (.str "fun ")) (zg 2)) (eC (.str " "))) (eN zaI (za (zg 3) zj)))) (gName 1))
 (zG (xf (yd .items (e1 (zaM "known") (zg 0))) (gTup 2 (gCons (gName 2) (gCons (gTup 3 (gCons (gName 4) (gCons (gName 5) (gCons (gName 6) gNil)))) gNil)))
 (zG (zR (zaw (eC (.str ", ")) (eLc [8] (yd .seq (zg 6)) (gName 8) tYes (zE d_arc_text [] (za (zg 8) zj)))) (gName 7))
 (yE (eM yc (zg 1) (za (e2 yq (e2 yq (e2 yq (e2 yq (e2 yq (e2 yq (e2 yq (e2 yq (eC (.str "call ")) (zg 2)) (eC (.str " "))) (zg 4)) (eC (.str " "))) (zg 5)) (eC (.str " ["))) (zg 7)) (eC (.str "]"))) zj)))))
 (zY (zaw (eC (.str "; ")) (zg 1))))))
def d_text_of:F:=yt 1 9 b_text_of
def b_Program_eq:C :=
 (zG (cIf (tNot (tE (e1 (zhQ ["Program"]) (zg 1))))
 (zY (eC (.bl false)))
 yL)
 (zG (zR (e2 oEq (e1 xW (e1 (zaM "many") (zg 0))) (e1 xW (e1 (zaM "many") (zg 1)))) (gName 2))
 (zY (uH (zg 2) (e2 oEq (e1 xW (e1 (zaM "known") (zg 0))) (e1 xW (e1 (zaM "known") (zg 1))))))))
def d_Program_eq:F:=yt 2 3 b_Program_eq
def b_law:C :=
 (zG (xf (xm (eC (.int 0)) (eC (.int 4))) (gName 1)
 (zG (zR (zE d_law_purse [] (za (zg 0) (za (zg 1) zj))) (gName 2))
 (zG (zR (zE d_law_parts [] (za (zg 2) (za (eC (.int 5)) (za (eC (.int 10)) (za (eC (.int 3)) zj))))) (gTup 2 (gCons (gName 3) (gCons (gName 4) gNil))))
 (zG (zR (zE d_law_renamed [] (za (zg 2) (za (zg 3) (za (zg 4) zj)))) (gTup 2 (gCons (gName 3) (gCons (gName 4) gNil))))
 (zG (xf (xm (eC (.int 0)) (eC (.int 3))) (gName 5)
 (zG (zR (zE d_law_rowed [] (za (zE d_law_statements [] (za (zg 2) (za (zg 3) (za (zg 4) zj)))) zj)) (gName 6))
 (xf (yd .seq (eN zQ (za (zaw (eC (.str " ")) (zg 6)) (za (zE d_law_spaced [] (za (zg 2) (za (zg 6) zj))) zj)))) (gName 7)
 (zG (zR (zE d_read_program [] (za (zg 7) zj)) (gName 8))
 (zG (cIf (tOr (tNot (tE (e1 (zhQ ["Program"]) (zg 8)))) (tOr (tB (e2 oNe (uC "Program" "functions" d_Program_functions [] (zg 8) zj) (zg 3))) (tB (e2 oNe (uC "Program" "calls" d_Program_calls [] (zg 8) zj) (zg 4)))))
 (zY (eC (.bl false)))
 yL)
 (cIf (tOr (tB (e2 (zgi "Program" d_Program_eq) (zE d_read_program [] (za (zE d_text_of [] (za (zg 8) zj)) zj)) (zg 8))) (tB (e2 (zgi "Program" d_Program_eq) (zg 8) (vD "Program" d_Program_init [] (za (zg 3) (za (zg 4) zj))))))
 (zY (eC (.bl false)))
 yL))))))
 (xf (yd .seq (eN zQ (za (eC (.str "")) (za (eC (.str " ")) (za (eC (.str "\n")) (za (eC (.str " \n\n ")) zj)))))) (gName 7)
 (cIf (tB (e2 (zgi "Program" d_Program_eq) (zE d_read_program [] (za (zg 7) zj)) (vD "Program" d_Program_init [] (za (eN zQ zj) (za (eN zQ zj) zj)))))
 (zY (eC (.bl false)))
 yL)))))))
 (zG (zR (eLc [5] (xm (eC (.int 0)) (eC (.int 1600))) (gName 5) tYes (eN ye (za (e2 oMod (zg 5) (eC (.int 3))) (za (e2 oMod (e2 oDiv (zg 5) (eC (.int 3))) (eC (.int 3))) (za (e2 oEq (e2 oMod (zg 5) (eC (.int 2))) (eC (.int 0))) zj))))) (gName 9))
 (zG (zR (vD "Program" d_Program_init [] (za (eN zQ (za (eN ye (za (eC (.str "f")) (za (eC (.int 3)) zj))) zj)) (za (eN zQ (za (eN ye (za (eC (.str "c")) (za (eC (.str "f")) (za (eC (.str "f")) (za (zg 9) zj))))) zj)) zj))) (gName 10))
 (zG (cIf (tB (e2 oNe (uC "Program" "calls" d_Program_calls [] (zE d_read_program [] (za (zE d_text_of [] (za (zg 10) zj)) zj)) zj) (eN zQ (za (eN ye (za (eC (.str "c")) (za (eC (.str "f")) (za (eC (.str "f")) (za (zg 9) zj))))) zj))))
 (zY (eC (.bl false)))
 yL)
 (zG (zR (e2 yq (eLc [12] (yd .seq (eC (.str "abcdef"))) (gName 12) tYes (e2 yq (e2 yq (eC (.str "fun ")) (zg 12)) (eC (.str " 0")))) (eLc [12] (yd .seq (eC (.str "abcdefghijk"))) (gName 12) tYes (e2 yq (e2 yq (eC (.str "call c")) (zg 12)) (eC (.str " a b []"))))) (gName 11))
 (zG (zR (eC (.bl false)) (gName 13))
 (zG (zjZ ["CallsError","InvalidList","InvalidFunction","InvalidCall","InvalidProgram","InvalidText"]
 (yE (zE d_read_program [] (za (zaw (eC (.str "; ")) (zg 11)) zj)))
 (zR (eC (.bl true)) (gName 13)))
 (zY (uH (zax (tE (zg 13))) (e2 oEq (uC "Program" "functions" d_Program_functions [] (zE d_read_program [] (za (e2 yq (e2 zeo (eC (.str " ")) (eC (.int 19993))) (eC (.str "fun f 1"))) zj)) zj) (eN zQ (za (eN ye (za (eC (.str "f")) (za (eC (.int 1)) zj))) zj))))))))))))
def d_law:F:=yt 1 14 b_law
section
variable{P:Program}{w:World}{K:pX}{mg:Str->Option Value}{base:Heap}{cm:CM}{f:Addr}{fd:FuncData}
variable(n_sum:mg "sum"=none)
variable(n_max:mg "max"=none)
variable(n_range:mg "range"=none)
variable(c_d_law_mixed:FnAt P w K mg base cm 1 "_law_mixed" d_law_mixed [[]])
variable(c_d_law_draw:FnAt P w K mg base cm 2 "_law_draw" d_law_draw [[]])
variable(n_sorted:mg "sorted"=none)
variable(n_tuple:mg "tuple"=none)
variable(c_d_law_table:FnAt P w K mg base cm 1 "_law_table" d_law_table [[]])
variable(n_list:mg "list"=none)
variable(hw:cm.wld=some w)
variable(n_len:mg "len"=none)
variable(c_d_law_joined:FnAt P w K mg base cm 1 "_law_joined" d_law_joined [[]])
variable(c_d_law_arcs_drawn:FnAt P w K mg base cm 3 "_law_arcs_drawn" d_law_arcs_drawn [[]])
variable(c_d_law_few_tables:FnAt P w K mg base cm 2 "_law_few_tables" d_law_few_tables [[]])
variable(n_dict:mg "dict"=none)
variable(n_set:mg "set"=none)
variable(n_str:mg "str"=none)
variable(n_int:mg "int"=none)
variable(c_d_law_arc_tokens:FnAt P w K mg base cm 1 "_law_arc_tokens" d_law_arc_tokens [[]])
variable(g_SIGNS:GlobC K mg "SIGNS" (.str "[],;"))
variable(g_BLANKS:GlobC K mg "BLANKS" (.str " \n"))
variable(g_DIGITS:GlobC K mg "DIGITS" (.str "0123456789"))
variable(g_LETTERS:GlobC K mg "LETTERS" (.str "abcdefghijklmnopqrstuvwxyz"))
variable(c_d_kind_of:FnAt P w K mg base cm 1 "kind_of" d_kind_of [[]])
variable(g_MOST_DIGITS:GlobC K mg "MOST_DIGITS" (.int 400))
variable(c_d_parts_of:FnAt P w K mg base cm 1 "parts_of" d_parts_of [[]])
variable(c_d_is_number:FnAt P w K mg base cm 1 "is_number" d_is_number [[]])
variable(c_d_is_word:FnAt P w K mg base cm 1 "is_word" d_is_word [[]])
variable(c_d_arcs_in:FnAt P w K mg base cm 2 "arcs_in" d_arcs_in [[]])
variable(n_isinstance:mg "isinstance"=none)
variable(er_InvalidList:ErrAt P w K mg base cm 1 "InvalidList" "value" [[]])
variable(g_MOST_LETTERS:GlobC K mg "MOST_LETTERS" (.int 12))
variable(n_bool:mg "bool"=none)
variable(c_d_is_name:FnAt P w K mg base cm 1 "is_name" d_is_name [[]])
variable(c_d_is_whole:FnAt P w K mg base cm 1 "is_whole" d_is_whole [[]])
variable(g_MOST_MEASURES:GlobC K mg "MOST_MEASURES" (.int 3))
variable(c_d_is_arc:FnAt P w K mg base cm 2 "is_arc" d_is_arc [[]])
variable(c_d_check_list:FnAt P w K mg base cm 3 "check_list" d_check_list [[]])
variable(c_d_is_function:FnAt P w K mg base cm 2 "is_function" d_is_function [[]])
variable(er_InvalidFunction:ErrAt P w K mg base cm 1 "InvalidFunction" "value" [[]])
variable(c_d_is_call:FnAt P w K mg base cm 3 "is_call" d_is_call [[]])
variable(er_InvalidCall:ErrAt P w K mg base cm 1 "InvalidCall" "value" [[]])
variable(nf_many:FldOk K cm "many")
variable(nf_known:FldOk K cm "known")
variable(c_d_tokens_of:FnAt P w K mg base cm 2 "tokens_of" d_tokens_of [[]])
variable(er_InvalidText:ErrAt P w K mg base cm 1 "InvalidText" "value" [[]])
variable(c_d_statement_in:FnAt P w K mg base cm 3 "statement_in" d_statement_in [[]])
variable(k_d_Program_init:MkAt P w K mg base cm 4 "Program" d_Program_init [[]])
variable(ct_CallsError:CatAt K cm mg "CallsError" ["CallsError","InvalidList","InvalidFunction","InvalidCall","InvalidProgram","InvalidText"])
variable(i_Program:IsCJ K cm mg "Program" ["Program"])
variable(er_InvalidProgram:ErrAt P w K mg base cm 1 "InvalidProgram" "value" [[]])
variable(c_d_check_program:FnAt P w K mg base cm 3 "check_program" d_check_program [[]])
variable(c_d_arc_text:FnAt P w K mg base cm 1 "arc_text" d_arc_text [[]])
variable(c_d_law_purse:FnAt P w K mg base cm 1 "_law_purse" d_law_purse [[]])
variable(c_d_law_parts:FnAt P w K mg base cm 4 "_law_parts" d_law_parts [[]])
variable(c_d_law_renamed:FnAt P w K mg base cm 3 "_law_renamed" d_law_renamed [[]])
variable(c_d_law_statements:FnAt P w K mg base cm 3 "_law_statements" d_law_statements [[]])
variable(c_d_law_rowed:FnAt P w K mg base cm 1 "_law_rowed" d_law_rowed [[]])
variable(c_d_law_spaced:FnAt P w K mg base cm 3 "_law_spaced" d_law_spaced [[]])
variable(c_d_read_program:FnAt P w K mg base cm 6 "read_program" d_read_program [[]])
variable(m_d_Program_functions:MtAt P w K mg base cm 1 "Program" "functions" d_Program_functions [[]])
variable(m_d_Program_calls:MtAt P w K mg base cm 1 "Program" "calls" d_Program_calls [[]])
variable(c_d_text_of:FnAt P w K mg base cm 4 "text_of" d_text_of [[]])
variable(q_Program:EqAt P w K mg base cm 1 "Program" d_Program_eq)
include n_sum n_max in
theorem zaq(F:FunT K f fd "_law_purse" (top 38)):FnG P w K mg base 1 f fd ["_law_script","_law_at"] (spD K cm 2 d_law_purse):=by
  refine FnG.r ["_law_script","_law_at","_law_cell"] F λ_ _ _ _ _ _ hr tk hp hc hN hm=>?_
  exact(zA (yV 2 hN (vB (s_sum hc) n_sum (zm (znR (zp 0) (jC (zp 1)) (jC (xN s_oAdd (zp 1) zH))) zu)))
 (zF (yz (yJ (zm (xN s_oMod (vB (s_max hc) n_max (zm (xN s_oSub (zp 2) (xN s_oPow zH zH)) (zm zH zu))) (xN s_oPow (xN s_oPow zH zH) zH)) (zm (xN s_oMod (zp 2) zH) (zm (xN s_oMul zH (zp 1)) zu)))))))
theorem zao(F:FunT K f fd "_law_mixed" (top 37)):FnG P w K mg base 1 f fd ["_law_cell","_law_k"] (spD K cm 2 d_law_mixed):=by
  refine FnG.r ["_law_cell","_law_k","_law_number"] F λ_ _ _ _ _ _ hr tk hp hc hN hm=>?_
  exact(zA (yV 2 hN (xN s_oMod (xN s_oAdd (xN s_oAdd (xN s_oAdd (xN s_oMul (zp 0) zH) (xN s_oMul (xN s_oMul zH (zp 1)) (zp 1))) (zp 1)) zH) zH))
 (zA (yV 2 hN (xN s_oMod (xN s_oAdd (xN s_oMul (zp 2) (zp 2)) zH) zH))
 (zF (yz (xN s_oMod (xN s_oMul (zp 2) zH) zH)))))
include n_range c_d_law_mixed in
theorem zbx(F:FunT K f fd "_law_draw" (top 39)):FnG P w K mg base 2 f fd ["_law_purse_here","_law_out_of"] (spD K cm 2 d_law_draw):=by
  refine FnG.r ["_law_purse_here","_law_out_of","_law_drawn","_law_number","_law_k"] F λ_ _ _ _ _ _ hr tk hp hc hN hm=>?_
  exact(zA (xJ (zV s_oGt (yS hm (zp 0) zH) zH)
 (zA (yV 2 hN (xN s_oMod (yS hm (zp 0) zH) (zp 1)))
 (zA (zdz hm (zp 0) zH (xN s_oDiv (yS hm (zp 0) zH) (zp 1)))
 (zF (yz (zp 2)))))
 yC)
 (zA (yV 3 hN zH)
 (zA (wG hp hc (vg n_range (xN s_oAdd zH (xN s_oDiv (zjB (zp 1)) zH))) (zK 4 hN)
 (zA (zdz hm (zp 0) zH (xN s_oAdd (yS hm (zp 0) zH) zH))
 (zF (yV 3 hN (xN s_oAdd (xN s_oMul (zp 3) zH) (zM c_d_law_mixed hr tk (zm (yS hm (zp 0) zH) (zm (yS hm (zp 0) zH) zu))))))))
 (zF (yz (xN s_oMod (zp 3) (zp 1)))))))
include n_range c_d_law_draw in
theorem vL(F:FunT K f fd "_law_arcs_drawn" (top 43)):FnG P w K mg base 3 f fd ["_law_purse_here","_law_wide","_law_high"] (spD K cm 3 d_law_arcs_drawn):=by
  refine FnG.r ["_law_purse_here","_law_wide","_law_high","_law_arcs","_law_rich","_law_i","_law_j","_law_kind"] F λ_ _ _ _ _ _ hr tk hp hc hN hm=>?_
  exact(zA (zgn 3 4 hc hN (zm (yJ zu) (zm (xN s_oAdd zH (zM c_d_law_draw hr tk (ym 0 (zm zH zu)))) zu)))
 (zA (wG hp hc (vg n_range (zp 1)) (zK 5 hN)
 (zF (wG hp hc (vg n_range (zp 2)) (zK 6 hN)
 (zA (yV 7 hN (zM c_d_law_draw hr tk (ym 0 (ym 4 zu))))
 (zF (xJ (zV s_oLt (zp 7) zH)
 (zF (wU (yO (zp 3) (zm (xg (ym 5 (ym 6 (zm (uR (s_oEq hm) (zp 7) zH) zu)))) zu))))
 yC))))))
 (zA (xJ (zcf (zcg (zV (s_oNe hm) (zp 3) (yJ zu)) (zcG (zV (s_oEq hm) (zM c_d_law_draw hr tk (ym 0 (zm zH zu))) zH))))
 (zF (wU (yO (zp 3) (zm (xg (zm (yS hm (yS hm (zp 3) zH) zH) (zm (yS hm (yS hm (zp 3) zH) zH) (zm (zii (yS hm (yS hm (zp 3) zH) zH)) zu)))) zu))))
 yC)
 (zF (yz (znS (zV (s_oEq hm) (zM c_d_law_draw hr tk (ym 0 (zm zH zu))) zH) (znT (zp 3)) (zp 3)))))))
include n_sorted n_tuple in
theorem zas(F:FunT K f fd "_law_table" (top 40)):FnG P w K mg base 1 f fd ["_law_call"] (spD K cm 1 d_law_table):=by
  refine FnG.r ["_law_call","_law_found","_law_i","_law_j","_law_falls"] F λ_ _ _ _ _ _ hr tk hp hc hN hm=>?_
  exact(zA (yV 1 hN zrA)
 (zA (wG hp hc (yX (yS hm (zp 0) zH)) (vq hc (zW (zK 2 hN) (zW (zK 3 hN) (zW (zK 4 hN) vp))))
 (zF (zdz hm (zp 1) (xg (ym 2 (ym 3 zu))) (zpq (zkE hm (zp 1) (xg (ym 2 (ym 3 zu))) zcW) (zbC (zp 4))))))
 (zF (yz (xg (zm (yS hm (zp 0) zH) (zm (yS hm (zp 0) zH) (zm (vO s_tuple n_tuple (zm (zcC hc hN [("_law_i",2),("_law_j",3)] (yX (vB (s_sortedT hc hm) n_sorted (ym 1 zu))) (λ_ _ _ _ _=>(vq hc (zW (zK 2 hN) (zW (zK 3 hN) vp)))) (λ_ _ _ _ _=>xr) (λ_ _ _ _ _=>(xg (ym 2 (ym 3 (zm (yS hm (zp 1) (xg (ym 2 (ym 3 zu)))) zu))))) (jw (yh zU (yh zU vz)))) zu)) zu))))))))
include n_sorted n_tuple in
theorem jQ(F:FunT K f fd "_law_joined" (top 41)):FnG P w K mg base 1 f fd ["_law_one","_law_other"] (spD K cm 2 d_law_joined):=by
  refine FnG.r ["_law_one","_law_other","_law_found","_law_i","_law_middle","_law_falls","_law_start","_law_j","_law_more"] F λ_ _ _ _ _ _ hr tk hp hc hN hm=>?_
  exact(zA (yV 2 hN zrA)
 (zA (wG hp hc (yX (yS hm (zp 0) zH)) (vq hc (zW (zK 3 hN) (zW (zK 4 hN) (zW (zK 5 hN) vp))))
 (zF (wG hp hc (yX (yS hm (zp 1) zH)) (vq hc (zW (zK 6 hN) (zW (zK 7 hN) (zW (zK 8 hN) vp))))
 (zF (xJ (zV (s_oEq hm) (zp 6) (zp 4))
 (zF (zdz hm (zp 2) (xg (ym 3 (ym 7 zu))) (zpq (zkE hm (zp 2) (xg (ym 3 (ym 7 zu))) zcW) (zpq (zp 5) (zbC (zp 8))))))
 yC)))))
 (zF (yz (xg (zm (yS hm (zp 0) zH) (zm (yS hm (zp 1) zH) (zm (vO s_tuple n_tuple (zm (zcC hc hN [("_law_i",3),("_law_j",7)] (yX (vB (s_sortedT hc hm) n_sorted (ym 2 zu))) (λ_ _ _ _ _=>(vq hc (zW (zK 3 hN) (zW (zK 7 hN) vp)))) (λ_ _ _ _ _=>xr) (λ_ _ _ _ _=>(xg (ym 3 (ym 7 (zm (yS hm (zp 2) (xg (ym 3 (ym 7 zu)))) zu))))) (jw (yh zU (yh zU vz)))) zu)) zu))))))))
include c_d_law_table n_list hw n_len c_d_law_joined in
theorem vM(F:FunT K f fd "_law_few_tables" (top 42)):FnG P w K mg base 2 f fd ["_law_calls","_law_most"] (spD K cm 2 d_law_few_tables):=by
  refine FnG.r ["_law_calls","_law_most","_law_single","_law_call","_law_found","_law_waiting","_law_table_here","_law_one"] F λ_ _ _ _ _ _ hr tk hp hc hN hm=>?_
  exact(zA (uU hc hN 2 [("_law_call",3)] (yX (zp 0)) (λ_ _ _ _ _=>(zK 3 hN)) (λ_ _ _ _ _=>xr) (λ_ _ _ _ _=>(zau c_d_law_table hr wV (by decide) (.head _) (ym 3 zu))) zU)
 (zA (zgn 4 5 hc hN (zm (zsp hw) (zm (vO (s_list hc) n_list (ym 2 zu)) zu)))
 (zA (zet hp (zV (s_oNe hm) (zp 5) (yJ zu))
 (zA (yV 6 hN (zjC (zp 5)))
 (zF (xJ (zV (s_oNotInN hw hm) (zp 6) (zp 4))
 (zA (znU hw hm (zp 4) (zp 6) zcW)
 (zA (xJ (zV s_oGt (vB (s_lenN hw) n_len (ym 4 zu)) (zp 1))
 (zF (yz zcW))
 yC)
 (zF (wG hp hc (yX (zp 2)) (zK 7 hN)
 (zF (xJ (zV (s_oEq hm) (yS hm (zp 7) zH) (yS hm (zp 6) zH))
 (zF (wU (yO (zp 5) (zm (zM c_d_law_joined hr tk (ym 6 (ym 7 zu))) zu))))
 yC))))))
 yC))))
 (zF (yz zcW)))))
include n_range c_d_law_draw n_len c_d_law_arcs_drawn c_d_law_few_tables in
theorem zap(F:FunT K f fd "_law_parts" (top 44)):FnG P w K mg base 4 f fd ["_law_purse_here","_law_most","_law_calls_to","_law_measures_to"] (spD K cm 4 d_law_parts):=by
  refine FnG.r ["_law_purse_here","_law_most","_law_calls_to","_law_measures_to","_law_functions","_law_calls","_law_at","_law_source","_law_target","_law_name"] F λ_ _ _ _ _ _ hr tk hp hc hN hm=>?_
  exact(zA (zgn 4 5 hc hN (zm (yJ zu) (zm (yJ zu) zu)))
 (zA (wG hp hc (vg n_range (xN s_oAdd zH (zM c_d_law_draw hr tk (ym 0 (ym 1 zu))))) (zK 6 hN)
 (zF (wU (yO (zp 4) (zm (xg (zm (yS hm (yJ (zm zN (zm zN (zm zN (zm zN (zm zN zu)))))) (zp 6)) (zm (zM c_d_law_draw hr tk (ym 0 (zm (xN s_oAdd (zp 3) zH) zu))) zu))) zu)))))
 (zA (wG hp hc (vg n_range (zM c_d_law_draw hr tk (ym 0 (zm (xN s_oAdd (zp 2) zH) zu)))) (zK 6 hN)
 (zA (zgn 7 8 hc hN (zm (yS hm (zp 4) (zM c_d_law_draw hr tk (ym 0 (zm (vB s_len n_len (ym 4 zu)) zu)))) (zm (yS hm (zp 4) (zM c_d_law_draw hr tk (ym 0 (zm (vB s_len n_len (ym 4 zu)) zu)))) zu)))
 (zA (yV 9 hN (yS hm (yJ (zm zN (zm zN (zm zN (zm zN (zm zN (zm zN (zm zN (zm zN (zm zN (zm zN zu))))))))))) (zp 6)))
 (zF (wU (yO (zp 5) (zm (xg (ym 9 (zm (yS hm (zp 7) zH) (zm (yS hm (zp 8) zH) (zm (zM c_d_law_arcs_drawn hr tk (ym 0 (zm (yS hm (zp 7) zH) (zm (yS hm (zp 8) zH) zu)))) zu))))) zu)))))))
 (zA (zet hp (xK (yI (zM c_d_law_few_tables hr tk (ym 5 (zm zH zu)))))
 (zF (yV 5 hN (zes (zp 5) zgo (jC (zdy zH))))))
 (zF (yz (xg (ym 4 (ym 5 zu)))))))))
include c_d_law_draw n_len n_dict n_set in
theorem jy(F:FunT K f fd "_law_renamed" (top 49)):FnG P w K mg base 3 f fd ["_law_purse_here","_law_functions","_law_calls"] (spD K cm 3 d_law_renamed):=by
  refine FnG.r ["_law_purse_here","_law_functions","_law_calls","_law_names","_law_name","_law_many","_law_word","_law_rows","_law_one","_law_other","_law_arcs"] F λ_ _ _ _ _ _ hr tk hp hc hN hm=>?_
  exact(zA (yV 3 hN (vO (s_dictP hc) n_dict (zm (zcC hc hN [("_law_name",4),("_law_many",5)] (yX (zp 1)) (λ_ _ _ _ _=>(vq hc (zW (zK 4 hN) (zW (zK 5 hN) vp)))) (λ_ _ _ _ _=>xr) (λ_ _ _ _ _=>(xg (ym 4 (ym 4 zu)))) (jw (yh zU (yh zU vz)))) zu)))
 (zA (wG hp hc (yX (zp 1)) (vq hc (zW (zK 4 hN) (zW (zK 5 hN) vp)))
 (zF (xJ (zV (s_oEq hm) (zM c_d_law_draw hr tk (ym 0 (zm zH zu))) zH)
 (zF (zdz hm (zp 3) (zp 4) (xN s_oAdd (yS hm (yJ (zm zN (zm zN (zm zN (zm zN zu))))) (zM c_d_law_draw hr tk (ym 0 (zm zH zu)))) (zp 4))))
 yC)))
 (zA (wG hp hc (yX (yJ (zm zN (zm zN zu)))) (zK 6 hN)
 (zF (xJ (zcf (zcg (zV (s_oNe hm) (zp 1) (yJ zu)) (zcg (zV (s_oEq hm) (zM c_d_law_draw hr tk (ym 0 (zm zH zu))) zH) (zcG (zV (s_oNotIn hm) (zp 6) (zcC hc hN [("_law_name",4)] (yX (zp 3)) (λ_ _ _ _ _=>(zK 4 hN)) (λ_ _ _ _ _=>xr) (λ_ _ _ _ _=>(yS hm (zp 3) (zp 4))) zU))))))
 (zF (zdz hm (zp 3) (yS hm (yS hm (zp 1) (xN s_oMod (zgm (yJ (zm zN (zm zN zu))) (ym 6 zu)) (vB s_len n_len (ym 1 zu)))) zH) (zp 6)))
 yC)))
 (zA (yV 3 hN (vO (s_dictP hc) n_dict (zm (zcC hc hN [("_law_name",4)] (yX (zp 3)) (λ_ _ _ _ _=>(zK 4 hN)) (λ_ _ _ _ _=>xr) (λ_ _ _ _ _=>(xg (ym 4 (zm (zes (yS hm (zp 3) (zp 4)) zgo (jC zH)) zu)))) zU) zu)))
 (zA (xJ (zV s_oLt (zih hc (zm (zcC hc hN [("_law_name",4)] (yX (zp 3)) (λ_ _ _ _ _=>(zK 4 hN)) (λ_ _ _ _ _=>xr) (λ_ _ _ _ _=>(yS hm (zp 3) (zp 4))) zU) zu) n_len n_set) (vB s_len n_len (ym 3 zu)))
 (zF (yz (xg (ym 1 (ym 2 zu)))))
 yC)
 (zA (uU hc hN 7 [("_law_name",4),("_law_one",8),("_law_other",9),("_law_arcs",10)] (yX (zp 2)) (λ_ _ _ _ _=>(vq hc (zW (zK 4 hN) (zW (zK 8 hN) (zW (zK 9 hN) (zW (zK 10 hN) vp)))))) (λ_ _ _ _ _=>xr) (λ_ _ _ _ _=>(xg (ym 4 (zm (yS hm (zp 3) (zp 8)) (zm (yS hm (zp 3) (zp 9)) (ym 10 zu)))))) (jw (yh zU (yh zU (yh zU (yh zU vz))))))
 (zF (yz (xg (zm (zcC hc hN [("_law_name",4),("_law_many",5)] (yX (zp 1)) (λ_ _ _ _ _=>(vq hc (zW (zK 4 hN) (zW (zK 5 hN) vp)))) (λ_ _ _ _ _=>xr) (λ_ _ _ _ _=>(xg (zm (yS hm (zp 3) (zp 4)) (ym 5 zu)))) (jw (yh zU (yh zU vz)))) (ym 7 zu)))))))))))
include n_str n_int in
theorem vK(F:FunT K f fd "_law_arc_tokens" (top 45)):FnG P w K mg base 1 f fd ["_law_arcs"] (spD K cm 1 d_law_arc_tokens):=by
  refine FnG.r ["_law_arcs","_law_found","_law_i","_law_j","_law_falls"] F λ_ _ _ _ _ _ hr tk hp hc hN hm=>?_
  exact(zA (yV 1 hN (yJ zu))
 (zA (wG hp hc (yX (zp 0)) (vq hc (zW (zK 2 hN) (zW (zK 3 hN) (zW (zK 4 hN) vp))))
 (zF (yV 1 hN (xN s_oAdd (zp 1) (yJ (zm (vO s_str n_str (ym 2 zu)) (zm (yS hm (yJ (zm zN (zm zN zu))) (vO s_int n_int (ym 4 zu))) (zm (vO s_str n_str (ym 3 zu)) (zm zN zu)))))))))
 (zF (yz (zes (zp 1) zgo (jC (zdy zH)))))))
include c_d_law_draw n_len n_str c_d_law_arc_tokens in
theorem vN(F:FunT K f fd "_law_statements" (top 46)):FnG P w K mg base 3 f fd ["_law_purse_here","_law_functions","_law_calls"] (spD K cm 3 d_law_statements):=by
  refine FnG.r ["_law_purse_here","_law_functions","_law_calls","_law_first","_law_name","_law_many","_law_second","_law_one","_law_other","_law_arcs","_law_found","_law_lots","_law_lot"] F λ_ _ _ _ _ _ hr tk hp hc hN hm=>?_
  exact(zA (uU hc hN 3 [("_law_name",4),("_law_many",5)] (yX (zp 1)) (λ_ _ _ _ _=>(vq hc (zW (zK 4 hN) (zW (zK 5 hN) vp)))) (λ_ _ _ _ _=>xr) (λ_ _ _ _ _=>(yJ (zm zN (ym 4 (zm (vO s_str n_str (ym 5 zu)) zu))))) (jw (yh zU (yh zU vz))))
 (zA (uU hc hN 6 [("_law_name",4),("_law_one",7),("_law_other",8),("_law_arcs",9)] (yX (zp 2)) (λ_ _ _ _ _=>(vq hc (zW (zK 4 hN) (zW (zK 7 hN) (zW (zK 8 hN) (zW (zK 9 hN) vp)))))) (λ_ _ _ _ _=>xr) (λ_ _ _ _ _=>(xN s_oAdd (xN s_oAdd (yJ (zm zN (ym 4 (ym 7 (ym 8 (zm zN zu)))))) (zau c_d_law_arc_tokens hr wV (by decide) (.head _) (ym 9 zu))) (yJ (zm zN zu)))) (jw (yh zU (yh zU (yh zU (yh zU vz))))))
 (zA (yV 10 hN (yJ zu))
 (zA (zet hp (zcf (wz (zV (s_oNe hm) (zp 3) (yJ zu)) (wH (zV (s_oNe hm) (zp 6) (yJ zu)))))
 (zA (uU hc hN 11 [("_law_lot",12)] (yX (yJ (ym 3 (ym 6 zu)))) (λ_ _ _ _ _=>(zK 12 hN)) (λ_ _ _ _ _=>(ue (zV (s_oNe hm) (zp 12) (yJ zu)))) (λ_ _ _ _ _=>(zp 12)) zU)
 (zF (wU (yO (zp 10) (zm (zjD (yS hm (zp 11) (zM c_d_law_draw hr tk (ym 0 (zm (vB s_len n_len (ym 11 zu)) zu)))) (zm zH zu)) zu))))))
 (zF (yz (zp 10)))))))
theorem zar(F:FunT K f fd "_law_rowed" (top 48)):FnG P w K mg base 1 f fd ["_law_statements_here"] (spD K cm 1 d_law_rowed):=by
  refine FnG.r ["_law_statements_here","_law_found","_law_statement"] F λ_ _ _ _ _ _ hr tk hp hc hN hm=>?_
  exact(zA (yV 1 hN (yJ zu))
 (zA (wG hp hc (yX (zp 0)) (zK 2 hN)
 (zF (yV 1 hN (xN s_oAdd (xN s_oAdd (zp 1) (zp 2)) (yJ (zm zN zu))))))
 (zF (yz (zes (zp 1) zgo (jC (zdy zH)))))))
include c_d_law_draw n_int in
theorem jR(F:FunT K f fd "_law_spaced" (top 47)):FnG P w K mg base 3 f fd ["_law_purse_here","_law_tokens"] (spD K cm 2 d_law_spaced):=by
  refine FnG.r ["_law_purse_here","_law_tokens","_law_blanks","_law_found","_law_last","_law_token","_law_needed"] F λ_ _ _ _ _ _ hr tk hp hc hN hm=>?_
  exact(zA (yV 2 hN (yJ (zm zN (zm zN (zm zN (zm zN (zm zN (zm zN zu))))))))
 (zA (zgn 3 4 hc hN (zm (yS hm (zp 2) (zM c_d_law_draw hr tk (ym 0 (zm zH zu)))) (zm zN zu)))
 (zA (wG hp hc (yX (zp 1)) (zK 5 hN)
 (zA (yV 6 hN (zbA (uR (s_oNe hm) (zp 4) zN) (zbA (uR (s_oNotIn hm) (zp 4) zN) (zbC (uR (s_oNotIn hm) (zp 5) zN)))))
 (zA (yV 3 hN (xN s_oAdd (xN s_oAdd (zp 3) (yS hm (zp 2) (xN s_oAdd (vO s_int n_int (ym 6 zu)) (zM c_d_law_draw hr tk (ym 0 (zm (xN s_oSub zH (vO s_int n_int (ym 6 zu))) zu)))))) (zp 5)))
 (zF (yV 4 hN (zp 5))))))
 (zF (yz (xN s_oAdd (zp 3) (yS hm (zp 2) (zM c_d_law_draw hr tk (ym 0 (zm zH zu))))))))))
include g_SIGNS g_BLANKS g_DIGITS g_LETTERS in
theorem zcb(F:FunT K f fd "kind_of" (top 28)):FnG P w K mg base 1 f fd ["sign"] (spD K cm 1 d_kind_of):=by
  refine FnG.r ["sign","kind","signs"] F λ_ _ _ _ _ _ hr tk hp hc hN hm=>?_
  exact(zA (wG hp hc (yX (xg (zm (xg (zm zN (zm (jB g_LETTERS) zu))) (zm (xg (zm zN (zm (jB g_DIGITS) zu))) (zm (xg (zm zN (zm (jB g_BLANKS) zu))) (zm (xg (zm zN (zm (jB g_SIGNS) zu))) (zm (xg (zm zN (zm zN zu))) zu))))))) (vq hc (zW (zK 1 hN) (zW (zK 2 hN) vp)))
 (zF (xJ (zV (s_oIn hm) (zp 0) (zp 2))
 (zF (yz (zp 1)))
 yC)))
 (zF (yz zcF)))
include c_d_kind_of in
theorem zat(F:FunT K f fd "tokens_of" (top 29)):FnG P w K mg base 2 f fd ["text"] (spD K cm 1 d_tokens_of):=by
  refine FnG.rC ["text","found","last","sign","kind","goes_on"] F λ_ hcd _ _ _ _ _ hr tk hp hc hN hm=>?_
  exact(zA (zgn 1 2 hc hN (zm (yJ zu) (zm zN zu)))
 (zA (wG hp hc (yX (zp 0)) (zK 3 hN)
 (zA (yV 4 hN (zM c_d_kind_of hr tk (ym 3 zu)))
 (zA (xJ (zcf (wz (zij (zp 4)) (wH (zjE 4 2 hcd hm))))
 (zF (yz zcF))
 yC)
 (zA (yV 5 hN (zbA (uR (s_oEq hm) (zp 4) (zp 2)) (zbC (uR (s_oIn hm) (zp 4) (xg (zm zN (zm zN zu)))))))
 (zA (xJ (zcf (wz (yI (zp 5)) (wH (zcf (zcg (zV (s_oEq hm) (zp 4) zN) (zcg (zV (s_oEq hm) (zp 2) zN) (zcG (zV (s_oEq hm) (xN s_oAdd (yS hm (zp 1) (zdy zH)) (zp 3)) zN))))))))
 (zF (znQ zjl (zp 1) (zdy zH) (zp 3)))
 (zF (xJ (zV (s_oNe hm) (zp 4) zN)
 (zF (wU (yO (zp 1) (ym 3 zu))))
 yC)))
 (zF (yV 2 hN (zp 4))))))))
 (zF (yz (zp 1)))))
theorem zby(F:FunT K f fd "parts_of" (top 32)):FnG P w K mg base 1 f fd ["tokens","mark"] (spD K cm 2 d_parts_of):=by
  refine FnG.r ["tokens","mark","found","token"] F λ_ _ _ _ _ _ hr tk hp hc hN hm=>?_
  exact(zA (yV 2 hN (yJ (zm (yJ zu) zu)))
 (zA (wG hp hc (yX (zp 0)) (zK 3 hN)
 (zF (xJ (zV (s_oEq hm) (zp 3) (zp 1))
 (zF (wU (yO (zp 2) (zm (yJ zu) zu))))
 (zF (wU (yO (yS hm (zp 2) (zdy zH)) (ym 3 zu)))))))
 (zF (yz (znS (zV (s_oNe hm) (zp 0) (yJ zu)) (zp 2) (yJ zu))))))
include g_LETTERS in
theorem zca(F:FunT K f fd "is_word" (top 31)):FnG P w K mg base 1 f fd ["token"] (spD K cm 1 d_is_word):=by
 refine FnG.r ["token","sign"] F λ_ _ _ _ _ _ hr tk hp hc hN hm=>?_;exact(zF (yz (uR (s_oEq hm) (zcC hc hN [("sign",1)] (yX (zp 0)) (λ_ _ _ _ _=>(zK 1 hN)) (λ_ _ _ _ _=>(ue (zV (s_oNotIn hm) (zp 1) (jB g_LETTERS)))) (λ_ _ _ _ _=>(zp 1)) zU) (yJ zu))))
include n_len g_DIGITS g_MOST_DIGITS in
theorem zan(F:FunT K f fd "is_number" (top 30)):FnG P w K mg base 1 f fd ["token"] (spD K cm 1 d_is_number):=by
  refine FnG.r ["token","sign"] F λ_ _ _ _ _ _ hr tk hp hc hN hm=>?_
  exact(zA (xJ (zcf (wz (xK (zfz s_oLe s_oLe zH (vB s_len n_len (ym 0 zu)) (jB g_MOST_DIGITS))) (wH (zV (s_oNe hm) (zcC hc hN [("sign",1)] (yX (zp 0)) (λ_ _ _ _ _=>(zK 1 hN)) (λ_ _ _ _ _=>(ue (zV (s_oNotIn hm) (zp 1) (jB g_DIGITS)))) (λ_ _ _ _ _=>(zp 1)) zU) (yJ zu)))))
 (zF (yz zcW))
 yC)
 (zF (yz (zpq (uR (s_oEq hm) (zp 0) zN) (zbC (uR (s_oNe hm) (yS hm (zp 0) zH) zN))))))
include n_len n_int c_d_parts_of c_d_is_number in
theorem zbX(F:FunT K f fd "arcs_in" (top 33)):FnG P w K mg base 2 f fd ["tokens"] (spD K cm 1 d_arcs_in):=by
  refine FnG.r ["tokens","found","part"] F λ_ _ _ _ _ _ hr tk hp hc hN hm=>?_
  exact(zA (yV 1 hN (yJ zu))
 (zA (wG hp hc (yX (zM c_d_parts_of hr tk (ym 0 (zm zN zu)))) (zK 2 hN)
 (zA (xJ (zcf (wz (zV (s_oNe hm) (vB s_len n_len (ym 2 zu)) zH) (wz (xK (yI (zM c_d_is_number hr tk (zm (yS hm (zp 2) zH) zu)))) (wz (zV (s_oNotIn hm) (yS hm (zp 2) zH) (xg (zm zN (zm zN zu)))) (wH (xK (yI (zM c_d_is_number hr tk (zm (yS hm (zp 2) zH) zu)))))))))
 (zF (yz zcF))
 yC)
 (zF (wU (yO (zp 1) (zm (xg (zm (vO s_intS n_int (zm (yS hm (zp 2) zH) zu)) (zm (vO s_intS n_int (zm (yS hm (zp 2) zH) zu)) (zm (uR (s_oEq hm) (yS hm (zp 2) zH) zN) zu)))) zu))))))
 (zF (yz (zp 1)))))
include n_len n_int c_d_is_number c_d_is_word c_d_arcs_in in
theorem uP(F:FunT K f fd "statement_in" (top 34)):FnG P w K mg base 3 f fd ["tokens"] (spD K cm 1 d_statement_in):=by
  refine FnG.r ["tokens","token","fits","arcs"] F λ_ _ _ _ _ _ hr tk hp hc hN hm=>?_
  exact(zA (xJ (zcf (wz (zV (s_oNe hm) (zcC hc hN [("token",1)] (yX (zes (zp 0) zgo (jC zH))) (λ_ _ _ _ _=>(zK 1 hN)) (λ_ _ _ _ _=>(ue (xK (yI (zau c_d_is_word hr wV (by decide) (.head _) (ym 1 zu)))))) (λ_ _ _ _ _=>(zp 1)) zU) (yJ zu)) (wH (zV s_oLt (vB s_len n_len (ym 0 zu)) zH))))
 (zF (yz zcF))
 yC)
 (zA (xJ (zV (s_oEq hm) (yS hm (zp 0) zH) zN)
 (zF (yz (znS (zcf (zcg (zV (s_oEq hm) (vB s_len n_len (ym 0 zu)) zH) (zcG (yI (zM c_d_is_number hr tk (zm (yS hm (zp 0) zH) zu)))))) (xg (zm (yS hm (zp 0) zH) (zm (vO s_intS n_int (zm (yS hm (zp 0) zH) zu)) zu))) zcF)))
 yC)
 (zA (yV 2 hN (zbA (uR s_oGt (vB s_len n_len (ym 0 zu)) zH) (zbA (zM c_d_is_word hr tk (zm (yS hm (zp 0) zH) zu)) (zbC (zM c_d_is_word hr tk (zm (yS hm (zp 0) zH) zu))))))
 (zA (xJ (zcf (wz (zV (s_oNe hm) (yS hm (zp 0) zH) zN) (wz (xK (yI (zp 2))) (wz (zV (s_oNe hm) (yS hm (zp 0) zH) zN) (wH (zV (s_oNe hm) (yS hm (zp 0) (zdy zH)) zN))))))
 (zF (yz zcF))
 yC)
 (zA (yV 3 hN (zM c_d_arcs_in hr tk (zm (zes (zp 0) (jC zH) (jC (zdy zH))) zu)))
 (zF (yz (znS (zij (zp 3)) zcF (xg (zm (yS hm (zp 0) zH) (zm (yS hm (zp 0) zH) (zm (yS hm (zp 0) zH) (ym 3 zu)))))))))))))
include n_list n_isinstance er_InvalidList in
theorem jP(F:FunT K f fd "check_list" (top 14)):FnG P w K mg base 3 f fd ["value"] (spD K cm 1 d_check_list):=by
  refine FnG.r ["value"] F λ_ _ _ _ _ _ hr tk hp hc hN hm=>?_
  exact(zF (xJ (xK (yI (ziR (zp 0) n_isinstance n_list)))
 (zF (zab er_InvalidList (.head _) hr (by decide) hc tk (zp 0)))
 yC))
include n_len n_str g_LETTERS n_isinstance g_MOST_LETTERS in
theorem zbZ(F:FunT K f fd "is_name" (top 13)):FnG P w K mg base 1 f fd ["value"] (spD K cm 1 d_is_name):=by
  refine FnG.r ["value","letter"] F λ_ _ _ _ _ _ hr tk hp hc hN hm=>?_
  exact(zA (xJ (zcf (wz (xK (yI (ziR (zp 0) n_isinstance n_str))) (wH (xK (zfz s_oLe s_oLe zH (vB s_len n_len (ym 0 zu)) (jB g_MOST_LETTERS))))))
 (zF (yz zcW))
 yC)
 (zF (yz (uR (s_oEq hm) (zcC (by exact hc) (by exact hN) [("letter",1)] (yX (zp 0)) (λ_ _ _ _ _=>(zK 1 hN)) (λ_ _ _ _ _=>(ue (zV (s_oNotIn hm) (zp 1) (jB g_LETTERS)))) (λ_ _ _ _ _=>(zp 1)) zU) (yJ zu)))))
include n_int n_isinstance n_bool in
theorem zbw(F:FunT K f fd "is_whole" (top 12)):FnG P w K mg base 1 f fd ["value"] (spD K cm 1 d_is_whole):=by
 refine FnG.r ["value"] F λ_ _ _ _ _ _ hr tk hp hc hN hm=>?_;exact(zF (yz (zbA (ziR (zp 0) n_isinstance n_int) (zbC (zii (ziR (zp 0) n_isinstance n_bool))))))
include n_tuple n_len n_isinstance c_d_is_name c_d_is_whole g_MOST_MEASURES in
theorem jx(F:FunT K f fd "is_function" (top 17)):FnG P w K mg base 2 f fd ["value"] (spD K cm 1 d_is_function):=by
  refine FnG.r ["value"] F λ_ _ _ _ _ _ hr tk hp hc hN hm=>?_
  exact(zA (xJ (zcf (wz (xK (yI (ziR (zp 0) n_isinstance n_tuple))) (wz (zV (s_oNe hm) (vB s_len n_len (ym 0 zu)) zH) (wH (xK (yI (zM c_d_is_name hr tk (zm (yS hm (zp 0) zH) zu))))))))
 (zF (yz zcW))
 yC)
 (zF (yz (zbA (zM c_d_is_whole hr tk (zm (yS hm (zp 0) zH) zu)) (zbC (zer s_oLe s_oLe zH (yS hm (zp 0) zH) (jB g_MOST_MEASURES)))))))
include n_tuple n_len n_isinstance n_bool c_d_is_whole in
theorem zdv(F:FunT K f fd "is_arc" (top 15)):FnG P w K mg base 2 f fd ["value","sources","targets"] (spD K cm 3 d_is_arc):=by
  refine FnG.r ["value","sources","targets"] F λ_ _ _ _ _ _ hr tk hp hc hN hm=>?_
  exact(zA (xJ (zcf (wz (xK (yI (ziR (zp 0) n_isinstance n_tuple))) (wz (zV (s_oNe hm) (vB s_len n_len (ym 0 zu)) zH) (wz (xK (yI (zM c_d_is_whole hr tk (zm (yS hm (zp 0) zH) zu)))) (wH (xK (yI (zM c_d_is_whole hr tk (zm (yS hm (zp 0) zH) zu)))))))))
 (zF (yz zcW))
 yC)
 (zF (yz (zbA (zer s_oLe s_oLt zH (yS hm (zp 0) zH) (zp 1)) (zbA (zer s_oLe s_oLt zH (yS hm (zp 0) zH) (zp 2)) (zbC (ziR (yS hm (zp 0) zH) n_isinstance n_bool)))))))
include n_tuple n_list n_len n_isinstance c_d_is_name c_d_is_arc in
theorem zbY(F:FunT K f fd "is_call" (top 18)):FnG P w K mg base 3 f fd ["value","many"] (spD K cm 2 d_is_call):=by
  refine FnG.r ["value","many","name","source","target","arcs","arc"] F λ_ _ _ _ _ _ hr tk hp hc hN hm=>?_
  exact(zA (xJ (zcf (wz (xK (yI (ziR (zp 0) n_isinstance n_tuple))) (wz (zV (s_oNe hm) (vB s_len n_len (ym 0 zu)) zH) (wH (zV (s_oNe hm) (zcC (by exact hc) (by exact hN) [("name",2)] (yX (zes (zp 0) zgo (jC zH))) (λ_ _ _ _ _=>(zK 2 hN)) (λ_ _ _ _ _=>(ue (xK (yI (zau c_d_is_name hr wV (by decide) (.head _) (ym 2 zu)))))) (λ_ _ _ _ _=>(zp 2)) zU) (yJ zu))))))
 (zF (yz zcW))
 yC)
 (zA (zmb (zp 0) (vq hc (zW (zK 2 hN) (zW (zK 3 hN) (zW (zK 4 hN) (zW (zK 5 hN) vp))))))
 (zA (xJ (zcf (wz (zV (s_oNotIn hm) (zp 3) (zp 1)) (wz (zV (s_oNotIn hm) (zp 4) (zp 1)) (wH (xK (yI (ziR (zp 5) n_isinstance n_list)))))))
 (zF (yz zcW))
 yC)
 (zF (yz (uR (s_oEq hm) (zcC (by exact hc) (by exact hN) [("arc",6)] (yX (zp 5)) (λ_ _ _ _ _=>(zK 6 hN)) (λ_ _ _ _ _=>(ue (xK (yI (zau c_d_is_arc hr wV (by decide) (.head _) (ym 6 (zm (yS hm (zp 1) (zp 3)) (zm (yS hm (zp 1) (zp 4)) zu)))))))) (λ_ _ _ _ _=>(zp 6)) zU) (yJ zu)))))))
include n_tuple c_d_check_list c_d_is_function er_InvalidFunction c_d_is_call er_InvalidCall nf_many nf_known in
theorem zbu(F:FunS K f fd "__init__" "Program.__init__" (inClass (top 19) 0)):FnG P w K mg base 4 f fd ["self","functions","calls"] (spD K cm 3 d_Program_init):=by
  refine FnG.r ["self","functions","calls","many","function","known","call"] F λ_ _ _ _ _ _ hr tk hp hc hN hm=>?_
  exact(zA (wU (zM c_d_check_list hr tk (ym 1 zu)))
 (zA (yV 3 hN zrz)
 (zA (wG hp hc (yX (zp 1)) (zK 4 hN)
 (zA (xJ (zcf (wz (xK (yI (zM c_d_is_function hr tk (ym 4 zu)))) (wH (zV (s_oIn hm) (yS hm (zp 4) zH) (zp 3)))))
 (zF (zab er_InvalidFunction (.head _) hr (by decide) hc tk (zp 4)))
 yC)
 (zF (zdz hm (zp 3) (yS hm (zp 4) zH) (yS hm (zp 4) zH)))))
 (zA (wU (zM c_d_check_list hr tk (ym 2 zu)))
 (zA (yV 5 hN zrz)
 (zA (wG hp hc (yX (zp 2)) (zK 6 hN)
 (zA (xJ (zcf (wz (xK (yI (zM c_d_is_call hr tk (ym 6 (ym 3 zu))))) (wH (zV (s_oIn hm) (yS hm (zp 6) zH) (zp 5)))))
 (zF (zab er_InvalidCall (.head _) hr (by decide) hc tk (zp 6)))
 yC)
 (zF (zdz hm (zp 5) (yS hm (zp 6) zH) (xg (zm (yS hm (zp 6) zH) (zm (yS hm (zp 6) zH) (zm (vO s_tuple n_tuple (zm (yS hm (zp 6) zH) zu)) zu))))))))
 (zA (zkF nf_many (zp 0) (zp 3))
 (zF (zkF nf_known (zp 0) (zp 5))))))))))
include n_len n_str c_d_parts_of n_isinstance c_d_tokens_of er_InvalidText c_d_statement_in k_d_Program_init ct_CallsError in
theorem uO(F:FunT K f fd "read_program" (top 35)):FnG P w K mg base 6 f fd ["text"] (spD K cm 1 d_read_program):=by
  refine FnG.r ["text","tokens","found","part","one","error"] F λ_ _ _ _ _ _ hr tk hp hc hN hm=>?_
  exact(zA (yV 1 hN (znS (yI (ziR (zp 0) n_isinstance n_str)) (zM c_d_tokens_of hr tk (ym 0 zu)) zcF))
 (zA (xJ (zij (zp 1))
 (zF (zab er_InvalidText (.head _) hr (by decide) hc tk (zp 0)))
 yC)
 (zA (uU hc hN 2 [("part",3)] (yX (zM c_d_parts_of hr tk (ym 1 (zm zN zu)))) (λ_ _ _ _ _=>(zK 3 hN)) (λ_ _ _ _ _=>xr) (λ_ _ _ _ _=>(zau c_d_statement_in hr wV (by decide) (.head _) (ym 3 zu))) zU)
 (zA (xJ (zV (s_oIn hm) zcF (zp 2))
 (zF (zab er_InvalidText (.head _) hr (by decide) hc tk (zp 0)))
 yC)
 (zF (znV ct_CallsError rfl rfl rfl hN tk (λW pn xe tk hp=>(zF (yz (zfy k_d_Program_init hr tk (by decide) (.head _) (zm (zcC (by exact hc) (by exact hN) [("one",4)] (yX (zp 2)) (λ_ _ _ _ _=>(zK 4 hN)) (λ_ _ _ _ _=>(ue (zV (s_oEq hm) (vB s_len n_len (ym 4 zu)) zH))) (λ_ _ _ _ _=>(zp 4)) zU) (zm (zcC (by exact hc) (by exact hN) [("one",4)] (yX (zp 2)) (λ_ _ _ _ _=>(zK 4 hN)) (λ_ _ _ _ _=>(ue (zV (s_oEq hm) (vB s_len n_len (ym 4 zu)) zH))) (λ_ _ _ _ _=>(zp 4)) zU) zu)))))) (λa pn=>(zF zmd))))))))
include n_list nf_many in
theorem ji(F:FunS K f fd "functions" "Program.functions" (inClass (top 19) 1)):FnG P w K mg base 1 f fd ["self"] (spD K cm 1 d_Program_functions):=by
 refine FnG.r ["self"] F λ_ _ _ _ _ _ hr tk hp hc hN hm=>?_;exact(zF (yz (jV hc (zdx nf_many (zp 0)) n_list)))
include n_list nf_known in
theorem zaz(F:FunS K f fd "calls" "Program.calls" (inClass (top 19) 2)):FnG P w K mg base 1 f fd ["self"] (spD K cm 1 d_Program_calls):=by
 refine FnG.r ["self","name","source","target","arcs"] F λ_ _ _ _ _ _ hr tk hp hc hN hm=>?_;exact(zF (yz (zcC hc hN [("name",1),("source",2),("target",3),("arcs",4)] (zed (zdx nf_known (zp 0))) (λ_ _ _ _ _=>(vq hc (zW (zK 1 hN) (zW (vq hc (zW (zK 2 hN) (zW (zK 3 hN) (zW (zK 4 hN) vp)))) vp)))) (λ_ _ _ _ _=>xr) (λ_ _ _ _ _=>(xg (ym 1 (ym 2 (ym 3 (zm (vO (s_list hc) n_list (ym 4 zu)) zu)))))) (jw (yh zU (yh (jw (yh zU (yh zU (yh zU vz)))) vz))))))
include n_isinstance i_Program er_InvalidProgram in
theorem uA(F:FunT K f fd "check_program" (top 20)):FnG P w K mg base 3 f fd ["value"] (spD K cm 1 d_check_program):=by
  refine FnG.r ["value"] F λ_ _ _ _ _ _ hr tk hp hc hN hm=>?_
  exact(zF (xJ (xK (yI (zmc i_Program (zp 0) n_isinstance)))
 (zF (zab er_InvalidProgram (.head _) hr (by decide) hc tk (zp 0)))
 yC))
include n_str n_int in
theorem zbv(F:FunT K f fd "arc_text" (top 26)):FnG P w K mg base 1 f fd ["arc"] (spD K cm 1 d_arc_text):=by
 refine FnG.r ["arc"] F λ_ _ _ _ _ _ hr tk hp hc hN hm=>?_;exact(zF (yz (xN s_oAdd (xN s_oAdd (vO s_str n_str (zm (yS hm (zp 0) zH) zu)) (yS hm (yJ (zm zN (zm zN zu))) (vO s_int n_int (zm (yS hm (zp 0) zH) zu)))) (vO s_str n_str (zm (yS hm (zp 0) zH) zu)))))
include n_str nf_many nf_known c_d_check_program c_d_arc_text in
theorem zcc(F:FunT K f fd "text_of" (top 27)):FnG P w K mg base 4 f fd ["program"] (spD K cm 1 d_text_of):=by
  refine FnG.r ["program","found","name","many","source","target","arcs","inner","arc"] F λ_ _ _ _ _ _ hr tk hp hc hN hm=>?_
  exact(zA (wU (zM c_d_check_program hr tk (ym 0 zu)))
 (zA (uU hc hN 1 [("name",2),("many",3)] (zed (zdx nf_many (zp 0))) (λ_ _ _ _ _=>(vq hc (zW (zK 2 hN) (zW (zK 3 hN) vp)))) (λ_ _ _ _ _=>xr) (λ_ _ _ _ _=>(xN s_oAdd (xN s_oAdd (xN s_oAdd zN (zp 2)) zN) (vO s_str n_str (ym 3 zu)))) (jw (yh zU (yh zU vz))))
 (zA (wG hp hc (zed (zdx nf_known (zp 0))) (vq hc (zW (zK 2 hN) (zW (vq hc (zW (zK 4 hN) (zW (zK 5 hN) (zW (zK 6 hN) vp)))) vp)))
 (zA (yV 7 hN (zfx zN (zcC hc hN [("arc",8)] (yX (zp 6)) (λ_ _ _ _ _=>(zK 8 hN)) (λ_ _ _ _ _=>xr) (λ_ _ _ _ _=>(zau c_d_arc_text hr wV (by decide) (.head _) (ym 8 zu))) zU)))
 (zF (wU (yO (zp 1) (zm (xN s_oAdd (xN s_oAdd (xN s_oAdd (xN s_oAdd (xN s_oAdd (xN s_oAdd (xN s_oAdd (xN s_oAdd zN (zp 2)) zN) (zp 4)) zN) (zp 5)) zN) (zp 7)) zN) zu))))))
 (zF (yz (zfx zN (zp 1)))))))
include n_list n_isinstance nf_many nf_known i_Program in
theorem zcA(F:FunS K f fd "__eq__" "Program.__eq__" (inClass (top 19) 8)):FnG P w K mg base 1 f fd ["self","other"] (spD K cm 2 d_Program_eq):=by
  refine FnG.r ["self","other","same"] F λ_ _ _ _ _ _ hr tk hp hc hN hm=>?_
  exact(zA (xJ (xK (yI (zmc i_Program (zp 1) n_isinstance)))
 (zF (yz zcW))
 yC)
 (zA (yV 2 hN (uR (s_oEq hm) (jV hc (zdx nf_many (zp 0)) n_list) (jV hc (zdx nf_many (zp 1)) n_list)))
 (zF (yz (zbA (zp 2) (zbC (uR (s_oEq hm) (jV hc (zdx nf_known (zp 0)) n_list) (jV hc (zdx nf_known (zp 1)) n_list))))))))
include n_range n_isinstance k_d_Program_init ct_CallsError i_Program c_d_law_purse c_d_law_parts c_d_law_renamed c_d_law_statements c_d_law_rowed c_d_law_spaced c_d_read_program m_d_Program_functions m_d_Program_calls c_d_text_of q_Program in
theorem znJ(F:FunT K f fd "law" (top 50)):FnG P w K mg base 7 f fd ["_law_script"] (spD K cm 1 d_law):=by
  refine FnG.r ["_law_script","_law_cell","_law_purse_here","_law_functions","_law_calls","_law_turn","_law_tokens","_law_text","_law_told","_law_arcs","_law_long","_law_rows","_law_sign","_law_refused"] F λ_ _ _ _ _ _ hr tk hp hc hN hm=>?_
  exact(zA (wG hp hc (vg n_range zH) (zK 1 hN)
 (zA (yV 2 hN (zM c_d_law_purse hr tk (ym 0 (ym 1 zu))))
 (zA (zmb (zM c_d_law_parts hr tk (ym 2 (zm zH (zm zH (zm zH zu))))) (vq hc (zW (zK 3 hN) (zW (zK 4 hN) vp))))
 (zA (zmb (zM c_d_law_renamed hr tk (ym 2 (ym 3 (ym 4 zu)))) (vq hc (zW (zK 3 hN) (zW (zK 4 hN) vp))))
 (zA (wG hp hc (vg n_range zH) (zK 5 hN)
 (zA (yV 6 hN (zM c_d_law_rowed hr tk (zm (zM c_d_law_statements hr tk (ym 2 (ym 3 (ym 4 zu)))) zu)))
 (zF (wG hp hc (yX (yJ (zm (zfx zN (zp 6)) (zm (zM c_d_law_spaced hr tk (ym 2 (ym 6 zu))) zu)))) (zK 7 hN)
 (zA (yV 8 hN (zM c_d_read_program hr tk (ym 7 zu)))
 (zA (xJ (zcf (wz (xK (yI (zmc i_Program (zp 8) n_isinstance))) (wz (zV (s_oNe hm) (zcE m_d_Program_functions hr tk (by decide) (.head _) (zp 8)) (zp 3)) (wH (zV (s_oNe hm) (zcE m_d_Program_calls hr tk (by decide) (.head _) (zp 8)) (zp 4))))))
 (zF (yz zcW))
 yC)
 (zF (xJ (zcf (wz (zV (s_oNeI q_Program hr (by decide)) (zM c_d_read_program hr tk (zm (zM c_d_text_of hr tk (ym 8 zu)) zu)) (zp 8)) (wH (zV (s_oNeI q_Program hr (by decide)) (zp 8) (zfy k_d_Program_init hr tk (by decide) (.head _) (ym 3 (ym 4 zu)))))))
 (zF (yz zcW))
 yC))))))))
 (zF (wG hp hc (yX (yJ (zm zN (zm zN (zm zN (zm zN zu)))))) (zK 7 hN)
 (zF (xJ (zV (s_oNeI q_Program hr (by decide)) (zM c_d_read_program hr tk (ym 7 zu)) (zfy k_d_Program_init hr tk (by decide) (.head _) (zm (yJ zu) (zm (yJ zu) zu))))
 (zF (yz zcW))
 yC)))))))))
 (zA (uU hc hN 9 [("_law_turn",5)] (vg n_range zH) (λ_ _ _ _ _=>(zK 5 hN)) (λ_ _ _ _ _=>xr) (λ_ _ _ _ _=>(xg (zm (xN s_oMod (zp 5) zH) (zm (xN s_oMod (xN s_oDiv (zp 5) zH) zH) (zm (uR (s_oEq hm) (xN s_oMod (zp 5) zH) zH) zu))))) zU)
 (zA (yV 10 hN (zfy k_d_Program_init hr tk (by decide) (.head _) (zm (yJ (zm (xg (zm zN (zm zH zu))) zu)) (zm (yJ (zm (xg (zm zN (zm zN (zm zN (ym 9 zu))))) zu)) zu))))
 (zA (xJ (zV (s_oNe hm) (zcE m_d_Program_calls hr tk (by decide) (.head _) (zM c_d_read_program hr tk (zm (zM c_d_text_of hr tk (ym 10 zu)) zu))) (yJ (zm (xg (zm zN (zm zN (zm zN (ym 9 zu))))) zu)))
 (zF (yz zcW))
 yC)
 (zA (yV 11 hN (xN s_oAdd (zcC hc hN [("_law_sign",12)] (yX zN) (λ_ _ _ _ _=>(zK 12 hN)) (λ_ _ _ _ _=>xr) (λ_ _ _ _ _=>(xN s_oAdd (xN s_oAdd zN (zp 12)) zN)) zU) (zcC hc hN [("_law_sign",12)] (yX zN) (λ_ _ _ _ _=>(zK 12 hN)) (λ_ _ _ _ _=>xr) (λ_ _ _ _ _=>(xN s_oAdd (xN s_oAdd zN (zp 12)) zN)) zU)))
 (zA (yV 13 hN zcW)
 (zA (zqv ct_CallsError rfl rfl tk (λW pn xe tk hp=>(zF (wU (zM c_d_read_program hr tk (zm (zfx zN (zp 11)) zu))))) (λa pn=>(zF (yV 13 hN zcW))))
 (zF (yz (zbA (zii (zp 13)) (zbC (uR (s_oEq hm) (zcE m_d_Program_functions hr tk (by decide) (.head _) (zM c_d_read_program hr tk (zm (xN s_oAdd (xN s_oMulB zN zH) zN) zu))) (yJ (zm (xg (zm zN (zm zH zu))) zu))))))))))))))
end
theorem zql(s:PySem.W.SharedT):ob s=hk.obs s.abs:=zlL (HandSHeadRun.getT_eq s)
def cmK(K:pX)(w:World):CM:=cm2 K ["Program"] ["InvalidText","InvalidList","InvalidFunction","InvalidCall","InvalidProgram"] w
abbrev cmq(K)(w):=cm2 K ["Program"] ["InvalidText","InvalidList","InvalidFunction","InvalidCall","InvalidProgram"] w
theorem facts{P:Program}{w:World}{K:pX}{h:Heap}{mg:Str->Option Value}{f:Addr}(X:K.In h)(G:h.Ns mainGlobals mg)(hfa:mg ("law":Str)=some (.ref f))(c:He.SaysD fa fn K)(cx:ex K=true)(ce:(ed.map λd=>ew K d.c)=ed.map EDef.val)(hmf:P.main.file=R.prog.main.file)(htop:(P.main.scope.names.lookup ("super":Str)).isSome=false) :
  ∃ fd:FuncData,(∀(s:Shared) (v:Value),BindsTo s fd ⟨[v],[]⟩ [("_law_script",v)])/\∀ base:Heap,K.In base->base.Ns mainGlobals mg->FnG P w K mg base 7 f fd ["_law_script"] (spD K (cmK K w) 1 d_law):=by
 obtain⟨cx,cs1⟩:=He.ba cx;obtain⟨cs2,cs1⟩:=He.ba cs1;obtain⟨cs3,cs4⟩:=He.ba cs1
 have x2:Ex2Ok ["InvalidText","InvalidList","InvalidFunction","InvalidCall","InvalidProgram"] [("Program",["Program"])] [("CallsError",["CallsError","InvalidList","InvalidFunction","InvalidCall","InvalidProgram","InvalidText"])] ["known","many"] K:=⟨cs2⟩
 have xo:ExOk ["Program"] [("Program",["Program"])] ["Program"] ["known","many"] [("Program","functions"),("Program","calls"),("Program","__eq__")] K:=⟨cx⟩
 obtain⟨fd_law_purse,F_law_purse⟩:=c.def_ 0 (d:=zba) rfl;obtain⟨fd_law_mixed,F_law_mixed⟩:=c.def_ 1 (d:=zaY) rfl;obtain⟨fd_law_draw,F_law_draw⟩:=c.def_ 2 (d:=zbU) rfl;obtain⟨fd_law_arcs_drawn,F_law_arcs_drawn⟩:=c.def_ 3 (d:=uw) rfl;obtain⟨fd_law_table,F_law_table⟩:=c.def_ 4 (d:=zbc) rfl;obtain⟨fd_law_joined,F_law_joined⟩:=c.def_ 5 (d:=zaj) rfl;obtain⟨fd_law_few_tables,F_law_few_tables⟩:=c.def_ 6 (d:=ux) rfl;obtain⟨fd_law_parts,F_law_parts⟩:=c.def_ 7 (d:=zaZ) rfl;obtain⟨fd_law_renamed,F_law_renamed⟩:=c.def_ 8 (d:=jK) rfl;obtain⟨fd_law_arc_tokens,F_law_arc_tokens⟩:=c.def_ 9 (d:=uv) rfl;obtain⟨fd_law_statements,F_law_statements⟩:=c.def_ 10 (d:=uz) rfl;obtain⟨fd_law_rowed,F_law_rowed⟩:=c.def_ 11 (d:=zbb) rfl;obtain⟨fd_law_spaced,F_law_spaced⟩:=c.def_ 12 (d:=zak) rfl;obtain⟨fd_kind_of,F_kind_of⟩:=c.def_ 13 (d:=zdj) rfl;obtain⟨fd_tokens_of,F_tokens_of⟩:=c.def_ 14 (d:=zbd) rfl;obtain⟨fd_parts_of,F_parts_of⟩:=c.def_ 15 (d:=zbV) rfl;obtain⟨fd_is_word,F_is_word⟩:=c.def_ 16 (d:=zdi) rfl;obtain⟨fd_is_number,F_is_number⟩:=c.def_ 17 (d:=zaX) rfl;obtain⟨fd_arcs_in,F_arcs_in⟩:=c.def_ 18 (d:=zdf) rfl;obtain⟨fd_statement_in,F_statement_in⟩:=c.def_ 19 (d:=jm) rfl;obtain⟨fd_check_list,F_check_list⟩:=c.def_ 20 (d:=zai) rfl;obtain⟨fd_is_name,F_is_name⟩:=c.def_ 21 (d:=zdh) rfl;obtain⟨fd_is_whole,F_is_whole⟩:=c.def_ 22 (d:=zbT) rfl;obtain⟨fd_is_function,F_is_function⟩:=c.def_ 23 (d:=jJ) rfl;obtain⟨fd_is_arc,F_is_arc⟩:=c.def_ 24 (d:=zeX) rfl;obtain⟨fd_is_call,F_is_call⟩:=c.def_ 25 (d:=zdg) rfl;obtain⟨fd_Program_init,F_Program_init⟩:=c.def_ 26 (d:=jj) rfl;obtain⟨fd_read_program,F_read_program⟩:=c.def_ 27 (d:=jk) rfl;obtain⟨fd_Program_functions,F_Program_functions⟩:=c.def_ 28 (d:=wO) rfl;obtain⟨fd_Program_calls,F_Program_calls⟩:=c.def_ 29 (d:=uI) rfl;obtain⟨fd_check_program,F_check_program⟩:=c.def_ 30 (d:=uJ) rfl;obtain⟨fd_arc_text,F_arc_text⟩:=c.def_ 31 (d:=zbS) rfl;obtain⟨fd_text_of,F_text_of⟩:=c.def_ 32 (d:=zdk) rfl;obtain⟨fd_Program_eq,F_Program_eq⟩:=c.def_ 33 (d:=zah) rfl;obtain⟨fd_law,F_law⟩:=c.def_ 34 (d:=znd) rfl;have n_sum:=He.free_ok X G (c.fact 0 (f:=.free "sum") rfl);have n_max:=He.free_ok X G (c.fact 1 (f:=.free "max") rfl);have n_range:=He.free_ok X G (c.fact 2 (f:=.free "range") rfl);have n_sorted:=He.free_ok X G (c.fact 3 (f:=.free "sorted") rfl);have n_tuple:=He.free_ok X G (c.fact 4 (f:=.free "tuple") rfl);have n_list:=He.free_ok X G (c.fact 5 (f:=.free "list") rfl);have n_len:=He.free_ok X G (c.fact 6 (f:=.free "len") rfl);have n_dict:=He.free_ok X G (c.fact 7 (f:=.free "dict") rfl);have n_set:=He.free_ok X G (c.fact 8 (f:=.free "set") rfl);have n_str:=He.free_ok X G (c.fact 9 (f:=.free "str") rfl);have n_int:=He.free_ok X G (c.fact 10 (f:=.free "int") rfl);have n_isinstance:=He.free_ok X G (c.fact 11 (f:=.free "isinstance") rfl);have n_bool:=He.free_ok X G (c.fact 12 (f:=.free "bool") rfl);have g_SIGNS:GlobC K mg "SIGNS" (.str "[],;"):=zaJ (He.str_ok X G (c.fact 13 (f:=.str "SIGNS" "[],;") rfl));have g_BLANKS:GlobC K mg "BLANKS" (.str " \n"):=zaJ (He.str_ok X G (c.fact 14 (f:=.str "BLANKS" " \n") rfl));have g_DIGITS:GlobC K mg "DIGITS" (.str "0123456789"):=zaJ (He.str_ok X G (c.fact 15 (f:=.str "DIGITS" "0123456789") rfl));have g_LETTERS:GlobC K mg "LETTERS" (.str "abcdefghijklmnopqrstuvwxyz"):=zaJ (He.str_ok X G (c.fact 16 (f:=.str "LETTERS" "abcdefghijklmnopqrstuvwxyz") rfl));have g_MOST_DIGITS:GlobC K mg "MOST_DIGITS" (.int 400):=zct (He.int_ok X G (c.fact 17 (f:=.int "MOST_DIGITS" (400)) rfl));have g_MOST_LETTERS:GlobC K mg "MOST_LETTERS" (.int 12):=zct (He.int_ok X G (c.fact 18 (f:=.int "MOST_LETTERS" (12)) rfl));have g_MOST_MEASURES:GlobC K mg "MOST_MEASURES" (.int 3):=zct (He.int_ok X G (c.fact 19 (f:=.int "MOST_MEASURES" (3)) rfl));have nf_known:FldOk K (cmq K w) "known":=zrg x2 (by decide) (xo.fld (by decide));have nf_many:FldOk K (cmq K w) "many":=zrg x2 (by decide) (xo.fld (by decide));have i_Program:IsCJ K (cmq K w) mg "Program" ["Program"]:=is2 x2 X G (by decide) (xo.is X G (by decide));have ct_CallsError:CatAt K (cmq K w) mg "CallsError" ["CallsError","InvalidList","InvalidFunction","InvalidCall","InvalidProgram","InvalidText"]:=zrW x2 X G (by decide);have so:SysOk K:=zmw cs4;have hw:(cmq K w).wld=some w:=rfl;have n_super:=He.free_ok X G (c.fact 20 (f:=.free "super") rfl);have el:=hfa.symm.trans (He.glo_ok X G (c.fact 51 (f:=.glo "law") rfl));cases el
 have bl:=FunD.bindsA (ps:=["_law_script"]) F_law λ_ _ _ _ _ _ us hl=>match us,hl with | [_],_=>rfl
 refine⟨fd_law,λs v=>bl s [v] rfl,λbase _ _=>?_⟩;have er_InvalidText:ErrAt P w K mg base (cmq K w) 1 "InvalidText" "value" [[]]:=zni (d:=jt) 0 X G ce cs3 hmf htop n_super;have er_InvalidList:ErrAt P w K mg base (cmq K w) 1 "InvalidList" "value" [[]]:=zni (d:=jr) 1 X G ce cs3 hmf htop n_super;have er_InvalidFunction:ErrAt P w K mg base (cmq K w) 1 "InvalidFunction" "value" [[]]:=zni (d:=wZ) 2 X G ce cs3 hmf htop n_super;have er_InvalidCall:ErrAt P w K mg base (cmq K w) 1 "InvalidCall" "value" [[]]:=zni (d:=jo) 3 X G ce cs3 hmf htop n_super;have er_InvalidProgram:ErrAt P w K mg base (cmq K w) 1 "InvalidProgram" "value" [[]]:=zni (d:=vG) 4 X G ce cs3 hmf htop n_super;have c_d_law_purse:=fnA F_law_purse X G c 21 (zaq (P:=P) (w:=w) (base:=base) (cm:=(cmq K w)) n_sum n_max F_law_purse);have c_d_law_mixed:=fnA F_law_mixed X G c 22 (zao (P:=P) (w:=w) (base:=base) (cm:=(cmq K w))  F_law_mixed);have c_d_law_draw:=fnA F_law_draw X G c 23 (zbx n_range c_d_law_mixed F_law_draw);have c_d_law_arcs_drawn:=fnA F_law_arcs_drawn X G c 24 (vL n_range c_d_law_draw F_law_arcs_drawn);have c_d_law_table:=fnA F_law_table X G c 25 (zas (P:=P) (w:=w) (base:=base) (cm:=(cmq K w)) n_sorted n_tuple F_law_table);have c_d_law_joined:=fnA F_law_joined X G c 26 (jQ (P:=P) (w:=w) (base:=base) (cm:=(cmq K w)) n_sorted n_tuple F_law_joined);have c_d_law_few_tables:=fnA F_law_few_tables X G c 27 (vM c_d_law_table n_list hw n_len c_d_law_joined F_law_few_tables);have c_d_law_parts:=fnA F_law_parts X G c 28 (zap n_range c_d_law_draw n_len c_d_law_arcs_drawn c_d_law_few_tables F_law_parts);have c_d_law_renamed:=fnA F_law_renamed X G c 29 (jy c_d_law_draw n_len n_dict n_set F_law_renamed);have c_d_law_arc_tokens:=fnA F_law_arc_tokens X G c 30 (vK (P:=P) (w:=w) (base:=base) (cm:=(cmq K w)) n_str n_int F_law_arc_tokens);have c_d_law_statements:=fnA F_law_statements X G c 31 (vN c_d_law_draw n_len n_str c_d_law_arc_tokens F_law_statements);have c_d_law_rowed:=fnA F_law_rowed X G c 32 (zar (P:=P) (w:=w) (base:=base) (cm:=(cmq K w))  F_law_rowed);have c_d_law_spaced:=fnA F_law_spaced X G c 33 (jR c_d_law_draw n_int F_law_spaced);have c_d_kind_of:=fnA F_kind_of X G c 34 (zcb (P:=P) (w:=w) (base:=base) (cm:=(cmq K w)) g_SIGNS g_BLANKS g_DIGITS g_LETTERS F_kind_of);have c_d_tokens_of:=fnA F_tokens_of X G c 35 (zat c_d_kind_of F_tokens_of);have c_d_parts_of:=fnA F_parts_of X G c 36 (zby (P:=P) (w:=w) (base:=base) (cm:=(cmq K w))  F_parts_of);have c_d_is_word:=fnA F_is_word X G c 37 (zca (P:=P) (w:=w) (base:=base) (cm:=(cmq K w)) g_LETTERS F_is_word);have c_d_is_number:=fnA F_is_number X G c 38 (zan (P:=P) (w:=w) (base:=base) (cm:=(cmq K w)) n_len g_DIGITS g_MOST_DIGITS F_is_number);have c_d_arcs_in:=fnA F_arcs_in X G c 39 (zbX n_len n_int c_d_parts_of c_d_is_number F_arcs_in);have c_d_statement_in:=fnA F_statement_in X G c 40 (uP n_len n_int c_d_is_number c_d_is_word c_d_arcs_in F_statement_in);have c_d_check_list:=fnA F_check_list X G c 41 (jP n_list n_isinstance er_InvalidList F_check_list);have c_d_is_name:=fnA F_is_name X G c 42 (zbZ (P:=P) (w:=w) (base:=base) (cm:=(cmq K w)) n_len n_str g_LETTERS n_isinstance g_MOST_LETTERS F_is_name);have c_d_is_whole:=fnA F_is_whole X G c 43 (zbw (P:=P) (w:=w) (base:=base) (cm:=(cmq K w)) n_int n_isinstance n_bool F_is_whole);have c_d_is_function:=fnA F_is_function X G c 44 (jx n_tuple n_len n_isinstance c_d_is_name c_d_is_whole g_MOST_MEASURES F_is_function);have c_d_is_arc:=fnA F_is_arc X G c 45 (zdv n_tuple n_len n_isinstance n_bool c_d_is_whole F_is_arc);have c_d_is_call:=fnA F_is_call X G c 46 (zbY n_tuple n_list n_len n_isinstance c_d_is_name c_d_is_arc F_is_call);have o_d_Program_init:=zbu (P:=P) (w:=w) (mg:=mg) (base:=base) (cm:=(cmq K w)) n_tuple c_d_check_list c_d_is_function er_InvalidFunction c_d_is_call er_InvalidCall nf_many nf_known F_Program_init;have k_d_Program_init:MkAt P w K mg base (cmq K w) 4 "Program" d_Program_init [[]]:=zpU xo X G (zaQ (by decide)) o_d_Program_init (all_cons (uY F_Program_init λ_ _ _ _ _ _ us hl=>match us,hl with | [_,_,_],_=>rfl) all_nil) (by decide);have c_d_read_program:=fnA F_read_program X G c 47 (uO n_len n_str c_d_parts_of n_isinstance c_d_tokens_of er_InvalidText c_d_statement_in k_d_Program_init ct_CallsError F_read_program);have o_d_Program_functions:=ji (P:=P) (w:=w) (mg:=mg) (base:=base) (cm:=(cmq K w)) n_list nf_many F_Program_functions;have m_d_Program_functions:MtAt P w K mg base (cmq K w) 1 "Program" "functions" d_Program_functions [[]]:=zlG xo (zaQ (by decide)) o_d_Program_functions (all_cons (uY F_Program_functions λ_ _ _ _ _ _ us hl=>match us,hl with | [_],_=>rfl) all_nil) (by decide) (by decide);have o_d_Program_calls:=zaz (P:=P) (w:=w) (mg:=mg) (base:=base) (cm:=(cmq K w)) n_list nf_known F_Program_calls;have m_d_Program_calls:MtAt P w K mg base (cmq K w) 1 "Program" "calls" d_Program_calls [[]]:=zlG xo (zaQ (by decide)) o_d_Program_calls (all_cons (uY F_Program_calls λ_ _ _ _ _ _ us hl=>match us,hl with | [_],_=>rfl) all_nil) (by decide) (by decide);have c_d_check_program:=fnA F_check_program X G c 48 (uA n_isinstance i_Program er_InvalidProgram F_check_program);have c_d_arc_text:=fnA F_arc_text X G c 49 (zbv (P:=P) (w:=w) (base:=base) (cm:=(cmq K w)) n_str n_int F_arc_text);have c_d_text_of:=fnA F_text_of X G c 50 (zcc n_str nf_many nf_known c_d_check_program c_d_arc_text F_text_of);have o_d_Program_eq:=zcA (P:=P) (w:=w) (mg:=mg) (base:=base) (cm:=(cmq K w)) n_list n_isinstance nf_many nf_known i_Program F_Program_eq;have m_d_Program_eq:MtAt P w K mg base (cmq K w) 1 "Program" "__eq__" d_Program_eq [[]]:=zlG xo (zaQ (by decide)) o_d_Program_eq (all_cons (uY F_Program_eq λ_ _ _ _ _ _ us hl=>match us,hl with | [_,_],_=>rfl) all_nil) (by decide) (by decide);have q_Program:EqAt P w K mg base (cmq K w) 1 "Program" d_Program_eq:=zpC xo (zaQ (by decide)) o_d_Program_eq (uY F_Program_eq λ_ _ _ _ _ _ us hl=>match us,hl with | [_,_],_=>rfl) (by decide) (by decide) (by decide);exact znJ n_range n_isinstance k_d_Program_init ct_CallsError i_Program c_d_law_purse c_d_law_parts c_d_law_renamed c_d_law_statements c_d_law_rowed c_d_law_spaced c_d_read_program m_d_Program_functions m_d_Program_calls c_d_text_of q_Program F_law
end
end Law_k81
namespace Fc
open PySem
section
variable{s:S}{σ:Env}{X:Xc}{Q:D->S->Prop}
@[simp ↓] theorem zpu{x y:D}:wE (jF y x s) Q X↔onO (zdu s x y) λo=>Q (.bl (!o.isSome)) s:=by
 with_unfolding_all
  unfold jF;rw[zoS];cases h:zdu s x y <;> simp[h]
@[simp ↓] theorem zsx:wE (mDN s) Q X↔Q (.ref s.length) (s++[.dN []]):=by
 with_unfolding_all
  exact zmC
@[simp ↓] theorem zrK{n:Nat}:wE (zga [.ref n] s) Q X↔onO (zjp s n) λkvs=>Q (.int kvs.length) s:=by
 with_unfolding_all
  unfold zga;dsimp only;cases h:zjp s n <;> simp[h]
def putN(s:S)(x y v:D):Option S:=match x with
 | .ref n=>match s[n]? with
  | some (.dN kvs)=>if kvs.length<16777216 then (nkT y).map λk=>s.set n (.dN (zcx kvs k y v))else none
  | _=>none
 | _=>none
@[simp ↓] theorem zro{o i e:E}{P:Pst}:wC (zdP o i e σ s) P↔wE (e σ s) (λv s1=>wE (o σ s1) (λx s2=>wE (i σ s2) (λy s3=>onO (putN s3 x y v) λs4=>P.nx σ s4) P.xc) P.xc) P.xc:=by
 with_unfolding_all
  unfold zdP;rw[wu]
  have key:∀(v x y:D) (s3:S),wC (match x with
    | .ref n=>match s3[n]? with
     | some (.dN kvs)=>if kvs.length<16777216 then (nkT y).map λk=>R.nx σ (s3.set n (.dN (zcx kvs k y v)))else none
     | _=>none
    | _=>none) P↔onO (putN s3 x y v) λs4=>P.nx σ s4:=by
    intro v x y s3;unfold putN
    cases x with
    | ref n =>
     dsimp only
     cases hn:s3[n]? with
     | none=>simp
     | some ob =>
      cases ob with
      | dN kvs =>
       dsimp only;by_cases hl:kvs.length<16777216
       . rw[if_pos hl,if_pos hl];cases nkT y <;> simp
       . rw[if_neg hl,if_neg hl];simp
      | _=>simp
    | _=>simp
  constructor
  . intro h;refine zr h λv s1 h=>?_;rw[wu]at h;refine zr h λx s2 h=>?_;rw[wu]at h;exact zr h λy s3 h=>(key v x y s3).mp h
  . intro h;refine zr h λv s1 h=>?_;rw[wu];refine zr h λx s2 h=>?_;rw[wu];exact zr h λy s3 h=>(key v x y s3).mpr h
@[simp ↓] theorem v_sum{n:Nat}:wE (zmI [.ref n] s) Q X↔onO (yx s n) λds=>onO (zbM ds) λns=>Q (.int ns.sum) s:=by
 with_unfolding_all
  unfold zmI;dsimp only
  cases h:yx s n with
  | none=>simp
  | some ds =>
   dsimp only;cases h2:zbM ds <;> simp[h2]
@[simp ↓] theorem zoT{i:Int}:wE (zaI [.int i] s) Q X↔onT (decide (i.natAbs.log2<1920)) (Q (.str (toString i:String)) s) False:=by
 with_unfolding_all
  unfold zaI;dsimp only;by_cases h:i.natAbs.log2<1920
  . simp[h]
  . simp[h]
def zhq(s:S)(sep:Str)(y:D):Option Str:=match y with
 | .ref n=>match yx s n with
  | some ds=>match zbH ds with
   | some ys=>if (ys.map (·.length)).sum+ys.length*sep.length<=16777216 then some (Txt.join sep ys)else none
   | none=>none
  | none=>none
 | _=>none
@[simp ↓] theorem zrJ{sep:Str}{b:E}:wE (zaw (eC (.str sep)) b σ s) Q X↔wE (b σ s) (λy s1=>onO (zhq s1 sep y) λx=>Q (.str x) s1) X:=by
 with_unfolding_all
  have key:∀(y:D) (s:S),wE (match y with
    | .ref n=>match yx s n with
     | some ds=>match zbH ds with
      | some ys=>if (ys.map (·.length)).sum+ys.length*sep.length<=16777216 then some (Res.ok (D.str (Txt.join sep ys)) s)else none
      | none=>none
     | none=>none
    | _=>none) Q X↔onO (zhq s sep y) λx=>Q (.str x) s:=by
    intro y s;unfold zhq
    cases y with
    | ref n =>
     dsimp only
     cases yx s n with
     | none=>simp
     | some ds =>
      dsimp only
      cases zbH ds with
      | none=>simp
      | some ys =>
       dsimp only;by_cases h:(ys.map (·.length)).sum+ys.length*sep.length<=16777216
       . simp[h]
       . simp[h]
    | _=>simp
  show wE (bnd (b σ) _ s) Q X↔_;rw[yK];constructor
  . intro h;exact zr h λy s1 h=>(key y s1).mp h
  . intro h;exact zr h λy s1 h=>(key y s1).mpr h
@[simp ↓] theorem zrG{a:E}{lo hi:EO}:wE (zgV a lo hi σ s) Q X↔wE (a σ s) (λx s1=>wE (lo σ s1) (λl s2=>wE (hi σ s2) (λh s3=>wE (zjs x l h s3) Q X) X) X) X:=by
 with_unfolding_all
  unfold zgV;rw[yK];constructor
  . intro h;refine zr h λx s1 h=>?_;rw[yK]at h;refine zr h λl s2 h=>?_;rw[yK]at h;exact h
  . intro h;refine zr h λx s1 h=>?_;rw[yK];refine zr h λl s2 h=>?_;rw[yK];exact h
@[simp ↓] theorem zqQ{ds:List D}{lo hi:Option Int}:wE (zjs (.rol ds) lo hi s) Q X↔Q (.ref s.length) (s++[.lst (kE ds lo hi)]):=by
 with_unfolding_all
  exact zmC
theorem zhT{n:Nat}{kvs:List (List L2.Key×D)}(h:s[n]?=some (.dT kvs))(hk:zbF s (vX kvs)=true):wE (ww [.ref n] s) Q X↔Q (.ref s.length) (s++[.lst (zgr s (vX kvs))]):=by
 with_unfolding_all
  unfold ww;dsimp only;rw[h];dsimp only;rw[if_pos hk];exact zmC
end
end Fc
namespace P85
open PySem Fc P1
noncomputable section
def b_check_list:C :=
 (cIf (tNot (tE (e1 (oIs .list) (zg 0))))
 (wy "InvalidList" "value" (zg 0))
 yL)
def d_check_list:F:=yt 1 1 b_check_list
def b_is_function:C :=
 (zG (cIf (tOr (tNot (tE (e1 (oIs .tuple) (zg 0)))) (tOr (tB (e2 oNe (eN wW (za (zg 0) zj)) (eC (.int 2)))) (tNot (tE (zE d_is_name [] (za (e2 oAt (zg 0) (eC (.int 0))) zj))))))
 (zY (eC (.bl false)))
 yL)
 (zY (uH (zE d_is_whole [] (za (e2 oAt (zg 0) (eC (.int 1))) zj)) (wN oLe oLe (eC (.int 0)) (e2 oAt (zg 0) (eC (.int 1))) (eC (.int 3))))))
def d_is_function:F:=yt 1 1 b_is_function
def b_is_call:C :=
 (zG (cIf (tOr (tNot (tE (e1 (oIs .tuple) (zg 0)))) (tOr (tB (e2 oNe (eN wW (za (zg 0) zj)) (eC (.int 4)))) (tB (e2 oNe (eLc [2] (yd .seq (zaU (zg 0) pNo (jH (eC (.int 3))))) (gName 2) (tNot (tE (zE d_is_name [] (za (zg 2) zj)))) (zg 2)) (eN zQ zj)))))
 (zY (eC (.bl false)))
 yL)
 (zG (zR (zg 0) (gTup 4 (gCons (gName 2) (gCons (gName 3) (gCons (gName 4) (gCons (gName 5) gNil))))))
 (zG (cIf (tOr (tB (e2 yU (zg 3) (zg 1))) (tOr (tB (e2 yU (zg 4) (zg 1))) (tNot (tE (e1 (oIs .list) (zg 5))))))
 (zY (eC (.bl false)))
 yL)
 (zY (e2 oEq (eLc [6] (yd .seq (zg 5)) (gName 6) (tNot (tE (zE d_is_arc [] (za (zg 6) (za (e2 oAt (zg 1) (zg 3)) (za (e2 oAt (zg 1) (zg 4)) zj)))))) (zg 6)) (eN zQ zj))))))
def d_is_call:F:=yt 2 7 b_is_call
def b_Program_init:C :=
 (zG (yE (zE d_check_list [] (za (zg 1) zj)))
 (zG (zR (eN (λ_=>mDK) zj) (gName 3))
 (zG (xf (yd .seq (zg 1)) (gName 4)
 (zG (cIf (tOr (tNot (tE (zE d_is_function [] (za (zg 4) zj)))) (tB (e2 oIn (e2 oAt (zg 4) (eC (.int 0))) (zg 3))))
 (wy "InvalidFunction" "value" (zg 4))
 yL)
 (zaf (zg 3) (e2 oAt (zg 4) (eC (.int 0))) (e2 oAt (zg 4) (eC (.int 1))))))
 (zG (yE (zE d_check_list [] (za (zg 2) zj)))
 (zG (zR (eN (λ_=>mDK) zj) (gName 5))
 (zG (xf (yd .seq (zg 2)) (gName 6)
 (zG (cIf (tOr (tNot (tE (zE d_is_call [] (za (zg 6) (za (zg 3) zj))))) (tB (e2 oIn (e2 oAt (zg 6) (eC (.int 0))) (zg 5))))
 (wy "InvalidCall" "value" (zg 6))
 yL)
 (zaf (zg 5) (e2 oAt (zg 6) (eC (.int 0))) (eN ye (za (e2 oAt (zg 6) (eC (.int 1))) (za (e2 oAt (zg 6) (eC (.int 2))) (za (eN fTuple (za (e2 oAt (zg 6) (eC (.int 3))) zj)) zj)))))))
 (zG (zmG "many" (zg 0) (zg 3))
 (zmG "known" (zg 0) (zg 5)))))))))
def d_Program_init:F:=yt 3 7 b_Program_init
def b_check_program:C :=
 (cIf (tNot (tE (e1 (zhQ ["Program"]) (zg 0))))
 (wy "InvalidProgram" "value" (zg 0))
 yL)
def d_check_program:F:=yt 1 1 b_check_program
def b_check_call_name:C :=
 (cIf (tOr (tNot (tE (e1 (oIs .str) (zg 1)))) (tB (e2 yU (zg 1) (e1 (zaM "known") (zg 0)))))
 (wy "UnknownName" "name" (zg 1))
 yL)
def d_check_call_name:F:=yt 2 2 b_check_call_name
end
def Ltr(x:Str):Prop:=∀ c∈x.cps.toList,97<=c/\c<123
theorem zlF:∀ i:Fin 26,(Builtin.Str.occurrences letters ⟨#[97+i.val]⟩ 0 letters.length 1).isEmpty=false:=by
 decide +kernel
theorem Ltr.occ{x:Str}(h:Ltr x):∀ c∈x.cps.toList,(Builtin.Str.occurrences letters ⟨#[c]⟩ 0 letters.length 1).isEmpty=false:=λc hc=>by
 obtain⟨h1,h2⟩:=h c hc;have:=zlF ⟨c - 97,by omega⟩;rw[show 97+(c - 97)=c by omega]at this;exact this
theorem len_app{x y:Str}:(x++y).length=x.length+y.length:=by
 show(x.cps++y.cps).size=x.cps.size+y.cps.size;simp
def hD(h:Str×Nat):D:=.tup [.str h.1,.int h.2]
theorem zbD{n i:Nat}{d:D}{r:List D}(h:(yP 0 n).drop i=d::r):d=.int i/\i<n/\r=(yP 0 n).drop (i+1):=by
 have hl:(yP 0 n).length=n:=by simp[yP]
 have hi:i<(yP 0 n).length:=by
  refine Classical.byContradiction λz=>?_;rw[pK (by omega)]at h;cases h
 rw[qG hi]at h
 injection h with h1 h2
 refine⟨?_,by omega,h2.symm⟩;rw[← h1];simp[yP]
def mvH(hs:List (Str×Nat)):List (L2.Key×D):=hs.map λh=>(.inr h.1,.int h.2)
theorem zhI:∀{hs:List (Str×Nat)}{x:Str×Nat},(hs.map (·.1)).Nodup->x∈hs->kget (mvH hs) (.inr x.1)=some (.int x.2)
 | h::hs,x,nd,hx=>by
  rw[tM,qJ]at nd
  rcases tU.mp hx with rfl | hx
  . simp[mvH,kget]
  . have ne:¬ ((Sum.inr h.1:L2.Key)=Sum.inr x.1):=λz=>by
     injection z with z
     exact nd.1 (by rw[z];exact tK.mpr ⟨x,hx,rfl⟩)
    have r:=zhI nd.2 hx;unfold kget mvH at r ⊢;rw[tM,qj];simp only[ne,decide_false];exact r
theorem vI{κ:Type}[DecidableEq κ]{kvs:List (κ×D)}{k:κ}{v:D}(h:∀ kv∈kvs,kv.1≠k):kput kvs k v=kvs++[(k,v)]:=by
 unfold kput;rw[if_neg];intro hh;obtain⟨kv,h1,h2⟩:=ph.mp hh;exact h kv h1 (of_decide_eq_true h2)
theorem zbr:∀{kvs a:List (L2.Key×D)},((a++kvs).map (·.1)).Nodup->uM a kvs=a++kvs
 | [],a,_=>by simp[uM]
 | (k,v)::kvs,a,nd=>by
  have fr:∀ kv∈a,kv.1≠k:=λkv hk z=>by
   rw[sG]at nd;exact(rK.mp nd).2.2 _ (tK.mpr ⟨kv,hk,rfl⟩) k (by simp) z
  unfold uM;rw[vI fr];have:=zbr (kvs:=kvs) (a:=a++[(k,v)]) (by simpa using nd);simpa using this
theorem wI{s:S}{n:Nat}{ds:List D}{X:Xc}{Q:D->S->Prop}(h:s[n]?=some (.lst ds))(hQ:Q .non s):wE (d_check_list [.ref n] s) Q X:=by
 unfold d_check_list;refine(yW (by rfl)).mpr ?_;unfold b_check_list;simp[zge,h];exact hQ
theorem jD{s:S}{h:Str×Nat}{X:Xc}{Q:D->S->Prop}(hx:NameOk h.1)(hk:h.2<4)(hQ:∀ s',Pf s s'->Q (.bl true) s'):wE (d_is_function [hD h] s) Q X:=by
 unfold d_is_function;refine(yW (by rfl)).mpr ?_;unfold b_is_function;simp[hD,yN];refine zad hx λs1 p1=>?_;simp;refine zcR ?_;have e:decide ((h.2:Int)<=3)=true:=decide_eq_true (by omega);simp[e];exact hQ _ p1
theorem zcj{s:S}{a:Arc}{p q:Nat}{X:Xc}{Q:D->S->Prop}(h1:a.1<p)(h2:a.2.1<q)(hQ:Q (.bl true) s):wE (d_is_arc [aD a,.int p,.int q] s) Q X:=by
 unfold d_is_arc;refine(yW (by rfl)).mpr ?_;unfold b_is_arc;simp[aD,yN];refine zcR ?_;simp;refine zcR ?_;have e1:decide ((a.1:Int)<p)=true:=decide_eq_true (by omega);have e2:decide ((a.2.1:Int)<q)=true:=decide_eq_true (by omega);simp[h1,h2];exact hQ
theorem zdt{s:S}{m:Nat}{hs:List (Str×Nat)}{x:Str×Nat}(h:s[m]?=some (.dK (mvH hs)))(nd:(hs.map (·.1)).Nodup)(hx:x∈hs):atD s (.ref m) (.str x.1)=some (.int x.2)/\isIn s (.str x.1) (.ref m)=some true:=by
 have g:=zhI nd hx;constructor
 . simp only[atD,h,unl,dget,keyOf,rA,g];rfl
 . simp only[isIn,h,unl,dget,keyOf,rA,g];rfl
structure Rw where
 nm:Str
 src:Str×Nat
 tgt:Str×Nat
 A:List Arc
 a:Nat
def rwD(r:Rw):D:=.tup [.str r.nm,.str r.src.1,.str r.tgt.1,.ref r.a]
structure RwOk(s:S)(hs:List (Str×Nat))(r:Rw):Prop where
 nm:NameOk r.nm
 src:r.src∈hs
 tgt:r.tgt∈hs
 arcs:∀ a∈r.A,a.1<r.src.2/\a.2.1<r.tgt.2
 len:r.A.length<=40
 at_:s[r.a]?=some (.lst (r.A.map aD))
theorem zgt{s:S}{r:Rw}{m:Nat}{hs:List (Str×Nat)}{X:Xc}{Q:D->S->Prop}(hm:s[m]?=some (.dK (mvH hs)))(nd:(hs.map (·.1)).Nodup)(hn:∀ h∈hs,NameOk h.1)(hr:RwOk s hs r)(hQ:∀ s',Pf s s'->Q (.bl true) s'):wE (d_is_call [rwD r,.ref m] s) Q X:=by
 unfold d_is_call;refine(yW (by rfl)).mpr ?_;unfold b_is_call;simp[rwD,yN,srcOf];have ec:kE [D.str r.nm,D.str r.src.1,D.str r.tgt.1,D.ref r.a] none (some 3)=[D.str r.nm,D.str r.src.1,D.str r.tgt.1]:=rfl;rw[ec];refine zaB (λ_=>none) (by simp) (λd hd s' pf=>?_) λs3 p3 h3=>?_
 . have:∃ x,d=.str x/\NameOk x:=by
     simp only[tU,su,or_false]at hd
     rcases hd with rfl | rfl | rfl
     . exact⟨_,rfl,hr.nm⟩
     . exact⟨_,rfl,hn _ hr.src⟩
     . exact⟨_,rfl,hn _ hr.tgt⟩
   obtain⟨x,rfl,hx⟩:=this;refine⟨_,rfl,?_⟩;simp[Fc.wipe];refine zad hx λs1 p1=>?_;simp;exact p1
 . rw[kW]at h3;have e4:eqD (s3++[O.lst []]) (.ref s.length) (.ref s3.length)=some true:=eq_nil (A:=[]) (Pf.app _ _ h3) zJ;rw[e4];have p4:Pf s (s3++[O.lst []]):=p3.trans Pf.app;obtain⟨g1,g2⟩:=zdt (p4 _ _ hm) nd hr.src;obtain⟨g3,g4⟩:=zdt (p4 _ _ hm) nd hr.tgt;have h5:=p4 _ _ hr.at_;have hl:=hr.len;simp[g2,g4,zge,h5];rw[show r.A.length=(r.A.map aD).length by simp];refine zfV (λ_=>none) h5 (by simp;omega) (λd hd s' pf=>?_) λs5 p5 h5=>?_
   . obtain⟨b,hb,rfl⟩:=tK.mp hd;have h:=hr.arcs b hb;obtain⟨g1,g2⟩:=zdt (pf _ _ (p4 _ _ hm)) nd hr.src;obtain⟨g3,g4⟩:=zdt (pf _ _ (p4 _ _ hm)) nd hr.tgt;refine⟨_,rfl,?_⟩;simp[Fc.wipe,g1,g3];refine zcj h.1 h.2 ?_;simp;exact Pf.refl
   . rw[kW]at h5;have e6:eqD (s5++[O.lst []]) (.ref (s3++[O.lst []]).length) (.ref s5.length)=some true:=eq_nil (A:=[]) (Pf.app _ _ h5) zJ;rw[e6];exact hQ _ (p4.trans (p5.trans Pf.app))
theorem jd{κ:Type}[DecidableEq κ]{kvs:List (κ×D)}{k:κ}(h:∀ kv∈kvs,kv.1≠k):kget kvs k=none:=by
 unfold kget;rw[pJ.mpr]
 . rfl
 . intro kv hk;simpa using h kv hk
theorem zcd{s0 s:S}{o:O}(h:Pf s0 s):Pf s0 (s.set s0.length o):=λn w hw=>by
 have:=zq hw;rw[zP (by omega)];exact h n w hw
def kvP(l:List Rw):List (L2.Key×D):=l.map λq=>(.inr q.nm,.tup [.str q.src.1,.str q.tgt.1,.tup (q.A.map aD)])
theorem zmn{s:S}{p F C:Nat}{hs:List (Str×Nat)}{l:List Rw}{X:Xc}{Q:D->S->Prop}(hp:s[p]?=some (.ins "Program" []))(hF:s[F]?=some (.lst (hs.map hD)))(hC:s[C]?=some (.lst (l.map rwD)))(hn:∀ h∈hs,NameOk h.1/\h.2<4)(nd:(hs.map (·.1)).Nodup)(h5:hs.length<1000)(hl:∀ q∈l,RwOk s hs q)(nl:(l.map (·.nm)).Nodup)(hL:l.length<1000)
   (hQ:∀(s':S) (m k:Nat),s.length<=s'.length->(∀ n:Nat,n≠p->∀ o,s[n]?=some o->s'[n]?=some o)->s'[p]?=some (.ins "Program" [("many",.ref m),("known",.ref k)])->s'[m]?=some (.dK (mvH hs))->s'[k]?=some (.dK (kvP l))->Q .non s'):wE (d_Program_init [.ref p,.ref F,.ref C] s) Q X:=by
 unfold d_Program_init;refine(yW (by rfl)).mpr ?_;unfold b_Program_init;simp;refine wI hF ?_;have hF1:=Pf.app (t:=[O.dK []]) _ _ hF;simp[srcOf,hF1];rw[show hs.length=(hs.map hD).length by simp]
 refine xF (n:=F) (ds:=hs.map hD) (λr σ s'=>∃(pre post:List (Str×Nat)) (t:Option D),hs=pre++post/\r=post.map hD/\Pf s s'/\s'[s.length]?=some (.dK (mvH pre))/\σ=[some (.ref p),some (.ref F),some (.ref C),some (.ref s.length),t,none,none])
   (λr σ s' ⟨_,_,_,_,_,pf,_⟩=>pf _ _ hF) ?_ ?_ _ 0 (by simp) ⟨[],hs,none,rfl,rfl,Pf.app,zJ,rfl⟩
 . rintro d r σ s' ⟨pre,post,t,e,er,pf,hm,rfl⟩
   match post,er with
   | x::post,er =>
     rw[tM,List.cons.injEq]at er;obtain⟨rfl,rfl⟩:=er;have hx:=hn x (by rw[e];simp)
     have fresh:∀ kv∈mvH pre,kv.1≠.inr x.1:=by
       intro kv hk;obtain⟨y,hy,rfl⟩:=tK.mp hk;intro h
       have h:y.1=x.1:=by injection h
       rw[e,sG]at nd;exact(rK.mp nd).2.2 _ (tK.mpr ⟨y,hy,rfl⟩) x.1 (by simp) h
     refine⟨_,rfl,?_⟩;simp;refine jD hx.1 hx.2 λs1 p1=>?_;have hm1:=p1 _ _ hm
     have i1:isIn s1 (.str x.1) (.ref s.length)=some false:=by
       simp only[isIn,hm1,unl,dget,keyOf,rA,jd fresh];rfl
     have lp:(mvH pre).length<16777216:=by
       have:hs.length=pre.length+(x::post).length:=by rw[e];simp
       simp[mvH]at *;omega
     have i2:Fc.putAt s1 (.ref s.length) (.str x.1) (.int x.2)=some (s1.set s.length (.dK (mvH (pre++[x])))):=by
       simp only[Fc.putAt,hm1,dput,if_pos lp,keyOf,rA,vI fresh];simp[mvH]
     simp[hD,i1,i2];refine⟨pre++[x],post,by simp[e],rfl,zcd (pf.trans p1),yD (zq hm1)⟩
 . rintro σ s1 ⟨pre,post,t,e,er,pf,hm,rfl⟩
   have hpost:post=[]:=by
     match post,er with
     | [],_=>rfl
   subst hpost;rw[sE]at e;subst e;have hC1:=pf _ _ hC;simp;refine wI hC1 ?_;have hC2:=Pf.app (t:=[O.dK []]) _ _ hC1;simp[srcOf,hC2];rw[show l.length=(l.map rwD).length by simp]
   refine xF (n:=C) (ds:=l.map rwD) (λr σ s'=>∃(pre post:List Rw) (t:Option D),l=pre++post/\r=post.map rwD/\Pf s1 s'/\s'[s1.length]?=some (.dK (kvP pre))/\∃ u,σ=[some (.ref p),some (.ref F),some (.ref C),some (.ref s.length),u,some (.ref s1.length),t])
     (λr σ s' ⟨_,_,_,_,_,pf',_⟩=>pf' _ _ hC1) ?_ ?_ _ 0 (by simp) ⟨[],l,none,rfl,rfl,Pf.app,zJ,_,rfl⟩
   . rintro d r σ s' ⟨pre2,post,t,e,er,pf',hk,u,rfl⟩
     match post,er with
     | q::post,er =>
       rw[tM,List.cons.injEq]at er;obtain⟨rfl,rfl⟩:=er;have hq:=hl q (by rw[e];simp)
       have hq':RwOk s' hs q:=⟨hq.nm,hq.src,hq.tgt,hq.arcs,hq.len,pf' _ _ (pf _ _ hq.at_)⟩
       have fresh:∀ kv∈kvP pre2,kv.1≠.inr q.nm:=by
        intro kv hk;obtain⟨y,hy,rfl⟩:=tK.mp hk;intro h
        have h:y.nm=q.nm:=by injection h
        rw[e,sG]at nl;exact(rK.mp nl).2.2 _ (tK.mpr ⟨y,hy,rfl⟩) q.nm (by simp) h
       refine⟨_,rfl,?_⟩;simp;refine zgt (pf' _ _ hm) nd (λh hh=>(hn h hh).1) hq' λs2 p2=>?_;have hk2:=p2 _ _ hk;have ha2:=p2 _ _ hq'.at_
       have i1:isIn s2 (.str q.nm) (.ref s1.length)=some false:=by
        simp only[isIn,hk2,unl,dget,keyOf,rA,jd fresh];rfl
       have lp:(kvP pre2).length<16777216:=by
        have:l.length=pre2.length+(q::post).length:=by rw[e];simp
        simp[kvP]at *;omega
       have i2:Fc.putAt s2 (.ref s1.length) (.str q.nm) (.tup [.str q.src.1,.str q.tgt.1,.tup (q.A.map aD)])=some (s2.set s1.length (.dK (kvP (pre2++[q])))):=by
        simp only[Fc.putAt,hk2,dput,if_pos lp,keyOf,rA,vI fresh];simp[kvP]
       simp[rwD,i1,yr ha2,i2];refine⟨pre2++[q],post,by simp[e],rfl,zcd (pf'.trans p2),yD (zq hk2)⟩
   . rintro σ s2 ⟨pre2,post,t,e,er,pf',hk,u,rfl⟩
     have hpost:post=[]:=by
       match post,er with
       | [],_=>rfl
     subst hpost;rw[sE]at e;subst e;have hp2:=pf' _ _ (pf _ _ hp);have lp2:=zq hp2;simp[zcI hp2,zcI (yD lp2),fput]
     have ne1:p≠s.length:=by have:=zq hp;omega
     have ne2:p≠s1.length:=by have:=zq (pf _ _ hp);omega
     refine hQ _ s.length s1.length ?_ ?_ ?_ ?_ ?_
     . have:=(pf.trans pf').len;simpa using this
     . intro n hn o h;rw[zP (sH hn)];exact pf' _ _ (pf _ _ h)
     . rw[yD lp2,if_neg (by decide)]
     . rw[zP ne1];exact pf' _ _ hm
     . rw[zP ne2];exact hk
end P85
namespace Fc
open PySem
def okS(x:Str):Prop:=∀ c∈x.cps.toList,c<1114112
theorem yH{x:Str}:PyData.strOk x=true↔okS x:=by
 unfold PyData.strOk okS;rw[← Array.all_toList,sO];simp
theorem yf{x:String}:okS (Str.ofString x):=by
 intro c hc;have e:(Str.ofString x).cps.toList=x.toList.map Char.toNat:=PyProof.Rows.signs_ofString x;rw[e]at hc;obtain⟨d,_,rfl⟩:=tK.mp hc;have h:=d.valid;show d.val.toNat<1114112
 rcases h with h | ⟨_,h⟩
 . have h:d.val.toNat<55296:=h;omega
 . have h:d.val.toNat<1114112:=h;exact h
theorem yg{x y:Str}(h1:okS x)(h2:okS y):okS (x++y):=by
 intro c hc
 have e:(x++y).cps.toList=x.cps.toList++y.cps.toList:=by
  show(x.cps++y.cps).toList=_;simp
 rw[e,tZ]at hc;exact hc.elim (h1 c) (h2 c)
theorem zju{sep:Str}{ts:List Str}(hs:okS sep)(h:∀ t∈ts,okS t):okS (Str.join sep ts):=by
 intro c hc
 rcases(PyProof.Rows.mem_join sep c ts).mp hc with ⟨t,ht,hc⟩ | ⟨_,hc⟩
 . exact h t ht c hc
 . exact hs c hc
structure Rp(s:S)(d:D)(t:Str):Prop where
 ex:∃ x,zpA s 60 d=some x/\x.showable=true/\sz x.shown.length=true/\x.shown=t
 ok:PyData.strOk t=true
section
variable{s:S}{d:D}
def Ti(d:D):Prop:=∃ x:PyData,(∀(s:S) (n:Nat),zpA s (n+2) d=some x)/\x.showable=true/\x.leavesShort 13=true/\x.bulk<=100/\x.canLay0=true
end
end Fc
namespace P85
open PySem Fc P1
theorem Ltr.okS{x:Str}(h:Ltr x):okS x:=λc hc=>by have:=h c hc;omega
theorem eq_self{s:S}{a b:D}{x:PyData}(h1:dat s 60 a=some x)(h2:dat s 60 b=some x)(h3:SeqAt.shaped x=true):eqD s a b=some true:=by
 rw[zbf h1 h2 h3 h3,PySem.SeqAt.eqv_refl x (rD.mp h3).1]
theorem wL{s t:S}{n:Nat}(i:Nat)(h:n=s.length+i):(s++t)[n]?=t[i]?:=by
 subst h;rw[rW (by omega)];congr 1;omega
theorem zgJ{s:S}{h:Nat}{hs:List (Str×Nat)}{z:Int}(hh:s[h]?=some (.lst (hs.map hD)))(h0:0<=z)(h1:z<hs.length):∃ x∈hs,atD s (.ref h) (.int z)=some (hD x):=by
 obtain⟨n,rfl⟩:=rQ h0
 have hn:n<hs.length:=by omega
 refine⟨hs[n],qM _,?_⟩;rw[yM hh,atI_nat,sX,rE hn];rfl
theorem vY{s:S}{n:Nat}{ds:List D}(h:s[n]?=some (.lst ds)):zbk s (.ref n)=some ds.length:=by
 simp[zbk,h]
theorem isl{s:S}{n:Nat}{ds:List D}(h:s[n]?=some (.lst ds)):uD s (.ref n)=true:=by
 simp[uD,h]
theorem RwOk.mono{s s':S}{hs:List (Str×Nat)}{r:Rw}(h:RwOk s hs r)(k:∀ o,s[r.a]?=some o->s'[r.a]?=some o):RwOk s' hs r:=⟨h.nm,h.src,h.tgt,h.arcs,h.len,k _ h.at_⟩
theorem zko{s:S}{g B:Nat}(h:Gen s g B):g<s.length:=by obtain⟨_,_,_,h,_⟩:=h;exact zq h
section
variable{s:S}{X:Xc}{Q:D->S->Prop}
theorem zci{p:Nat}{fs:List (Str×D)}(h:s[p]?=some (.ins "Program" fs))(hQ:Q .non s):wE (d_check_program [.ref p] s) Q X:=by
 unfold d_check_program;refine(yW (by rfl)).mpr ?_;unfold b_check_program
 have:(["Program"]:List Str).contains "Program"=true:=by decide +kernel
 simp[zhp h];exact hQ
end
structure PA(s:S)(p m k:Nat)(hs:List (Str×Nat))(l:List Rw):Prop where
 at_:s[p]?=some (.ins "Program" [("many",.ref m),("known",.ref k)])
 many:s[m]?=some (.dK (mvH hs))
 known:s[k]?=some (.dK (kvP l))
def noRef(d:D):Bool:=match d with
 | .ref _=>false
 | .rol _=>false
 | .stu _=>false
 | _=>true
def Te(d:D):Prop:=noRef d=true/\∃ x:PyData,(∀(s:S) (n:Nat),dat s (n+2) d=some x)/\x.canLay0=true/\x.depth<=3
theorem tes:∀{ds:List D},(∀ d∈ds,Te d)->∃ xs:List PyData,(∀(s:S) (n:Nat),dats s (n+2) ds=some xs)/\PyData.canLayAll0 xs=true/\PyData.depthAll xs<=3/\xs.length=ds.length
 | [],_=>⟨[],λs n=>yF,rfl,by decide,rfl⟩
 | d::ds,h=>by
  obtain⟨_,x,h1,h2,h3⟩:=h d (tH);obtain⟨xs,k1,k2,k3,k4⟩:=tes λd hd=>h d (tQ _ hd);refine⟨x::xs,λs n=>zL (h1 s n) (k1 s n),?_,?_,by simp[k4]⟩
  . simp only[PyData.canLayAll0,h2,k2,rJ]
  . simp only[PyData.depthAll];omega
theorem zlf{s:S}{n m:Nat}{ds:List D}(hd:∀ d∈ds,Te d)(h:s[n]?=some (.lst ds))(h2:s[m]?=some (.lst [])):eqD s (.ref n) (.ref m)=some ds.isEmpty:=by
 obtain⟨xs,h1,k2,k3,k4⟩:=tes hd;rw[zbf (x:=.list xs) (y:=.list []) (by rw[yQ h,h1 s 57];rfl) (by rw[yQ h2,yF];rfl) ?_ uV]
 . cases ds with
   | nil =>
    have:xs=[]:=pO (by simpa using k4);subst this;rfl
   | cons d ds =>
    cases xs with
    | nil=>simp at k4
    | cons x xs=>rfl
 . refine rD.mpr ⟨by simp only[PyData.canLay0,k2],decide_eq_true ?_⟩;simp only[PyData.depth];omega
section
variable{s s':S}{p m k:Nat}{hs:List (Str×Nat)}{l:List Rw}
theorem PA.pf(h:PA s p m k hs l)(f:Pf s s'):PA s' p m k hs l:=⟨f _ _ h.at_,f _ _ h.many,f _ _ h.known⟩
theorem PA.fm(h:PA s p m k hs l):zkl s (.ref p) "many"=some (.ref m):=by
 rw[zfd h.at_];rfl
theorem PA.fk(h:PA s p m k hs l):zkl s (.ref p) "known"=some (.ref k):=by
 rw[zfd h.at_];rfl
end
section
variable{s:S}{X:Xc}{Q:D->S->Prop}{d:D}
theorem zaa{m n:Nat}{a b:List D}(h1:s[m]?=some (.lst a))(h2:s[n]?=some (.lst b))(hl:a.length+b.length<=16777216):wE (yq (.ref m) (.ref n) s) Q X↔Q (.ref s.length) (s++[.lst (a++b)]):=by
 with_unfolding_all
  unfold yq;dsimp only;rw[h1,h2];dsimp only;rw[if_pos (xY hl)];exact Iff.rfl
def Vl(n1 n2:Nat)(d:D):Prop:=d=.ref n1\/d=.ref n2\/noRef d=true/\∃ t,∀ s,Rp s d t
end
theorem wk{s:S}{a b:Str}(ha:okS a)(hb:okS b):eqD s (.str a) (.str b)=some (decide (a=b)):=by
 rw[zbf yR yR (rD.mpr ⟨yH.mpr ha,by simp[PyData.depth]⟩) (rD.mpr ⟨yH.mpr hb,by simp[PyData.depth]⟩)];simp only[PyData.eqv];congr 1
section
variable{s:S}{k:Nat}
theorem zde{n:Nat}:∀ L:List Str,dats s n (L.map .str)=some (L.map .str)
 | []=>by simp
 | a::L=>zL yR (zde L)
theorem ziz:∀{L:List Str},(∀ x∈L,okS x)->PyData.canLayAll0 (L.map .str)=true/\PyData.depthAll (L.map .str)<=1
 | [],_=>by simp[PyData.canLayAll0,PyData.depthAll]
 | a::L,h=>by
  have:=ziz λx hx=>h x (tQ _ hx);simp[PyData.canLayAll0,PyData.depthAll,PyData.canLay0,PyData.depth,this,yH.mpr (h a (tH))]
theorem zlq{n:Nat}{L:List Str}{a:Str}(h:s[n]?=some (.lst (L.map .str)))(hL:∀ x∈L,okS x)(ha:okS a):isIn s (.str a) (.ref n)=some (decide (a∈L)):=by
 have k:=ziz hL;have s1:SeqAt.shaped (.str a)=true:=rD.mpr ⟨yH.mpr ha,by simp[PyData.depth]⟩;have s2:SeqAt.shaped (.list (L.map .str))=true:=rD.mpr ⟨by simp only[PyData.canLay0,k.1],decide_eq_true (by simp only[PyData.depth];omega)⟩;simp only[isIn,h,yR,zde,s1,s2,rJ,if_true];congr 1
 clear h hL k s2
 induction L with
 | nil=>simp
 | cons b L ih =>
  rw[tM,List.any_cons,ih];simp only[PyData.eqv,tU];by_cases z:a=b
  . subst z;simp
  . have z':¬ b=a:=λe=>z e.symm;simp[z,z']
end
section
variable{s:S}{X:Xc}{Q:D->S->Prop}{h:Nat}
theorem zcz{n:Nat}{ds:List D}{lo hi:Option Int}(h:s[n]?=some (.lst ds)):wE (ziQ (.ref n) lo hi s) Q X↔Q (.ref s.length) (s++[.lst (kE ds lo hi)]):=by
 with_unfolding_all
  unfold ziQ;dsimp only;rw[h];exact Iff.rfl
end
end P85
namespace PW
open PySem Fc P1 P85
noncomputable section
def b_law_purse:C :=
 (zG (zR (eN zmI (za (zgV (zg 0) (jH (zg 1)) (jH (e2 yq (zg 1) (eC (.int 1))))) zj)) (gName 2))
 (zY (eN zQ (za (e2 oMod (eN zmH (za (e2 zlK (zg 2) (e2 zjt (eC (.int 10)) (eC (.int 18)))) (za (eC (.int 0)) zj))) (e2 zjt (e2 zjt (eC (.int 10)) (eC (.int 60))) (eC (.int 10)))) (za (e2 oMod (zg 2) (eC (.int 2147483647))) (za (e2 zcV (eC (.int 1000)) (zg 1)) zj))))))
def d_law_purse:F:=yt 2 3 b_law_purse
def b_law_mixed:C :=
 (zG (zR (e2 oMod (e2 yq (e2 yq (e2 yq (e2 zcV (zg 0) (eC (.int 1103515245))) (e2 zcV (e2 zcV (eC (.int 7919)) (zg 1)) (zg 1))) (zg 1)) (eC (.int 1))) (eC (.int 2147483647))) (gName 2))
 (zG (zR (e2 oMod (e2 yq (e2 zcV (zg 2) (zg 2)) (eC (.int 69621))) (eC (.int 2147483629))) (gName 2))
 (zY (e2 oMod (e2 zcV (zg 2) (eC (.int 48271))) (eC (.int 2147483587))))))
def d_law_mixed:F:=yt 2 3 b_law_mixed
def b_law_draw:C :=
 (zG (cIf (tB (e2 oGt (e2 oAt (zg 0) (eC (.int 0))) (eC (.int 0))))
 (zG (zR (e2 oMod (e2 oAt (zg 0) (eC (.int 0))) (zg 1)) (gName 2))
 (zG (zaf (zg 0) (eC (.int 0)) (e2 oDiv (e2 oAt (zg 0) (eC (.int 0))) (zg 1)))
 (zY (zg 2))))
 yL)
 (zG (zR (eC (.int 0)) (gName 3))
 (zG (xf (xm (eC (.int 0)) (e2 yq (eC (.int 1)) (e2 oDiv (e1 zbt (zg 1)) (eC (.int 30))))) (gName 4)
 (zG (zaf (zg 0) (eC (.int 2)) (e2 yq (e2 oAt (zg 0) (eC (.int 2))) (eC (.int 1))))
 (zR (e2 yq (e2 zcV (zg 3) (eC (.int 2147483587))) (zE d_law_mixed [] (za (e2 oAt (zg 0) (eC (.int 1))) (za (e2 oAt (zg 0) (eC (.int 2))) zj)))) (gName 3))))
 (zY (e2 oMod (zg 3) (zg 1))))))
def d_law_draw:F:=yt 2 5 b_law_draw
def b_law_arcs_drawn:C :=
 (zG (zda 3 4 (za (eN zQ zj) (za (e2 yq (eC (.int 3)) (zE d_law_draw [] (za (zg 0) (za (eC (.int 3)) zj)))) zj)))
 (zG (xf (xm (eC (.int 0)) (zg 1)) (gName 5)
 (xf (xm (eC (.int 0)) (zg 2)) (gName 6)
 (zG (zR (zE d_law_draw [] (za (zg 0) (za (zg 4) zj))) (gName 7))
 (cIf (tB (e2 oLt (zg 7) (eC (.int 2))))
 (yE (eM yc (zg 3) (za (eN ye (za (zg 5) (za (zg 6) (za (e2 oEq (zg 7) (eC (.int 1))) zj)))) zj)))
 yL))))
 (zG (cIf (tAnd (tB (e2 oNe (zg 3) (eN zQ zj))) (tB (e2 oEq (zE d_law_draw [] (za (zg 0) (za (eC (.int 4)) zj))) (eC (.int 0)))))
 (yE (eM yc (zg 3) (za (eN ye (za (e2 oAt (e2 oAt (zg 3) (eC (.int 0))) (eC (.int 0))) (za (e2 oAt (e2 oAt (zg 3) (eC (.int 0))) (eC (.int 1))) (za (zax (tE (e2 oAt (e2 oAt (zg 3) (eC (.int 0))) (eC (.int 2))))) zj)))) zj)))
 yL)
 (zY (eIf (tB (e2 oEq (zE d_law_draw [] (za (zg 0) (za (eC (.int 2)) zj))) (eC (.int 0)))) (e1 zep (zg 3)) (zg 3))))))
def d_law_arcs_drawn:F:=yt 3 8 b_law_arcs_drawn
def b_law_table:C :=
 (zG (zR (eN (λ_=>mDT) zj) (gName 1))
 (zG (xf (yd .seq (e2 oAt (zg 0) (eC (.int 3)))) (gTup 3 (gCons (gName 2) (gCons (gName 3) (gCons (gName 4) gNil))))
 (zaf (zg 1) (eN ye (za (zg 2) (za (zg 3) zj))) (eOr (zaV (zg 1) (eN ye (za (zg 2) (za (zg 3) zj))) (eC (.bl false))) (zg 4))))
 (zY (eN ye (za (e2 oAt (zg 0) (eC (.int 1))) (za (e2 oAt (zg 0) (eC (.int 2))) (za (eN fTuple (za (eLc [2,3] (yd .seq (eN ww (za (zg 1) zj))) (gTup 2 (gCons (gName 2) (gCons (gName 3) gNil))) tYes (eN ye (za (zg 2) (za (zg 3) (za (e2 oAt (zg 1) (eN ye (za (zg 2) (za (zg 3) zj)))) zj))))) zj)) zj)))))))
def d_law_table:F:=yt 1 5 b_law_table
def b_law_joined:C :=
 (zG (zR (eN (λ_=>mDT) zj) (gName 2))
 (zG (xf (yd .seq (e2 oAt (zg 0) (eC (.int 2)))) (gTup 3 (gCons (gName 3) (gCons (gName 4) (gCons (gName 5) gNil))))
 (xf (yd .seq (e2 oAt (zg 1) (eC (.int 2)))) (gTup 3 (gCons (gName 6) (gCons (gName 7) (gCons (gName 8) gNil))))
 (cIf (tB (e2 oEq (zg 6) (zg 4)))
 (zaf (zg 2) (eN ye (za (zg 3) (za (zg 7) zj))) (eOr (zaV (zg 2) (eN ye (za (zg 3) (za (zg 7) zj))) (eC (.bl false))) (eOr (zg 5) (zg 8))))
 yL)))
 (zY (eN ye (za (e2 oAt (zg 0) (eC (.int 0))) (za (e2 oAt (zg 1) (eC (.int 1))) (za (eN fTuple (za (eLc [3,7] (yd .seq (eN ww (za (zg 2) zj))) (gTup 2 (gCons (gName 3) (gCons (gName 7) gNil))) tYes (eN ye (za (zg 3) (za (zg 7) (za (e2 oAt (zg 2) (eN ye (za (zg 3) (za (zg 7) zj)))) zj))))) zj)) zj)))))))
def d_law_joined:F:=yt 2 9 b_law_joined
def b_law_few_tables:C :=
 (zG (zR (eLc [3] (yd .seq (zg 0)) (gName 3) tYes (zE d_law_table [] (za (zg 3) zj))) (gName 2))
 (zG (zda 4 5 (za (eN (λ_=>mDN) zj) (za (eN zcs (za (zg 2) zj)) zj)))
 (zG (wM (tB (e2 oNe (zg 5) (eN zQ zj)))
 (zG (zR (eM zmL (zg 5) zj) (gName 6))
 (cIf (tB (e2 jF (zg 6) (zg 4)))
 (zG (zdP (zg 4) (zg 6) (eC (.bl true)))
 (zG (cIf (tB (e2 oGt (eN zga (za (zg 4) zj)) (zg 1)))
 (zY (eC (.bl false)))
 yL)
 (xf (yd .seq (zg 2)) (gName 7)
 (cIf (tB (e2 oEq (e2 oAt (zg 7) (eC (.int 0))) (e2 oAt (zg 6) (eC (.int 1)))))
 (yE (eM yc (zg 5) (za (zE d_law_joined [] (za (zg 6) (za (zg 7) zj))) zj)))
 yL))))
 yL)))
 (zY (eC (.bl true))))))
def d_law_few_tables:F:=yt 2 8 b_law_few_tables
def b_law_parts:C :=
 (zG (zda 4 5 (za (eN zQ zj) (za (eN zQ zj) zj)))
 (zG (xf (xm (eC (.int 0)) (e2 yq (eC (.int 1)) (zE d_law_draw [] (za (zg 0) (za (zg 1) zj))))) (gName 6)
 (yE (eM yc (zg 4) (za (eN ye (za (e2 oAt (eN zQ (za (eC (.str "g")) (za (eC (.str "f")) (za (eC (.str "gf")) (za (eC (.str "h")) (za (eC (.str "ff")) zj)))))) (zg 6)) (za (zE d_law_draw [] (za (zg 0) (za (e2 yq (zg 3) (eC (.int 1))) zj))) zj))) zj))))
 (zG (xf (xm (eC (.int 0)) (zE d_law_draw [] (za (zg 0) (za (e2 yq (zg 2) (eC (.int 1))) zj)))) (gName 6)
 (zG (zda 7 8 (za (e2 oAt (zg 4) (zE d_law_draw [] (za (zg 0) (za (eN wW (za (zg 4) zj)) zj)))) (za (e2 oAt (zg 4) (zE d_law_draw [] (za (zg 0) (za (eN wW (za (zg 4) zj)) zj)))) zj)))
 (zG (zR (e2 oAt (eN zQ (za (eC (.str "c")) (za (eC (.str "f")) (za (eC (.str "ca")) (za (eC (.str "g")) (za (eC (.str "b")) (za (eC (.str "ba")) (za (eC (.str "k")) (za (eC (.str "h")) (za (eC (.str "z")) (za (eC (.str "y")) zj))))))))))) (zg 6)) (gName 9))
 (yE (eM yc (zg 5) (za (eN ye (za (zg 9) (za (e2 oAt (zg 7) (eC (.int 0))) (za (e2 oAt (zg 8) (eC (.int 0))) (za (zE d_law_arcs_drawn [] (za (zg 0) (za (e2 oAt (zg 7) (eC (.int 1))) (za (e2 oAt (zg 8) (eC (.int 1))) zj)))) zj))))) zj))))))
 (zG (wM (tNot (tE (zE d_law_few_tables [] (za (zg 5) (za (eC (.int 400)) zj)))))
 (zR (zaU (zg 5) pNo (jH (e1 zay (eC (.int 1))))) (gName 5)))
 (zY (eN ye (za (zg 4) (za (zg 5) zj))))))))
def d_law_parts:F:=yt 4 10 b_law_parts
def b_arc_text:C :=
 (zY (e2 yq (e2 yq (eN zaI (za (e2 oAt (zg 0) (eC (.int 0))) zj)) (e2 oAt (eN zQ (za (eC (.str " >= ")) (za (eC (.str " > ")) zj))) (eN zdm (za (e2 oAt (zg 0) (eC (.int 2))) zj)))) (eN zaI (za (e2 oAt (zg 0) (eC (.int 1))) zj))))
def d_arc_text:F:=yt 1 1 b_arc_text
def b_text_of:C :=
 (zG (yE (zE d_check_program [] (za (zg 0) zj)))
 (zG (zR (eLc [2,3] (yd .items (e1 (zaM "many") (zg 0))) (gTup 2 (gCons (gName 2) (gCons (gName 3) gNil))) tYes (e2 yq (e2 yq (e2 yq (eC (.str "fun ")) (zg 2)) (eC (.str " "))) (eN zaI (za (zg 3) zj)))) (gName 1))
 (zG (xf (yd .items (e1 (zaM "known") (zg 0))) (gTup 2 (gCons (gName 2) (gCons (gTup 3 (gCons (gName 4) (gCons (gName 5) (gCons (gName 6) gNil)))) gNil)))
 (zG (zR (zaw (eC (.str ", ")) (eLc [8] (yd .seq (zg 6)) (gName 8) tYes (zE d_arc_text [] (za (zg 8) zj)))) (gName 7))
 (yE (eM yc (zg 1) (za (e2 yq (e2 yq (e2 yq (e2 yq (e2 yq (e2 yq (e2 yq (e2 yq (eC (.str "call ")) (zg 2)) (eC (.str " "))) (zg 4)) (eC (.str " "))) (zg 5)) (eC (.str " ["))) (zg 7)) (eC (.str "]"))) zj)))))
 (zY (zaw (eC (.str "; ")) (zg 1))))))
def d_text_of:F:=yt 1 9 b_text_of
def b_Program_calls:C :=
 (zY (eLc [1,2,3,4] (yd .items (e1 (zaM "known") (zg 0))) (gTup 2 (gCons (gName 1) (gCons (gTup 3 (gCons (gName 2) (gCons (gName 3) (gCons (gName 4) gNil)))) gNil))) tYes (eN ye (za (zg 1) (za (zg 2) (za (zg 3) (za (eN zcs (za (zg 4) zj)) zj)))))))
def d_Program_calls:F:=yt 1 5 b_Program_calls
def b_Program_functions:C :=
 (zY (e1 xW (e1 (zaM "many") (zg 0))))
def d_Program_functions:F:=yt 1 1 b_Program_functions
def b_Program_without:C :=
 (zG (yE (zE d_check_list [] (za (zg 1) zj)))
 (zG (xf (yd .seq (zg 1)) (gName 2)
 (yE (zE d_check_call_name [] (za (zg 0) (za (zg 2) zj)))))
 (zY (vD "Program" d_Program_init [] (za (uC "Program" "functions" d_Program_functions [] (zg 0) zj) (za (eLc [3] (yd .seq (uC "Program" "calls" d_Program_calls [] (zg 0) zj)) (gName 3) (tB (e2 yU (e2 oAt (zg 3) (eC (.int 0))) (zg 1))) (zg 3)) zj))))))
def d_Program_without:F:=yt 2 4 b_Program_without
end
theorem zjj{ns:List Int}{lo hi:Option Int}:kE (ns.map D.int) lo hi=(kE ns lo hi).map D.int:=by
 unfold kE;rw[tR,← List.map_drop,← List.map_take]
theorem zhm(ns:List Int):zbM (ns.map D.int)=some ns:=by
 induction ns with
 | nil=>rfl
 | cons a r ih=>simp[zbM,ih]
theorem zjP{ns:List Int}{i:Nat}{s:S}{X:Xc}{Q:D->S->Prop}(hi:i<1000000)(hQ:∀ g s',Pf s s'->Gen s' g (2 ^ 80)->s.length<=g->Q (.ref g) s'):wE (d_law_purse [.rol (ns.map .int),.int i] s) Q X:=by
 unfold d_law_purse;refine(yW (by rfl)).mpr ?_;unfold b_law_purse;simp;rw[zjj];simp[yx,zhm];generalize (kE ns (some (i:Int)) (some ((i:Int)+1))).sum=z;rw[show decide ((bits 10+1)*18<=100000)=true by decide +kernel,show decide ((bits 10+1)*60<=100000)=true by decide +kernel,show decide ((bits 1000000000000000000000000000000000000000000000000000000000000+1)*10<=100000)=true by decide +kernel,zbs (by omega) (by omega) (by omega) (by omega)];simp only[yj];refine hQ _ _ Pf.app ⟨_,_,_,wL 1 rfl,?_,?_,?_,?_,?_⟩ (by omega)
 . exact Int.emod_nonneg _ (by omega)
 . omega
 . omega
 . omega
 . omega
theorem zjN{b c:Int}{s:S}{X:Xc}{Q:D->S->Prop}(h1:0<=b)(h2:b<2147483647)(h3:0<=c)(h4:c<2 ^ 100)(hQ:∀ z,0<=z->z<2147483587->Q (.int z) s):wE (d_law_mixed [.int b,.int c] s) Q X:=by
 unfold d_law_mixed;refine(yW (by rfl)).mpr ?_;unfold b_law_mixed
 have k1:∀ x:Int,0<=x%2147483647/\x%2147483647<2147483647:=λx=>by omega
 have k2:∀ x:Int,0<=x%2147483629/\x%2147483629<2147483629:=λx=>by omega
 simp;rw[zbs (by omega) (by omega) (by omega) (by omega),zbs (by omega) (by omega) (by omega) (by omega),zbs (by omega) (by omega) (by omega) (by omega)];have a1:=k1 (b*1103515245+7919*c*c+c+1);generalize (b*1103515245+7919*c*c+c+1)%2147483647=u at *;rw[zbs (by omega) (by omega) (by omega) (by omega)];have a2:=k2 (u*u+69621);generalize (u*u+69621)%2147483629=v at *;rw[zbs (by omega) (by omega) (by omega) (by omega)];simp only[yj];exact hQ _ (by omega) (by omega)
theorem xM{g B:Nat}{b:Int}{s:S}{X:Xc}{Q:D->S->Prop}(hg:Gen s g (B+40))(h1:0<b)(h2:b<2 ^ 1000)(hQ:∀(z:Int) (o:O),0<=z->z<b->Gen (s.set g o) g B->Q (.int z) (s.set g o)):wE (d_law_draw [.ref g,.int b] s) Q X:=by
 unfold d_law_draw;refine(yW (by rfl)).mpr ?_;unfold b_law_draw;obtain⟨a0,b0,c0,e,ha,hb,hb2,hc,hB⟩:=hg;have hl:g<s.length:=(sU.mp e).1;simp[yM e];refine jU (λh=>?_) λh=>?_
 . have h:=of_decide_eq_true h;have hb':decide (bits b<8000)=true:=decide_eq_true (by have:=bits_lt (i:=b) (by omega) (by omega);omega);rw[decide_eq_true h1,hb'];simp[Fc.putAt,e,L2.ixN];refine hQ _ _ (Int.emod_nonneg _ (by omega)) (Int.emod_lt_of_pos _ h1) ⟨a0 / b,b0,c0,by rw[rF hl],Int.ediv_nonneg ha (by omega),hb,hb2,hc,by omega⟩
 . have hn:Builtin.Int.intBits b<=1000:=zpy h1 h2;generalize Builtin.Int.intBits b=nb at hn;rw[show decide (bits 30<8000)=true by decide +kernel,yj,show small (1+(nb:Int) / 30)=true by unfold small;simp;omega,yj]
   have hlen:(yP 0 (1+(nb:Int) / 30)).length<=35:=by
     simp only[yP,tR,List.length_range];omega
   generalize yP 0 (1+(nb:Int) / 30)=ds at hlen;refine xZ (λ(ds:List D) (σ:Fc.Env) (s':S)=>ds.length<=35/\∃ c z t,s'=s.set g (.lst [.int a0,.int b0,.int c])/\σ=[some (.ref g),some (.int b),none,some (.int z),t]/\0<=c/\c+ds.length+B<=2 ^ 90/\0<=z/\z<2 ^ (32*(40 - ds.length))) ds ⟨hlen,c0,0,none,?_,rfl,hc,by omega,by omega,?_⟩ ?_ ?_
   . exact(set_same e).symm
   . exact Int.pow_pos (by omega)
   . rintro d r σ s' ⟨hl2,c,z,t,rfl,rfl,k1,k2,k3,k4⟩;have hl3:r.length+1<=35:=hl2
     have k2:c+(r.length+1)+B<=2 ^ 90:=by simpa using k2
     refine⟨_,rfl,?_⟩
     have e2:∀ o,(s.set g o)[g]?=some o:=λo=>by rw[rF hl]
     have zb:z<2 ^ 1300:=by
      refine Int.lt_of_lt_of_le k4 ?_;exact zjz (by simp;omega)
     simp[yM (e2 _),Fc.putAt,e2,L2.ixN];rw[zbs (by omega) (by omega) (by omega) (by omega),yj];refine zjN hb hb2 (by omega) (by omega) λh h0 h3=>?_;simp;refine⟨by omega,c+1,rfl,by omega,by omega,by omega,?_⟩
     have e40:32*(40 - r.length)=32*(40 - (d::r).length)+32:=by
      simp;omega
     rw[e40,Int.pow_add];generalize (2:Int) ^ (32*(40 - (d::r).length))=P at k4;omega
   . rintro σ s' ⟨_,c,z,t,rfl,rfl,k1,k2,k3,k4⟩;simp;rw[decide_eq_true h1,yj];exact hQ _ _ (Int.emod_nonneg _ (by omega)) (Int.emod_lt_of_pos _ h1) ⟨a0,b0,c,by rw[rF hl],ha,hb,hb2,k1,by simpa using k2⟩
theorem zmu{s0 s:S}{g p q B L:Nat}{rich:Int}{s':S}{A:List Arc}{i j:Nat}{P:Pst}{e:Fc.Env}{t:Option D}(hL:g<s.length)(hd:0<rich)(hd2:rich<2 ^ 1000)(h:Drw s g p q s' A (B+80))(hi:i<p)(hj:j<q)(hA:A.length<16777216)
    (e1:e=[some (.ref g),some (.int p),some (.int q),some (.ref s.length),some (.int rich),some (.int i),some (.int j),t])
    (hP:∀ s2 A2 t,Drw s g p q s2 A2 B->A2.length<=A.length+1->P.nx [some (.ref g),some (.int p),some (.int q),some (.ref s.length),some (.int rich),some (.int i),some (.int j),t] s2) :
    wC (zG (zR (zE d_law_draw [] (za (zg 0) (za (zg 4) zj))) (gName 7))
 (cIf (tB (e2 oLt (zg 7) (eC (.int 2))))
 (yE (eM yc (zg 3) (za (eN ye (za (zg 5) (za (zg 6) (za (e2 oEq (zg 7) (eC (.int 1))) zj)))) zj)))
 yL) e s') P:=by
  subst e1;simp;refine xM (B:=B+40) (h.gen.mono (by omega)) hd hd2 λz o z0 z1 k=>?_;have h2:=h.draw hL k;simp;refine jU (λ_=>?_) λ_=>?_
  . simp[uD,h2.at_,yN,yr h2.at_,hA];exact hP _ _ _ ((h2.put hL (a:=(i,j,z == 1)) ⟨hi,hj⟩).mono (by omega)) (by simp)
  . exact hP _ _ _ (h2.mono (by omega)) (by omega)
theorem zcM{s:S}{g p q B:Nat}{X:Xc}{Q:D->S->Prop}(hgen:Gen s g (B+1300))(hp:p<=3)(hq:q<=3)
   (hQ:∀(n:Nat) (s':S) (A:List Arc),Fr g s s'->Gen s' g B->s'[n]?=some (.lst (A.map aD))->(∀ a∈A,a.1<p/\a.2.1<q)->A.length<=10->s.length<=n->Q (.ref n) s'):wE (d_law_arcs_drawn [.ref g,.int p,.int q] s) Q X:=by
 unfold d_law_arcs_drawn;refine(yW (by rfl)).mpr ?_;unfold b_law_arcs_drawn;have hg:g<s.length:=zko hgen
 have sm:∀ n:Nat,n<=3->small (n:Int)=true:=λn h=>by unfold small;simp;omega
 have start:Drw s g p q (s++[.lst []]) [] (B+1300):=⟨by simp,Pf.app.fr,Pf.app.gen hgen,by simp⟩
 simp[sm p hp];refine xM (B:=B+1260) (start.gen.mono (by omega)) (by omega) (by omega) λrich o r0 r1 k=>?_;have start:=start.draw hg k;generalize (s++[O.lst []]).set g o=s1 at *;simp[sm p hp]
 have rng:∀ n:Nat,n<=3->(yP 0 (n:Int)).length<=3/\∀ d∈yP 0 (n:Int),∃ i:Nat,d=.int i/\i<n:=λn h=>by
   refine⟨by simp[yP];omega,λd hd=>?_⟩;simp only[yP,tK,List.mem_range]at hd;obtain⟨i,h1,rfl⟩:=hd;exact⟨i,by simp,by omega⟩
 have hr0:0<3+rich:=by omega
 have hr1:3+rich<2 ^ 1000:=by omega
 generalize 3+rich=ri at *;refine xZ (λ(ds:List D) (σ:Fc.Env) (s':S)=>ds.length<=3/\(∀ d∈ds,∃ i:Nat,d=.int i/\i<p)/\∃ A t u v,Drw s g p q s' A (B+200+300*ds.length)/\A.length+3*ds.length<=9/\σ=[some (.ref g),some (.int p),some (.int q),some (.ref s.length),some (.int ri),t,u,v]) _ ⟨(rng p hp).1,(rng p hp).2,[],none,none,none,start.mono (by have:=(rng p hp).1;omega),by have:=(rng p hp).1;simp;omega,rfl⟩ ?_ ?_
 . rintro d r σ s' ⟨l1,hm,A,t,u,v,h,hl,rfl⟩;obtain⟨i,rfl,hi⟩:=hm _ (tH);have l1':r.length+1<=3:=l1;have h:Drw s g p q s' A (B+200+300*(r.length+1)):=h;have hl:A.length+3*(r.length+1)<=9:=hl;refine⟨_,rfl,?_⟩;simp[sm q hq];refine xZ (λ(ds:List D) (σ:Fc.Env) (s':S)=>ds.length<=3/\(∀ d∈ds,∃ i:Nat,d=.int i/\i<q)/\∃ A u v,Drw s g p q s' A (B+200+300*r.length+80*ds.length)/\A.length+3*r.length+ds.length<=9/\σ=[some (.ref g),some (.int p),some (.int q),some (.ref s.length),some (.int ri),some (.int i),u,v]) _ ⟨(rng q hq).1,(rng q hq).2,A,u,v,h.mono (by have:=(rng q hq).1;omega),by have:=(rng q hq).1;omega,rfl⟩ ?_ ?_
   . rintro d r' σ s' ⟨l2,hm',A,u,v,h,hl,rfl⟩;obtain⟨j,rfl,hj⟩:=hm' _ (tH);have l2':r'.length+1<=3:=l2;have h:Drw s g p q s' A (B+200+300*r.length+80*(r'.length+1)):=h;have hl:A.length+3*r.length+(r'.length+1)<=9:=hl;refine⟨_,rfl,zmu (B:=B+200+300*r.length+80*r'.length) (s0:=s) (L:=0) hg hr0 hr1 (h.mono (by omega)) hi hj (by omega) rfl λs2 A2 t2 h2 hl2=>?_⟩;exact⟨by omega,λd hd=>hm' d (tQ _ hd),A2,_,_,h2,by omega,rfl⟩
   . rintro σ s' ⟨_,_,A,u,v,h,hl,rfl⟩;exact⟨by omega,λd hd=>hm d (tQ _ hd),A,h.mono (by simp),by simpa using hl,_,_,_,rfl⟩
 . rintro σ s' ⟨_,_,A,t,u,v,h,hl,rfl⟩;have h:Drw s g p q s' A (B+200):=h
   have hl:A.length<=9:=by simpa using hl
   have fin:∀(s2:S) (A2:List Arc),Drw s g p q s2 A2 (B+40)->A2.length<=10->wC (zY (eIf (tB (e2 oEq (zE d_law_draw [] (za (zg 0) (za (eC (.int 2)) zj))) (eC (.int 0)))) (e1 zep (zg 3)) (zg 3)) [some (.ref g),some (.int p),some (.int q),some (.ref s.length),some (.int ri),t,u,v] s2) { nx:=λ_ s'=>Q .non s',rt:=Q,xc:=X }:=by
     intro s2 A2 h2 hl2;simp;refine xM (B:=B) h2.gen (by omega) (by omega) λz o z0 z1 k=>?_;have h3:=h2.draw hg k;generalize s2.set g o=s3 at *;simp[yN];have hs:=h3.fr.1;refine jU (λ_=>?_) λ_=>?_
     . simp[yr h3.at_];exact hQ _ _ A2.reverse (h3.fr.trans Pf.app.fr) (Pf.app.gen h3.gen) (by rw[zJ,List.map_reverse]) (λa ha=>h3.bd a (by simpa using ha)) (by simpa using hl2) hs
     . exact hQ _ _ A2 h3.fr h3.gen h3.at_ h3.bd hl2 (tX _)
   have h1:Drw s g p q (s'++[.lst []]) A (B+200):=⟨Pf.app _ _ h.at_,h.fr.trans Pf.app.fr,Pf.app.gen h.gen,h.bd⟩
   have en:=eq_nil (s:=s'++[.lst []]) h1.at_ (zJ (s:=s') (o:=.lst []));simp only[jT,List.getElem?_cons_succ,List.getElem?_cons_zero];rw[en]
   cases A with
   | nil =>
     simp only[List.isEmpty_nil,zB,Bool.not_true,zbz];simpa using fin _ [] (h1.mono (by omega)) (by simp)
   | cons a A =>
     simp only[List.isEmpty_cons,zB,Bool.not_false,yj];refine xM (B:=B+160) (h1.gen.mono (by omega)) (by omega) (by omega) λz o z0 z1 k=>?_;have h2:=h1.draw hg k;generalize (s'++[O.lst []]).set g o=s3 at *;simp only[yN,zB];refine jU (λ_=>?_) λ_=>?_
     . have ha:=h2.bd a (tH);have h3:=h2.put hg (a:=(a.1,a.2.1,!a.2.2)) ha
       have e0:atD s3 (.ref s.length) (.int 0)=some (aD a):=by rw[yM h2.at_];simp
       have il:uD s3 (.ref s.length)=true:=by simp[uD,h2.at_]
       rw[il,yj,e0];have f:=fin _ _ (h3.mono (by omega)) (by simp at hl ⊢;omega)
       have hl':((a::A).map aD).length<16777216:=by simp at hl ⊢;omega
       have hd:=decide_eq_true hl';simp[aD];rw[yr h2.at_];simp only[zB];rw[hd,yj];simpa[aD]using f
     . simpa using fin _ _ (h2.mono (by omega)) (by simp at hl ⊢;omega)
theorem zdr{F:Mt}{ps:List Pr}:vX (kvO F ps)=ps.map pQ:=by
 simp[vX,kvO,tW];intro a b _;simp[kD,dOf,pQ]
theorem zix{s:S}{σ:Fc.Env}{N a b n:Nat}{F:Mt}{ps:List Pr}{x0 x1:D}{e0 e1:E}{P:Pst}(hn:s[N]?=some (.dT (kvO F ps)))(hp:Pls F ps)(hσ:σ[n]?=some (some (.ref N)))(na:n≠a)(nb:n≠b)(ab:a≠b)(ha:a<σ.length)(hb:b<σ.length)
   (h0:∀ Q:D->S->Prop,Q x0 s->wE (e0 σ s) Q P.xc) (h1:∀ Q:D->S->Prop,Q x1 s->wE (e1 σ s) Q P.xc) (hP:∀ s',Pf s s'->P.rt (.tup [x0,x1,.tup ((xT F).map aD)]) s') :
   wC (zY (eN ye (za e0 (za e1 (za (eN fTuple (za (eLc [a,b] (yd .seq (eN ww (za (zg n) zj))) (gTup 2 (gCons (gName a) (gCons (gName b) gNil))) tYes (eN ye (za (zg a) (za (zg b) (za (e2 oAt (zg n) (eN ye (za (zg a) (za (zg b) zj)))) zj))))) zj)) zj)))) σ s) P:=by
 have hl:=hp.len;have hal:=ziT (M:=F);rw[znv,zst,ziH];refine h0 _ ?_;rw[ziH];refine h1 _ ?_
 have so:zbF s (vX (kvO F ps))=true:=by rw[zdr];exact zis hl
 have e5:zgr s (vX (kvO F ps))=((xT F).map a2).map pQ:=by rw[zdr,zjL,zmm hp]
 simp[hσ];rw[zhT hn so,e5];generalize hL:((xT F).map a2).map pQ=L
 have hLl:L.length<16777216:=by rw[← hL];simp;omega
 have zrD:srcOf .seq (.ref s.length) (s++[.lst L])=some (.list s.length L.length):=by simp[srcOf]
 rw[zrD];simp only[zB]
 let f:D->Option D:=λd=>match d with
   | .tup [.int i,.int j]=>some (.tup [.int i,.int j,.bl (F i.toNat j.toNat == 2)])
   | _=>none
 refine zfV (n:=s.length) (ds:=L) f zJ hLl (λd hd s' pf=>?_) λs3 p3 h3=>?_
 . rw[← hL]at hd;obtain⟨p,hp',rfl⟩:=tK.mp hd;obtain⟨a',ha',rfl⟩:=tK.mp hp';obtain⟨k1,k2,k3,k4⟩:=zaL.mp ha';have en:=pf _ _ (Pf.app (t:=[.lst L]) _ _ hn)
   have e6:atD s' (.ref N) (.tup [.int a'.1,.int a'.2.1])=some (.bl (F a'.1 a'.2.1 == 2)):=by
    have g:=zaK (F:=F) (p:=(a'.1,a'.2.1)) (ps:=ps);rw[if_pos ((hp.mem _).mpr ⟨k1,k2,k3⟩)]at g;unfold kD at g;simp[atD,en,unl,dget,keysOf,keyOf];rw[g]
   have w0:∀ x y:Option D,((((σ.set b none).set a none).set a x).set b y)[a]?=some x:=λx y=>by
    rw[sV (sH ab),rF (by simpa using ha)]
   have w1:∀ x y:Option D,((((σ.set b none).set a none).set a x).set b y)[b]?=some y:=λx y=>by
    rw[rF (by simpa using hb)]
   have w2:∀ x y:Option D,((((σ.set b none).set a none).set a x).set b y)[n]?=some (some (.ref N)):=λx y=>by
    rw[sV (sH nb),sV (sH na),sV (sH na),sV (sH nb),hσ]
   refine⟨(((σ.set b none).set a none).set a (some (.int a'.1))).set b (some (.int a'.2.1)),rfl,?_⟩;generalize hτ:(((σ.set b none).set a none).set a (some (.int a'.1))).set b (some (.int a'.2.1))=τ;have t0:=w0 (some (.int a'.1)) (some (.int a'.2.1));have t1:=w1 (some (.int a'.1)) (some (.int a'.2.1));have t2:=w2 (some (.int a'.1)) (some (.int a'.2.1));rw[hτ]at t0 t1 t2;simp[t0,t1,t2,pQ,a2];refine⟨Pf.refl,?_⟩;rw[e6];simp[f];exact Pf.refl
 . have ef:L.filterMap f=(xT F).map aD:=by
    rw[← hL,tW];refine zeb _ f aD _ λa ha=>?_;obtain⟨k1,k2,k3,k4⟩:=zaL.mp ha;simp[f,pQ,a2,aD,k4]
   rw[ef]at h3
   have h3':s3[s.length+1]?=some (.lst ((xT F).map aD)):=by rw[← h3,sY];rfl
   simp[zhU,yr h3'];exact hP _ (Pf.app.trans p3)
theorem zoH{s:S}{n:Nat}{F:Mt}{ps:List Pr}{d1:D}{i j:Nat}{f:Bool}{P:Pst}(hn:s[n]?=some (.dT (kvO F ps)))(hp:Pls F ps)(hi:i<3)(hj:j<3)(hF:Bd2 F)(hf0:∀ a b,(a,b)∉ps->F a b=0)
   (h2:∀ ps',Pls (zcX F i j (max (F i j) (1+f.toNat))) ps'->P.nx [some d1,some (.ref n),some (.int i),some (.int j),some (.bl f)] (s.set n (.dT (kvO (zcX F i j (max (F i j) (1+f.toNat))) ps')))) :
   wC (zaf (zg 1) (eN ye (za (zg 2) (za (zg 3) zj))) (eOr (zaV (zg 1) (eN ye (za (zg 2) (za (zg 3) zj))) (eC (.bl false))) (zg 4)) [some d1,some (.ref n),some (.int i),some (.int j),some (.bl f)] s) P:=by
 have hl:=hp.len
 have g:ug s (.ref n) (.tup [.int i,.int j])=some (kget (kvO F ps) (kD (i,j))):=by
   unfold ug rd;simp[hn,unl,dget,keysOf,keyOf];rfl
 have isd:isDict s (.ref n)=true:=by simp[isDict,rd,hn,unl]
 have key:∀ w:Nat,0<w->Fc.putAt s (.ref n) (.tup [.int i,.int j]) (.bl (w == 2))=some (s.set n (.dT (kvO (zcX F i j w) (if (i,j)∈ps then ps else ps++[(i,j)])))):=λw hw=>by
   unfold Fc.putAt;dsimp only;rw[hn];dsimp only
   have hlen:(kvO F ps).length<16777216:=by simp[kvO];omega
   have e:=zfn (F:=F) (p:=(i,j)) (w:=w) (ps:=ps);unfold dput;dsimp only;rw[if_pos hlen];simp[keysOf,keyOf];unfold kD at e;rw[e]
 have kgf:(kget (kvO F ps) (kD (i,j))).getD (.bl false)=.bl (F i j == 2):=by
   rw[zaK];by_cases h:(i,j)∈ps
   . rw[if_pos h];rfl
   . rw[if_neg h,hf0 i j h];rfl
 simp;rw[isd,yj,g];simp only[zB];rw[kgf];simp;have hb:=hF i j
 have fin:∀ c:Bool,c=(max (F i j) (1+f.toNat) == 2)->onO (Fc.putAt s (.ref n) (.tup [.int i,.int j]) (.bl c)) λs4=>P.nx [some d1,some (.ref n),some (.int i),some (.int j),some (.bl f)] s4:=by
   rintro c rfl;rw[key _ (by omega)];exact h2 _ (hp.put (p:=(i,j)) hi hj (by omega))
 refine jU (λhc=>?_) λhc=>?_
 . have hc:F i j=2:=by simpa using hc
   rw[hc];refine fin _ ?_;rw[hc];cases f <;> rfl
 . have hc:¬ F i j=2:=by simpa using hc
   have hv:F i j=0\/F i j=1:=by omega
   refine fin _ ?_
   rcases hv with e | e <;> rw[e] <;> cases f <;> rfl
theorem dj0:DJ (λ_ _=>0) []:=⟨⟨qH,λp=>by simp⟩,λ_ _=>by omega,λ_ _ _=>rfl⟩
def mOf(A:List Arc):Mt:=zln (λ_ _=>0) A
theorem zdC{s:S}{nm b e:Str}{a:Nat}{A:List Arc}{X:Xc}{Q:D->S->Prop}(ha:s[a]?=some (.lst (A.map aD)))(hA:In3 A)(hQ:∀ s',Pf s s'->Q (jX b e (mOf A)) s'):wE (d_law_table [.tup [.str nm,.str b,.str e,.ref a]] s) Q X:=by
 unfold d_law_table;refine(yW (by rfl)).mpr ?_;unfold b_law_table;have h1:=Pf.app (t:=[O.dT []]) _ _ ha;generalize hR:zY _=R;simp[srcOf,h1];rw[show A.length=(A.map aD).length by simp]
 refine xF (n:=a) (ds:=A.map aD) (λr σ s'=>∃(A1 A2:List Arc) (F:Mt) (ps:List Pr) (t1 t2 t3:Option D),A=A1++A2/\r=A2.map aD/\σ=[some (.tup [.str nm,.str b,.str e,.ref a]),some (.ref s.length),t1,t2,t3]/\s'=s++[.dT (kvO F ps)]/\DJ F ps/\F=mOf A1)
   (λr σ s' ⟨_,_,_,_,_,_,_,_,_,_,es,_⟩=>by subst es;exact Pf.app _ _ ha) ?_ ?_ _ 0 (by simp) ⟨[],A,_,[],none,none,none,rfl,rfl,rfl,rfl,dj0,rfl⟩
 . rintro d r σ s' ⟨A1,A2,F,ps,t1,t2,t3,ea,ed,rfl,rfl,dj,eF⟩
   match A2,ed with
   | x::A2,ed =>
    rw[tM,List.cons.injEq]at ed;obtain⟨rfl,rfl⟩:=ed;have hx:=hA x (by rw[ea];simp);refine⟨_,rfl,zoH zJ dj.pl hx.1 hx.2 dj.bd dj.out λps' k=>?_⟩;refine⟨A1++[x],A2,_,ps',_,_,_,by simp[ea],rfl,rfl,by simp,dj.put hx.1 hx.2 k,?_⟩;rw[eF];simp only[mOf,zln,qL,rP,List.foldl_nil];rfl
 . rintro σ s' ⟨A1,A2,F,ps,t1,t2,t3,ea,ed,rfl,rfl,dj,eF⟩
   have:A2=[]:=by
    match A2,ed with
    | [],_=>rfl
   subst this;rw[sE]at ea;subst ea;rw[← hR];refine zix (N:=s.length) (F:=F) (ps:=ps) (x0:=.str b) (x1:=.str e) zJ dj.pl rfl (by decide) (by decide) (by decide) (by simp) (by simp) (λQ h=>by simpa using h) (λQ h=>by simpa using h) λs2 p2=>?_;have h:=hQ s2 (Pf.app.trans p2);rw[← eF]at h;exact h
theorem zcO{s:S}{b1 e1 b2 e2:Str}{M N:Mt}{X:Xc}{Q:D->S->Prop}(hQ:∀ s',Pf s s'->Q (jX b1 e2 (zrr M N)) s'):wE (d_law_joined [jX b1 e1 M,jX b2 e2 N] s) Q X:=by
 unfold d_law_joined;refine(yW (by rfl)).mpr ?_;unfold b_law_joined;have hM:=zfh (M:=M);have hN:=zfh (M:=N);have eM:jX b1 e1 M=.tup [.str b1,.str e1,.tup ((xT M).map aD)]:=rfl;have eN':jX b2 e2 N=.tup [.str b2,.str e2,.tup ((xT N).map aD)]:=rfl;have hQ':∀ s',Pf s s'->Q (jX b1 e2 (znM (λ_ _=>0) (xT M) (xT N))) s':=hQ;generalize hdM:jX b1 e1 M=dM at *;generalize hdN:jX b2 e2 N=dN at *;generalize hA:xT M=As at *;generalize hB:xT N=Bs at *
 have at1:∀ s',atD s' dM (.int 2)=some (.tup (As.map aD)):=λs'=>by rw[eM];simp
 have at2:∀ s',atD s' dN (.int 2)=some (.tup (Bs.map aD)):=λs'=>by rw[eN'];simp
 generalize hR:zY _=R;simp;rw[at1];simp[srcOf];refine xZ (λ(ds:List D) (σ:Fc.Env) (s':S)=>∃(A1 A2:List Arc) (F:Mt) (ps:List Pr) (t1 t2 t3 t4 t5 t6:Option D),As=A1++A2/\ds=A2.map aD/\σ=[some dM,some dN,some (.ref s.length),t1,t2,t3,t4,t5,t6]/\s'=s++[.dT (kvO F ps)]/\DJ F ps/\F=znM (λ_ _=>0) A1 Bs) _ ⟨[],As,_,[],none,none,none,none,none,none,rfl,rfl,rfl,rfl,dj0,rfl⟩ ?_ ?_
 . rintro d r σ s' ⟨A1,A2,F,ps,t1,t2,t3,t4,t5,t6,ea,ed,rfl,rfl,dj,eF⟩
   cases A2 with
   | nil=>cases ed
   | cons a A2 =>
    cases ed;have ha:=hM a (by rw[ea];simp);refine⟨_,rfl,?_⟩;simp;rw[at2];simp[srcOf];refine xZ (λ(ds:List D) (σ:Fc.Env) (s':S)=>∃(B1 B2:List Arc) (F':Mt) (ps:List Pr) (t4 t5 t6:Option D),Bs=B1++B2/\ds=B2.map aD/\σ=[some dM,some dN,some (.ref s.length),some (.int a.1),some (.int a.2.1),some (.bl a.2.2),t4,t5,t6]/\s'=s++[.dT (kvO F' ps)]/\DJ F' ps/\F'=inJ F a B1) _ ⟨[],Bs,F,ps,t4,t5,t6,rfl,rfl,rfl,rfl,dj,rfl⟩ ?_ ?_
    . rintro d r' σ s' ⟨B1,B2,F',ps',t4,t5,t6,eb,ed,rfl,rfl,dj',eF'⟩
      cases B2 with
      | nil=>cases ed
      | cons b B2 =>
       cases ed;have hb:=hN b (by rw[eb];simp);refine⟨_,rfl,zmv (F:=F') (ps:=ps') zJ dj'.pl ha.1 hb.2 dj'.bd dj'.out (λh=>?_) λh ps2 k=>?_⟩
       . refine⟨B1++[b],B2,F',ps',_,_,_,by simp[eb],rfl,rfl,rfl,dj',?_⟩;rw[eF'];simp only[inJ,qL,rP,List.foldl_nil];exact(if_neg h).symm
       . refine⟨B1++[b],B2,_,ps2,_,_,_,by simp[eb],rfl,rfl,by simp,dj'.put ha.1 hb.2 k,?_⟩;rw[eF'];simp only[inJ,qL,rP,List.foldl_nil];exact(if_pos h).symm
    . rintro σ s' ⟨B1,B2,F',ps',t4,t5,t6,eb,ed,rfl,rfl,dj',eF'⟩
      cases B2 with
      | cons b B2=>cases ed
      | nil =>
       simp at eb;subst eb;refine⟨A1++[a],A2,by simp[ea],rfl,?_⟩;refine⟨⟨_,_,_,_,_,_,rfl⟩,F',ps',rfl,dj',?_⟩;rw[eF',eF];simp[znM]
 . rintro σ s' ⟨A1,A2,F,ps,t1,t2,t3,t4,t5,t6,ea,ed,rfl,rfl,dj,eF⟩
   cases A2 with
   | cons a A2=>cases ed
   | nil =>
    simp at ea;subst ea
    have g0:∀ s',atD s' dM (.int 0)=some (.str b1):=λs'=>by rw[eM];simp
    have g1:∀ s',atD s' dN (.int 1)=some (.str e2):=λs'=>by rw[eN'];simp
    rw[← hR];refine zix (N:=s.length) (F:=F) (ps:=ps) (x0:=.str b1) (x1:=.str e2) zJ dj.pl rfl (by decide) (by decide) (by decide) (by simp) (by simp) (λQ h=>by simpa[g0]using h) (λQ h=>by simpa[g1]using h) λs2 p2=>?_;have h:=hQ' s2 (Pf.app.trans p2);rw[← eF]at h;exact h
end PW
namespace Fc
open PySem
theorem zqi{s:S}{X:Xc}{Q:D->S->Prop}{n:Nat}{ds:List D}{d:D}(h:s[n]?=some (.lst (ds++[d]))):wE (zmL (.ref n) [] s) Q X↔Q d (s.set n (.lst ds)):=by
 with_unfolding_all
  unfold zmL zkw;dsimp only;rw[h];dsimp only
  have e:(ds++[d])[(ds++[d]).length - 1]?=some d:=by simp
  rw[e];simp
theorem zkx{s:S}{n:Nat}{kvs:List (D×D)}(h:s[n]?=some (.dN kvs)):zjp s n=some kvs:=by simp[zjp,h]
theorem znD{s:S}{n:Nat}{kvs:List (D×D)}{y:D}{k:NestedKey}(h:s[n]?=some (.dN kvs))(hk:nkT y=some k):zdu s (.ref n) y=some (uE kvs k):=by simp[zdu,zkx h,hk]
theorem zlY{s:S}{n:Nat}{kvs:List (D×D)}{y v:D}{k:NestedKey}(h:s[n]?=some (.dN kvs))(hk:nkT y=some k)(hl:kvs.length<16777216):putN s (.ref n) y v=some (s.set n (.dN (zcx kvs k y v))):=by simp[putN,h,hk,hl]
theorem zhs{kvs:List (D×D)}{k:NestedKey}{y v:D}(h:uE kvs k=none):zcx kvs k y v=kvs++[(y,v)]:=by
 unfold uE at h;unfold zcx;rw[if_neg];intro z;rw[Option.map_eq_none_iff,pJ]at h;rw[ph]at z;obtain⟨x,hx,hy⟩:=z;exact h x hx hy
end Fc
namespace PW
open PySem Fc P1 P85
theorem zhL:∀ A:List Arc,∃ ks,nkeys (A.map aD)=some ks/\NestedKey.depthAll ks<=1
 | []=>⟨[],rfl,by simp[NestedKey.depthAll]⟩
 | a::A=>by
  obtain⟨ks,h1,h2⟩:=zhL A;refine⟨.tup [.num a.1,.num a.2.1,.num (if a.2.2=true then 1 else 0)]::ks,?_,?_⟩
  . simp[nkeys,nkey,aD,h1]
  . simp only[NestedKey.depthAll,NestedKey.depth];omega
theorem znG(b e:Str)(M:Mt):∃ k,nkT (jX b e M)=some k:=by
 obtain⟨ks,h1,h2⟩:=zhL (xT M);refine⟨.tup [.text b,.text e,.tup ks],?_⟩;unfold nkT jX;dsimp only
 have e1:nkeys [D.str b,D.str e,D.tup ((xT M).map aD)]=some [.text b,.text e,.tup ks]:=by simp[nkeys,nkey,h1]
 rw[e1];dsimp only;rw[if_pos];simp only[NestedKey.depthAll,NestedKey.depth];omega
def TabV(d:D):Prop:=∃(b e:Str) (M:Mt),d=jX b e M/\okS b/\okS e
def zmx(b e:Str)(M:Mt):PyData:=.tuple [.str b,.str e,.tuple ((xT M).map zaD)]
theorem ziZ{s:S}{n:Nat}{b e:Str}{M:Mt}:dat s (n+3) (jX b e M)=some (zmx b e M):=by
 unfold jX;rw[wF,zL yR (zL yR (zL (x:=.tuple ((xT M).map zaD)) (xs:=[]) (by rw[wF,jc zaD (λa=>zaR a)];rfl) yF))];rfl
theorem zfO{s:S}:∀{ds:List D},(∀ d∈ds,TabV d)->∃ xs,dats s 59 ds=some xs/\PyData.canLayAll0 xs=true/\PyData.depthAll xs<=10/\xs.length=ds.length
 | [],_=>⟨[],yF,rfl,by decide,rfl⟩
 | d::ds,h=>by
  obtain⟨b,e,M,rfl,hb,he⟩:=h d (tH);obtain⟨xs,k1,k2,k3,k4⟩:=zfO λd hd=>h d (tQ _ hd);have k:=vR (xT M);refine⟨_::xs,zL ziZ k1,?_,?_,by simp[k4]⟩
  . simp only[PyData.canLayAll0,zmx,PyData.canLay0,k.1,yH.mpr hb,yH.mpr he,k2,rJ]
  . simp only[PyData.depthAll,PyData.depth,zmx];have:=k.2;omega
theorem zlg{s:S}{n m:Nat}{ds:List D}(hd:∀ d∈ds,TabV d)(h:s[n]?=some (.lst ds))(h2:s[m]?=some (.lst [])):eqD s (.ref n) (.ref m)=some ds.isEmpty:=by
 obtain⟨xs,h1,k2,k3,k4⟩:=zfO (s:=s) hd;rw[zbf (x:=.list xs) (y:=.list []) (by rw[yQ h,h1];rfl) (by rw[yQ h2,yF];rfl) ?_ uV]
 . cases ds with
   | nil =>
    have:xs=[]:=pO (by simpa using k4);subst this;rfl
   | cons d ds =>
    cases xs with
    | nil=>simp at k4
    | cons x xs=>rfl
 . refine rD.mpr ⟨by simp only[PyData.canLay0,k2],decide_eq_true ?_⟩;simp only[PyData.depth];omega
def unA(ds:List D):List Arc:=ds.filterMap λd=>match d with
 | .tup [.int i,.int j,.bl f]=>some (i.toNat,j.toNat,f)
 | _=>none
theorem zmA(A:List Arc):unA (A.map aD)=A:=by
 unfold unA
 have h:=zfe aD (λd=>match d with
  | .tup [.int i,.int j,.bl f]=>some (i.toNat,j.toNat,f)
  | _=>none) (λa=>a) (λa=>by simp[aD]) A
 rw[h,List.map_id']
def tbO(s:S)(d:D):Option D:=match d with
 | .tup [.str _,.str b,.str e,.ref a]=>match s[a]? with
  | some (.lst ds)=>some (jX b e (mOf (unA ds)))
  | _=>none
 | _=>none
def rwT(r:Rw):D:=jX r.src.1 r.tgt.1 (mOf r.A)
structure RowsOk(s:S)(hs:List (Str×Nat))(l:List Rw):Prop where
 rows:∀ r∈l,RwOk s hs r
 hn:∀ x∈hs,Ltr x.1/\x.2<4
 len:l.length<=20
theorem RowsOk.in3{s:S}{hs:List (Str×Nat)}{l:List Rw}(k:RowsOk s hs l){r:Rw}(h:r∈l):In3 r.A:=λa ha=>by
 have w:=k.rows r h;have h1:=(k.hn _ w.src).2;have h2:=(k.hn _ w.tgt).2;have:=w.arcs a ha;omega
theorem RowsOk.tbO{s:S}{hs:List (Str×Nat)}{l:List Rw}(k:RowsOk s hs l){r:Rw}(h:r∈l):tbO s (rwD r)=some (rwT r):=by
 have w:=(k.rows r h).at_;simp only[PW.tbO,rwD,w,zmA];rfl
theorem RowsOk.tabs{s:S}{hs:List (Str×Nat)}{l:List Rw}(k:RowsOk s hs l):∀ d∈l.map rwT,TabV d:=λd hd=>by
 obtain⟨r,hr,rfl⟩:=tK.mp hd;have w:=k.rows r hr;exact⟨_,_,_,rfl,(k.hn _ w.src).1.okS,(k.hn _ w.tgt).1.okS⟩
theorem zoe{s:S}{c:Nat}{hs:List (Str×Nat)}{l:List Rw}{X:Xc}{Q:D->S->Prop}(hc:s[c]?=some (.lst (l.map rwD)))(k:RowsOk s hs l)(hQ:∀(s':S) (b:Bool),Pf s s'->(l=[]->b=true)->Q (.bl b) s'):wE (d_law_few_tables [.ref c,.int 400] s) Q X:=by
 unfold d_law_few_tables;refine(yW (by rfl)).mpr ?_;unfold b_law_few_tables;have hlen:=k.len;generalize hW:wM _ _=W;simp[srcOf,hc];rw[show l.length=(l.map rwD).length by simp];refine zfV (tbO s) hc (by simp;omega) (λd hd s' pf=>?_) λs1 p1 h1=>?_
 . obtain⟨r,hr,rfl⟩:=tK.mp hd;refine⟨_,rfl,?_⟩;simp[Fc.wipe];refine⟨Pf.refl,zdC (pf _ _ (k.rows r hr).at_) (k.in3 hr) λs2 p2=>⟨p2,k.tbO hr⟩⟩
 . rw[zeb rwD (tbO s) rwT l λr hr=>k.tbO hr]at h1;have tabs:=k.tabs
   have lT:(l.map rwT).length=l.length:=by simp
   generalize l.map rwT=T at *;have a1:=Pf.app (t:=[O.dN []]) _ _ h1;rw[zjT a1];simp;have l0:=zq hc;have ls:=zq h1
   have e0:(s1++[O.dN [],O.lst T])[s1.length]?=some (.dN []):=by rw[wL (s:=s1) 0 (by omega)];rfl
   have e1:(s1++[O.dN [],O.lst T])[s1.length+1]?=some (.lst T):=by rw[wL (s:=s1) 1 (by omega)];rfl
   have e2:=Pf.app (t:=[O.dN [],O.lst T]) _ _ h1;have p2:Pf s1 (s1++[O.dN [],O.lst T]):=Pf.app;generalize s1++[O.dN [],O.lst T]=s2 at *;generalize hfo:s1.length=fo at *;rw[← hW]
   refine zcT (λn σ s'=>∃(kvs:List (D×D)) (ws:List D) (t3 t6 t7:Option D),σ=[some (.ref c),some (.int 400),some (.ref s.length),t3,some (.ref fo),some (.ref (fo+1)),t6,t7]/\s'[fo]?=some (.dN kvs)/\s'[fo+1]?=some (.lst ws)/\(∀ n:Nat,n<fo->∀ o,s1[n]?=some o->s'[n]?=some o)/\(∀ d∈ws,TabV d)/\kvs.length<=400/\ws.length<=20*(kvs.length+1)/\ws.length+(401 - kvs.length)*21<=n/\(T=[]->ws=[])) _
     ⟨[],T,none,none,none,rfl,e0,e1,λn hn o h=>p2 _ _ h,tabs,by simp,by simp;omega,tX _,λh=>h⟩ ?_
   rintro n σ s' ⟨kvs,ws,t3,t6,t7,rfl,g0,g1,gp,gt,gl,gw,gn,gT⟩;simp;have en:=zlg gt (Pf.app (t:=[O.lst []]) _ _ g1) (zJ (s:=s'));rw[en]
   rcases List.eq_nil_or_concat ws with rfl | ⟨wi,w,rfl⟩
   . simp;refine hQ _ true (λn o h=>?_) λ_=>rfl;have:=zq h;have p1n:=p1 _ _ h;exact Pf.app _ _ (gp n (by omega) o p1n)
   . rw[List.concat_eq_append]at *
     have hne:(wi++[w]).isEmpty=false:=by simp
     rw[hne];simp only[zB,Bool.not_false,if_true];obtain⟨b,e,M,rfl,hb,he⟩:=gt w (by simp);obtain⟨ky,hky⟩:=znG b e M;have gt':∀ d∈wi,TabV d:=λd hd=>gt d (by simp[hd]);have g1':=Pf.app (t:=[O.lst []]) _ _ g1;have g0':=Pf.app (t:=[O.lst []]) _ _ g0;have gp':∀ n:Nat,n<fo->∀ o,s1[n]?=some o->(s'++[O.lst []])[n]?=some o:=λn hn o h=>Pf.app _ _ (gp n hn o h);generalize s'++[O.lst []]=s3 at *
     have hn1:n=(n - 1)+1:=by simp at gn;omega
     refine⟨n - 1,hn1,?_⟩;have il:=isl g1';have l3:=zq g1';rw[il,yj,zqi g1']
     have f0:(s3.set (fo+1) (O.lst wi))[fo]?=some (.dN kvs):=by rw[zP (by omega)];exact g0'
     have f1:(s3.set (fo+1) (O.lst wi))[fo+1]?=some (.lst wi):=yD l3
     have fp:∀ n:Nat,n<fo->∀ o,s1[n]?=some o->(s3.set (fo+1) (O.lst wi))[n]?=some o:=λn hn o h=>by rw[zP (by omega)];exact gp' n hn o h
     generalize s3.set (fo+1) (O.lst wi)=s4 at *
     skip
     rw[znD f0 hky]
     cases hg:uE kvs ky with
     | some d0 =>
      simp;exact⟨kvs,f0,wi,f1,fp,gt',gl,by simp at gw;omega,by simp at gn;omega,λz=>absurd (gT z) (by simp)⟩
     | none =>
      simp;rw[zlY f0 hky (by omega),zhs hg];simp;have h0:(s4.set fo (O.dN (kvs++[(jX b e M,D.bl true)])))[fo]?=some (.dN (kvs++[(jX b e M,D.bl true)])):=yD (zq f0)
      have h1':(s4.set fo (O.dN (kvs++[(jX b e M,D.bl true)])))[fo+1]?=some (.lst wi):=by rw[zP (by omega)];exact f1
      have hp:∀ n:Nat,n<fo->∀ o,s1[n]?=some o->(s4.set fo (O.dN (kvs++[(jX b e M,D.bl true)])))[n]?=some o:=λn hn o h=>by rw[zP (by omega)];exact fp n hn o h
      generalize s4.set fo (O.dN (kvs++[(jX b e M,D.bl true)]))=s5 at *
      have hkl:(kvs++[(jX b e M,D.bl true)]).length=kvs.length+1:=by simp
      generalize kvs++[(jX b e M,D.bl true)]=kv2 at *;have hT:=hp _ ls _ h1;rw[zkx h0];simp;refine jU (λ_=>?_) λhh=>?_
      . refine hQ _ false (λn o h=>?_) λz=>?_
        . have:=zq h;exact hp n (by omega) o (p1 _ _ h)
        . subst z;have hT0:T=[]:=pO (by simpa using lT);exact absurd (gT hT0) (by simp)
      . have hh:kv2.length<=400:=by
          have:=of_decide_eq_false hh;omega
        simp[srcOf,hT]
        refine xF (n:=s.length) (ds:=T) (λr σ s'=>∃(t7:Option D) (ws:List D),σ=[some (.ref c),some (.int 400),some (.ref s.length),t3,some (.ref fo),some (.ref (fo+1)),some (jX b e M),t7]/\s'[fo]?=some (.dN kv2)/\s'[fo+1]?=some (.lst ws)/\(∀ n:Nat,n<fo->∀ o,s1[n]?=some o->s'[n]?=some o)/\(∀ d∈ws,TabV d)/\ws.length+r.length<=wi.length+T.length/\∀ d∈r,TabV d)
          (λr σ s' ⟨_,_,_,_,_,hp,_⟩=>hp _ ls _ h1) ?_ ?_ _ 0 (by simp) ⟨t7,wi,rfl,h0,h1',hp,gt',by simp,tabs⟩
        . rintro d r σ s6 ⟨t7,ws,rfl,q0,q1,qp,qt,ql,qr⟩;obtain⟨b2,e2,M2,rfl,hb2,he2⟩:=qr d (tH);refine⟨_,rfl,?_⟩;have ql:ws.length+(r.length+1)<=wi.length+T.length:=ql;have qr':∀ d∈r,TabV d:=λd hd=>qr d (tQ _ hd);simp[zqH,zqI,wk (yH.mpr hb2) (yH.mpr he)];refine jU (λ_=>?_) λ_=>?_
          . rw[isl q1,yj];refine zcO λs7 p7=>?_;have q17:=p7 _ _ q1
            have hw:ws.length<16777216:=by simp at gw;omega
            simp[yr q17,hw];refine⟨p7 _ _ q0,ws++[jX b e2 (zrr M M2)],?_,λn hn o h=>?_,?_,by simp;omega,qr'⟩
            . rw[yD (zq q17)]
            . rw[zP (by omega)];exact p7 _ _ (qp n hn o h)
            . intro d hd
              rcases tZ.mp hd with hd | hd
              . exact qt d hd
              . simp at hd;subst hd;exact⟨_,_,_,rfl,hb,he2⟩
          . exact⟨q0,ws,q1,qp,qt,by omega,qr'⟩
        . rintro σ s6 ⟨t7,ws,rfl,q0,q1,qp,qt,ql,qr⟩
          have ql:ws.length<=wi.length+T.length:=by simpa using ql
          refine⟨⟨_,_,_,rfl⟩,kv2,q0,ws,q1,qp,qt,hh,?_,?_,λz=>absurd (gT z) (by simp)⟩
          . simp at gw;omega
          . simp at gn;omega
def fnm:List Str:=["g","f","gf","h","ff"]
def cnm:List Str:=["c","f","ca","g","b","ba","k","h","z","y"]
theorem zhO:∀ x∈fnm++cnm,Ltr x/\1<=x.length/\x.length<=12:=by
 have h:∀ x∈fnm++cnm,(x.cps.toList.all λc=>decide (97<=c)&&decide (c<123))=true/\1<=x.length/\x.length<=12:=by decide +kernel
 intro x hx;obtain⟨h1,h2⟩:=h x hx;refine⟨λc hc=>?_,h2⟩;have:=sO.mp h1 c hc;simpa using this
theorem zdn:fnm.Nodup:=by decide +kernel
theorem zgM:cnm.Nodup:=by decide +kernel
theorem vJ{x:Str}(h:Ltr x/\1<=x.length/\x.length<=12):NameOk x:=⟨h.2.1,h.2.2,h.1.occ⟩
theorem zjY{s:S}{n i:Nat}{ns:List Str}(h:s[n]?=some (.lst (ns.map .str)))(hi:i<ns.length):atD s (.ref n) (.int i)=some (.str ns[i]):=by
 rw[yM h,atI_nat,sX,rE hi];rfl
structure Sd(s0:S)(g B h e:Nat)(hs:List (Str×Nat))(l:List Rw)(s':S):Prop where
 lg:g<s0.length
 lh:s0.length<=h
 le:s0.length<=e
 ne:h≠e
 hh:s'[h]?=some (.lst (hs.map hD))
 he:s'[e]?=some (.lst (l.map rwD))
 fr:Fr g s0 s'
 gen:Gen s' g B
 rows:∀ q∈l,RwOk s' hs q/\q.a≠e/\q.a≠h/\s0.length<=q.a/\q.A.length<=10
theorem Sd.go{s0 s' s2:S}{g B B' h e:Nat}{hs:List (Str×Nat)}{l:List Rw}(d:Sd s0 g B h e hs l s')(f:Fr g s' s2)(k:Gen s2 g B'):Sd s0 g B' h e hs l s2:=by
 have:=d.lg;have:=d.lh;have:=d.le;refine⟨d.lg,d.lh,d.le,d.ne,f.2 _ (by omega) _ d.hh,f.2 _ (by omega) _ d.he,d.fr.trans f,k,λq hq=>?_⟩;obtain⟨k1,k2,k3,k4,k5⟩:=d.rows q hq;exact⟨k1.mono λo e=>f.2 _ (by omega) _ e,k2,k3,k4,k5⟩
theorem Sd.pf{s0 s' s2:S}{g B h e:Nat}{hs:List (Str×Nat)}{l:List Rw}(d:Sd s0 g B h e hs l s')(f:Pf s' s2):Sd s0 g B h e hs l s2:=d.go f.fr (f.gen d.gen)
theorem Sd.mono{s0 s':S}{g B B' h e:Nat}{hs:List (Str×Nat)}{l:List Rw}(d:Sd s0 g B h e hs l s')(f:B'<=B):Sd s0 g B' h e hs l s':=d.go Fr.refl (d.gen.mono f)
theorem zbh{s:S}{g B n:Nat}{o:O}(h:Gen s g B)(hn:n≠g):Gen (s.set n o) g B:=by
 obtain⟨a,b,c,e,r⟩:=h;exact⟨a,b,c,by rw[zP hn];exact e,r⟩
theorem zkm{s0 s:S}{g n:Nat}{o:O}(h:Fr g s0 s)(hn:s0.length<=n):Fr g s0 (s.set n o):=by
 refine⟨by simpa using h.1,λm hm o' e=>?_⟩;have:=zq e;rw[zP (by omega)];exact h.2 m hm o' e
theorem Sd.put{s0 s':S}{g B h e:Nat}{hs:List (Str×Nat)}{l:List Rw}{r:Rw}(d:Sd s0 g B h e hs l s')(hr:RwOk s' hs r/\r.a≠e/\r.a≠h/\s0.length<=r.a/\r.A.length<=10):Sd s0 g B h e hs (l++[r]) (s'.set e (.lst (l.map rwD++[rwD r]))):=by
 have:=d.lg;have:=d.lh;have:=d.le;have hne:=d.ne;refine⟨d.lg,d.lh,d.le,d.ne,?_,?_,zkm d.fr d.le,zbh d.gen (by omega),λq hq=>?_⟩
 . rw[zP (sH hne)];exact d.hh
 . rw[yD (zq d.he)];simp
 . rcases tZ.mp hq with hq | hq
   . obtain⟨k1,k2⟩:=d.rows q hq;exact⟨k1.mono λo e=>by rw[zP (sH k2.1)];exact e,k2⟩
   . simp only[tU,su,or_false]at hq;subst hq;exact⟨hr.1.mono λo e=>by rw[zP (sH hr.2.1)];exact e,hr.2⟩
theorem Sd.puth{s0 s':S}{g B h e:Nat}{hs:List (Str×Nat)}{x:Str×Nat}(d:Sd s0 g B h e hs [] s'):Sd s0 g B h e (hs++[x]) [] (s'.set h (.lst (hs.map hD++[hD x]))):=by
 have:=d.lg;have:=d.lh;have:=d.le;have hne:=d.ne;refine⟨d.lg,d.lh,d.le,d.ne,?_,?_,zkm d.fr d.lh,zbh d.gen (by omega),λq hq=>by cases hq⟩
 . rw[yD (zq d.hh)];simp
 . rw[zP hne];exact d.he
structure Pt(s0:S)(g B h e most ct mt:Nat)(hs:List (Str×Nat))(l:List Rw)(s':S):Prop where
 sd:Sd s0 g B h e hs l s'
 hn:hs.map (·.1)=fnm.take hs.length
 hl:1<=hs.length/\hs.length<=most
 hk:∀ x∈hs,x.2<=mt
 ln:l.map (·.nm)=cnm.take l.length
 ll:l.length<=ct
theorem take_succ{ns:List Str}{i:Nat}(h:i<ns.length):ns.take i++[ns[i]]=ns.take (i+1):=by
 rw[List.take_succ,rE h];rfl
theorem vZ{α:Type}{ns:List α}{k:Nat}{f:β->α}{l:List β}(h:l.map f=ns.take k){x:β}(hx:x∈l):f x∈ns:=by
 have:f x∈l.map f:=tK.mpr ⟨x,hx,rfl⟩;rw[h]at this;exact qN this
theorem zcq{α:Type}{l:List α}:kE l none (some (-1))=l.dropLast:=by
 unfold kE HT.sIx;simp;rw[pG];congr 1;omega
theorem jf{s:S}{g B most ct mt:Nat}{X:Xc}{Q:D->S->Prop}(hg:Gen s g (B+40000))(h1:1<=most)(h2:most<=5)(h3:ct<=10)(h4:mt<=3)
   (hQ:∀(s':S) (h e:Nat) (hs:List (Str×Nat)) (l:List Rw),Pt s g B h e most ct mt hs l s'->Q (.tup [.ref h,.ref e]) s'):wE (d_law_parts [.ref g,.int most,.int ct,.int mt] s) Q X:=by
 unfold d_law_parts;refine(yW (by rfl)).mpr ?_;unfold b_law_parts;have lg:=zko hg;generalize hF2:xf (xm (eC (.int 0)) (zE d_law_draw [] (za (zg 0) (za (e2 yq (zg 2) (eC (.int 1))) zj)))) _ _=F2;generalize hW:wM _ _=W;generalize hR:zY _=R;simp
 have d0:Sd s g (B+40000) s.length (s.length+1) [] [] (s++[O.lst [],O.lst []]):=by
   refine⟨lg,tX _,by omega,by omega,?_,?_,Pf.app.fr,Pf.app.gen hg,λq hq=>by cases hq⟩
   . rw[wL (s:=s) 0 (by omega)];rfl
   . rw[wL (s:=s) 1 (by omega)];rfl
 generalize s++[O.lst [],O.lst []]=s1 at *;generalize hh:s.length=h at *;refine xM (B:=B+39960) (d0.gen.mono (by omega)) (by omega) (by omega) λz o p1 p2 k=>?_;have d1:=d0.go Fr.set k;generalize s1.set g o=s2 at *;obtain⟨z,rfl⟩:=rQ p1
 have hz:z<most:=by omega
 simp;rw[show small (1+(z:Int))=true by unfold small;simp;omega,yj];rw[show(1+(z:Int))=((z+1:Nat):Int) by omega]
 refine xZ (λ(r:List D) (σ:Fc.Env) (s':S)=>∃(hs:List (Str×Nat)) (t6:Option D),r=(yP 0 ((z+1:Nat):Int)).drop hs.length/\hs.length<=z+1/\σ=[some (.ref g),some (.int most),some (.int ct),some (.int mt),some (.ref h),some (.ref (h+1)),t6,none,none,none]/\Sd s g (B+30000+100*(z+1 - hs.length)) h (h+1) hs [] s'/\hs.map (·.1)=fnm.take hs.length/\∀ x∈hs,x.2<=mt)
   _ ⟨[],none,rfl,by simp,rfl,d1.mono (by simp;omega),rfl,λx hx=>by cases hx⟩ ?_ ?_
 . rintro d r σ s' ⟨hs,t6,er,hle,rfl,dd,hn,hk⟩;obtain⟨rfl,hlt,er⟩:=zbD er.symm;refine⟨_,rfl,?_⟩;have il:=isl dd.hh;simp;rw[il,yj];have pb:Pf s' (s'++[O.lst [D.str "g",D.str "f",D.str "gf",D.str "h",D.str "ff"]]):=Pf.app
   have hi:hs.length<fnm.length:=by show hs.length<5;omega
   have ha:=zjY (ns:=fnm) (zJ (s:=s') (o:=O.lst [D.str "g",D.str "f",D.str "gf",D.str "h",D.str "ff"])) hi;have dd:=dd.pf pb;generalize s'++[O.lst [D.str "g",D.str "f",D.str "gf",D.str "h",D.str "ff"]]=s3 at *;rw[ha];simp;refine xM (B:=B+30000+100*(z+1 - (hs.length+1))) (dd.gen.mono (by omega)) (by omega) (by omega) λm o q1 q2 k=>?_;have dd:=dd.go Fr.set k;generalize s3.set g o=s4 at *;obtain⟨m,rfl⟩:=rQ q1
   have hl:hs.length<16777216:=by omega
   simp[yr dd.hh,hl];refine⟨hs++[(fnm[hs.length],m)],by simp[er],by simp;omega,by have:=dd.puth (x:=(fnm[hs.length],m));simpa[hD]using this,?_,?_⟩
   . simp only[sG,tM,rY,hn,sY,sS,qm];exact take_succ hi
   . have key:∀ x∈hs++[(fnm[hs.length],m)],x.2<=mt:=by
       intro x hx
       rcases tZ.mp hx with hx | hx
       . exact hk _ hx
       . simp only[tU,su,or_false]at hx;subst hx;show m<=mt;omega
     simpa using key
 . rintro σ s' ⟨hs,t6,er,hle,rfl,dd,hn,hk⟩
   have hlen:hs.length=z+1:=by
     have hl:(yP 0 ((z+1:Nat):Int)).length=z+1:=by simp[yP]
     have:=congrArg List.length er;rw[List.length_drop,hl]at this;simp at this;omega
   have dd:=dd.mono (B':=B+30000) (by omega)
   have hnd:(hs.map (·.1)).Nodup:=by rw[hn];exact List.Pairwise.sublist (List.take_sublist ..) zdn
   have hok:∀ x∈hs,NameOk x.1:=λx hx=>vJ (zhO _ (rH _ (vZ hn hx)));rw[← hF2];simp;refine xM (B:=B+29960) (dd.gen.mono (by omega)) (by omega) (by omega) λK o q1 q2 k=>?_;have dd:=dd.go Fr.set k;generalize s'.set g o=s3 at *;obtain⟨K,rfl⟩:=rQ q1
   have hK:K<=ct:=by omega
   simp;rw[show small (K:Int)=true by unfold small;simp;omega,yj]
   refine xZ (λ(r:List D) (σ:Fc.Env) (s':S)=>∃(l:List Rw) (t6 t7 t8 t9:Option D),r=(yP 0 K).drop l.length/\l.length<=K/\σ=[some (.ref g),some (.int most),some (.int ct),some (.int mt),some (.ref h),some (.ref (h+1)),t6,t7,t8,t9]/\Sd s g (B+1500*(K - l.length)) h (h+1) hs l s'/\l.map (·.nm)=cnm.take l.length)
     _ ⟨[],t6,none,none,none,rfl,by simp,rfl,dd.mono (by simp;omega),rfl⟩ ?_ ?_
   . rintro d r σ s4 ⟨l,t6,t7,t8,t9,er,hle,rfl,d4,hl⟩;obtain⟨rfl,hlt,er⟩:=zbD er.symm;refine⟨_,rfl,?_⟩;simp[vY d4.hh];refine xM (B:=B+1500*(K - (l.length+1))+1400) (d4.gen.mono (by omega)) (by omega) (by omega) λz1 o1 u1 u2 k1=>?_;have d4:=d4.go Fr.set k1;generalize s4.set g o1=s5 at *;obtain⟨x,hx,ex⟩:=zgJ d4.hh u1 (by simpa using u2);simp[ex,vY d4.hh];refine xM (B:=B+1500*(K - (l.length+1))+1360) (d4.gen.mono (by omega)) (by omega) (by omega) λz2 o2 v1 v2 k2=>?_;have d4:=d4.go Fr.set k2;generalize s5.set g o2=s6 at *;obtain⟨y,hy,ey⟩:=zgJ d4.hh v1 (by simpa using v2);simp[ey];have pb:Pf s6 (s6++[O.lst [D.str "c",D.str "f",D.str "ca",D.str "g",D.str "b",D.str "ba",D.str "k",D.str "h",D.str "z",D.str "y"]]):=Pf.app
     have hi:l.length<cnm.length:=by show l.length<10;omega
     have ha:=zjY (ns:=cnm) (zJ (s:=s6) (o:=O.lst [D.str "c",D.str "f",D.str "ca",D.str "g",D.str "b",D.str "ba",D.str "k",D.str "h",D.str "z",D.str "y"])) hi;have d4:=d4.pf pb;generalize s6++[O.lst [D.str "c",D.str "f",D.str "ca",D.str "g",D.str "b",D.str "ba",D.str "k",D.str "h",D.str "z",D.str "y"]]=s7 at *;rw[ha];have il:=isl d4.he;have x0:∀(s:S) (x:Str×Nat),atD s (hD x) (.int 0)=some (.str x.1):=λs x=>rfl;have x1:∀(s:S) (x:Str×Nat),atD s (hD x) (.int 1)=some (.int x.2):=λs x=>rfl;simp[il,x0,x1];have hx2:=hk x hx;have hy2:=hk y hy;refine zcM (B:=B+1500*(K - (l.length+1))) (d4.gen.mono (by omega)) (by omega) (by omega) λa s8 A f8 g8 h8 b8 n8 la=>?_
     have nea:a≠h/\a≠h+1:=by
       have:=zq d4.hh;have:=zq d4.he;omega
     have l7:=d4.fr.1;have d8:=d4.go f8 g8
     have hll:l.length<16777216:=by omega
     have ho:NameOk cnm[l.length]:=vJ (zhO _ (qd _ (qM _)));have dn:=d8.put (r:=⟨cnm[l.length],x,y,A,a⟩) ⟨⟨ho,hx,hy,b8,by show A.length<=40;omega,h8⟩,nea.2,nea.1,by show s.length<=a;omega,n8⟩;simp[yr d8.he,hll];refine⟨l++[⟨cnm[l.length],x,y,A,a⟩],by simp[er],by simp;omega,?_,?_⟩
     . have lz:(l++[(⟨cnm[l.length],x,y,A,a⟩:Rw)]).length=l.length+1:=by simp
       rw[lz];simpa[rwD]using dn
     . simp only[sG,tM,rY,hl,sY,sS,qm];exact take_succ hi
   . rintro σ s4 ⟨l,t6,t7,t8,t9,er,hle,rfl,d4,hl⟩;have d4:=d4.mono (B':=B) (by omega);rw[← hW];refine zcT (λn σ s'=>∃(e:Nat) (l:List Rw),n=l.length/\σ=[some (.ref g),some (.int most),some (.int ct),some (.int mt),some (.ref h),some (.ref e),t6,t7,t8,t9]/\Sd s g B h e hs l s'/\l.map (·.nm)=cnm.take l.length/\l.length<=K) _ ⟨h+1,l,rfl,rfl,d4,hl,hle⟩ ?_;rintro n σ s5 ⟨e,l,rfl,rfl,d5,hl,hle⟩
     have ro:RowsOk s5 hs l:=⟨λr hr=>(d5.rows r hr).1,λx hx=>⟨(zhO _ (rH _ (vZ hn hx))).1,by have:=hk x hx;omega⟩,by omega⟩
     simp;refine zoe d5.he ro λs6 b p6 hb=>?_;have d6:=d5.pf p6
     cases b with
     | true =>
       simp;rw[← hR];simp;exact hQ _ _ _ hs l ⟨d6,hn,⟨by omega,by omega⟩,hk,hl,by omega⟩
     | false =>
       simp
       rcases List.eq_nil_or_concat l with rfl | ⟨li,r,rfl⟩
       . cases hb rfl
       . rw[List.concat_eq_append]at *;refine⟨li.length,by simp,?_⟩;rw[zcz d6.he]
         have cd:kE ((li++[r]).map rwD) none (some (-1))=li.map rwD:=by rw[zcq];simp
         rw[cd];have pa:Pf s6 (s6++[O.lst (li.map rwD)]):=Pf.app;have d7:=d6.pf pa;have hle6:=d6.fr.1;have h6:=zq d6.hh;refine⟨s6.length,li,rfl,rfl,⟨d7.lg,d7.lh,hle6,by omega,d7.hh,zJ,d7.fr,d7.gen,λq hq=>?_⟩,?_,by simp at hle;omega⟩
         . obtain⟨k1,k2,k3,k4,k5⟩:=d7.rows q (rH _ hq);have:=zq (d6.rows q (rH _ hq)).1.at_;exact⟨k1,by omega,k3,k4,k5⟩
         . rw[sG,sY]at hl;have:=congrArg (List.take li.length) hl;rw[List.take_append_of_le_length (by simp),List.take_of_length_le (by simp),List.take_take]at this;rw[this];congr 1;simp
def dg(n:Nat):Str:=((toString (n:Int):String):Str)
theorem wY{n:Nat}(h:n<4):(dg n).length=1:=by
 match n,h with
 | 0,_=>decide +kernel
 | 1,_=>decide +kernel
 | 2,_=>decide +kernel
 | 3,_=>decide +kernel
theorem zgS(n:Nat):okS (dg n):=yf
theorem zhx{n:Nat}(h:n<4):(n:Int).natAbs.log2<1920:=by
 have:(n:Int).natAbs=n:=by omega
 rw[this]
 match n,h with
 | 0,_=>decide
 | 1,_=>decide
 | 2,_=>decide
 | 3,_=>decide
theorem ziu{s:S}{n:Nat}{X:Xc}{Q:D->S->Prop}(h:n<4)(hQ:Q (.str (dg n)) s):wE (zaI [.int n] s) Q X:=by
 rw[zoT,decide_eq_true (zhx h),yj];exact hQ
def rel(b:Bool):Str:=if b then " > " else " >= "
def zdO(a:Arc):Str:=dg a.1++rel a.2.2++dg a.2.1
theorem zil(b:Bool):(rel b).length<=4:=by cases b <;> decide +kernel
theorem zaE{a:Arc}(h1:a.1<4)(h2:a.2.1<4):(zdO a).length<=6:=by
 unfold zdO;have:=zil a.2.2;rw[len_app,len_app,wY h1,wY h2];omega
theorem znX(b:Bool):okS (rel b):=by cases b <;> exact yf
theorem zgE(a:Arc):okS (zdO a):=yg (yg (zgS _) (znX _)) (zgS _)
theorem zmS{s:S}{n:Nat}{b:Bool}(h:s[n]?=some (.lst [.str " >= ",.str " > "])):atD s (.ref n) (.int (if b then 1 else 0))=some (.str (rel b)):=by
 rw[yM h];cases b <;> rfl
theorem zmt{s:S}{σ:Fc.Env}{i j f:E}{a:Arc}{X:Xc}{Q:D->S->Prop}(h1:a.1<4)(h2:a.2.1<4)
  (hi:∀ s' (Q:D->S->Prop),Q (.int a.1) s'->wE (i σ s') Q X) (hj:∀ s' (Q:D->S->Prop),Q (.int a.2.1) s'->wE (j σ s') Q X) (hf:∀ s' (Q:D->S->Prop),Q (.bl a.2.2) s'->wE (f σ s') Q X) (hQ:∀ s',Pf s s'->Q (.str (zdO a)) s') :
  wE (e2 yq (e2 yq (eN zaI (za i zj)) (e2 oAt (eN zQ (za (eC (.str " >= ")) (za (eC (.str " > ")) zj))) (eN zdm (za f zj)))) (eN zaI (za j zj)) σ s) Q X:=by
 simp;refine hi _ _ ?_;refine ziu h1 ?_;refine hf _ _ ?_;have g:=zJ (s:=s) (o:=O.lst [.str " >= ",.str " > "]);have p:Pf s (s++[O.lst [.str " >= ",.str " > "]]):=Pf.app;simp;have e:=zmS (b:=a.2.2) g;generalize hs:s++[O.lst [.str " >= ",.str " > "]]=s1 at *;have e2:atD s1 (.ref s.length) (.int (if a.2.2=true then 1 else 0))=some (.str (rel a.2.2)):=e;have lr:=zil a.2.2;simp[e2];rw[xY (by rw[wY h1];omega),yj];refine hj _ _ ?_;refine ziu h2 ?_;simp;rw[xY (by rw[len_app,wY h1,wY h2];omega),yj];exact hQ _ p
theorem zbG{s:S}{a:Arc}{X:Xc}{Q:D->S->Prop}(h1:a.1<4)(h2:a.2.1<4)(hQ:∀ s',Pf s s'->Q (.str (zdO a)) s'):wE (d_arc_text [aD a] s) Q X:=by
 unfold d_arc_text;refine(yW (by rfl)).mpr ?_;unfold b_arc_text;rw[znv];refine zmt h1 h2 (λs' Q h=>by simpa[aD]using h) (λs' Q h=>by simpa[aD]using h) (λs' Q h=>by simpa[aD]using h) hQ
def zgd(A:List Arc):Str:=Txt.join ", " (A.map zdO)
def vW(x:Str×Nat):Str:="fun "++x.1++" "++dg x.2
def zdo(r:Rw):Str:="call "++r.nm++" "++r.src.1++" "++r.tgt.1
def xO(r:Rw):Str:=zdo r++" ["++zgd r.A++"]"
def wr(hs:List (Str×Nat))(l:List Rw):Str:=Txt.join "; " (hs.map vW++l.map xO)
structure Wd(hs:List (Str×Nat))(l:List Rw):Prop where
 hn:∀ x∈hs,Ltr x.1/\x.1.length<=12/\x.2<4
 hl:hs.length<=40
 ln:∀ r∈l,Ltr r.nm/\r.nm.length<=12/\r.src∈hs/\r.tgt∈hs/\(∀ a∈r.A,a.1<r.src.2/\a.2.1<r.tgt.2)/\r.A.length<=40
 ll:l.length<=40
theorem Wd.arcs{hs:List (Str×Nat)}{l:List Rw}(w:Wd hs l){r:Rw}(hr:r∈l):∀ a∈r.A,a.1<4/\a.2.1<4:=λa ha=>by
 obtain⟨_,_,h1,h2,h3,_⟩:=w.ln r hr;have:=(w.hn _ h1).2.2;have:=(w.hn _ h2).2.2;have:=h3 a ha;omega
theorem jM{sep:Str}{ts:List Str}{B:Nat}(h:∀ t∈ts,t.length<=B):(Txt.join sep ts).length<=ts.length*(B+sep.length):=by
 rw[TL.join_eq];have h1:=StrLaws.join_length_le sep ts
 have h2:(ts.map (·.length)).sum<=ts.length*B:=by
  induction ts with
  | nil=>simp
  | cons t ts ih =>
   have:=ih (λt ht=>h t (tQ _ ht)) (StrLaws.join_length_le sep ts);have:=h t (tH);simp only[tM,List.sum_cons,sS,qK];omega
 rw[Nat.mul_add];omega
theorem sum_le{ts:List Str}{B:Nat}(h:∀ t∈ts,t.length<=B):(ts.map (·.length)).sum<=ts.length*B:=by
 induction ts with
 | nil=>simp
 | cons t ts ih =>
  have:=ih λt ht=>h t (tQ _ ht);have:=h t (tH);simp only[tM,List.sum_cons,sS,qK];omega
theorem zaN{sep:Str}{ts:List Str}(hs:okS sep)(h:∀ t∈ts,okS t):okS (Txt.join sep ts):=by
 rw[TL.join_eq];exact zju hs h
theorem zfi{A:List Arc}(h:∀ a∈A,a.1<4/\a.2.1<4)(hl:A.length<=40):(zgd A).length<=320:=by
 have:=jM (sep:=", ") (ts:=A.map zdO) (B:=6) λt ht=>by
  obtain⟨a,ha,rfl⟩:=tK.mp ht;exact zaE (h a ha).1 (h a ha).2
 have e:(", ":Str).length=2:=by decide +kernel
 rw[e,tR]at this;unfold zgd;omega
theorem xP:("call ":Str).length=5:=by decide +kernel
theorem vA:("fun ":Str).length=4:=by decide +kernel
theorem zbi:(" ":Str).length=1:=by decide +kernel
theorem zbO:(" [":Str).length=2:=by decide +kernel
theorem zbN:("]":Str).length=1:=by decide +kernel
theorem zrq:(", ":Str).length=2:=by decide +kernel
theorem zpm:("; ":Str).length=2:=by decide +kernel
theorem zjf{x:Str×Nat}(h:x.1.length<=12)(h2:x.2<4):(vW x).length<=400:=by
 unfold vW;rw[len_app,len_app,len_app,vA,zbi,wY h2];omega
theorem Wd.head{hs:List (Str×Nat)}{l:List Rw}(w:Wd hs l){r:Rw}(hr:r∈l):(zdo r).length<=50:=by
 obtain⟨_,h0,h1,h2,_⟩:=w.ln r hr;have:=(w.hn _ h1).2.1;have:=(w.hn _ h2).2.1;unfold zdo;rw[len_app,len_app,len_app,len_app,len_app,xP,zbi];omega
theorem Wd.call{hs:List (Str×Nat)}{l:List Rw}(w:Wd hs l){r:Rw}(hr:r∈l):(xO r).length<=400:=by
 have h1:=w.head hr;have h2:=zfi (w.arcs hr) (w.ln r hr).2.2.2.2.2;unfold xO;rw[len_app,len_app,len_app,zbO,zbN];omega
theorem Wd.ok{hs:List (Str×Nat)}{l:List Rw}(w:Wd hs l):okS (wr hs l):=by
 refine zaN yf λt ht=>?_
 rcases tZ.mp ht with ht | ht
 . obtain⟨x,hx,rfl⟩:=tK.mp ht;exact yg (yg (yg yf (w.hn x hx).1.okS) yf) (zgS _)
 . obtain⟨r,hr,rfl⟩:=tK.mp ht;obtain⟨h0,_,h1,h2,_⟩:=w.ln r hr;refine yg (yg (yg ?_ yf) (zaN yf λt ht=>?_)) yf
   . exact yg (yg (yg (yg (yg yf h0.okS) yf) (w.hn _ h1).1.okS) yf) (w.hn _ h2).1.okS
   . obtain⟨a,_,rfl⟩:=tK.mp ht;exact zgE a
theorem ziy(ts:List Str):zbH (ts.map .str)=some ts:=by
 induction ts with
 | nil=>rfl
 | cons t r ih=>simp[zbH,ih]
theorem kY{s:S}{n:Nat}{sep:Str}{ts:List Str}{B:Nat}(h:s[n]?=some (.lst (ts.map .str)))(hb:∀ t∈ts,t.length<=B)(hl:ts.length*(B+sep.length)<=16777216):zhq s sep (.ref n)=some (Txt.join sep ts):=by
 unfold zhq;dsimp only;rw[yr h];dsimp only;rw[ziy];dsimp only;rw[if_pos];have:=sum_le hb;rw[Nat.mul_add]at hl;omega
theorem Wd.zdL{hs:List (Str×Nat)}{l:List Rw}(w:Wd hs l):∀ t∈hs.map vW++l.map xO,t.length<=400:=λt ht=>by
 rcases tZ.mp ht with ht | ht
 . obtain⟨x,hx,rfl⟩:=tK.mp ht;exact zjf (w.hn x hx).2.1 (w.hn x hx).2.2
 . obtain⟨r,hr,rfl⟩:=tK.mp ht;exact w.call hr
theorem xX{c:Bool}{a b:Prop}(h:c=true)(k:a):onT c a b:=by subst h;exact k
theorem szL{n:Nat}(h:n<=16777216):sz n=true:=xY h
def zlo:D->Option D
 | .tup [.str x,.int n]=>some (.str (vW (x,n.toNat)))
 | _=>none
theorem zhe(hs:List (Str×Nat)):((mvH hs).map pairD).filterMap zlo=(hs.map vW).map .str:=by
 rw[mvH,tW,tW];refine zfe _ zlo _ (λx=>?_) hs;simp[zlo,pairD,dOf]
def zkV:D->Option D
 | .tup [.int i,.int j,.bl f]=>some (.str (zdO (i.toNat,j.toNat,f)))
 | _=>none
theorem zgF(A:List Arc):(A.map aD).filterMap zkV=(A.map zdO).map .str:=by
 rw[tW];refine zfe aD zkV _ (λx=>?_) A;simp[zkV,aD]
theorem zib{s s3 s4:S}{k:Nat}{o:O}(p:Pf s (s3.set k o))(q:Pf s3 s4)(h:s[k]?=some o)(hk:k<s3.length):Pf s (s4.set k o):=λn w e=>by
 by_cases z:n=k
 . subst z;rw[h]at e;cases e;exact yD (by have:=q.len;omega)
 . have:=p n w e;rw[zP (sH z)]at this ⊢;exact q _ _ this
theorem zia{s t:S}{a:Nat}{x:O}(p:Pf s t)(h:s.length<=a):Pf s (t.set a x):=λn w e=>by
 have:=zq e;rw[zP (by omega)];exact p n w e
section
variable{s:S}{p m k:Nat}{hs:List (Str×Nat)}{l:List Rw}{X:Xc}{Q:D->S->Prop}
theorem _root_.P85.PA.fm'(h:PA s p m k hs l):zkl s (.ref p) "many"=some (.ref m):=by rw[zfd h.at_];rfl
theorem _root_.P85.PA.fk'(h:PA s p m k hs l):zkl s (.ref p) "known"=some (.ref k):=by rw[zfd h.at_];rfl
theorem zkL{s0:S}{σ:Fc.Env}{a b:E}{x:Str×Nat}{X:Xc}{Q:D->S->Prop}(hx:x.1.length<=12/\x.2<4)(ha:∀(Q:D->S->Prop),Q (.str x.1) s0->wE (a σ s0) Q X)(hb:∀(Q:D->S->Prop),Q (.int x.2) s0->wE (b σ s0) Q X)(hQ:Q (.str (vW x)) s0) :
  wE (e2 yq (e2 yq (e2 yq (eC (.str "fun ")) a) (eC (.str " "))) (eN zaI (za b zj)) σ s0) Q X:=by
 simp;refine ha _ ?_;simp
 (try dsimp only)
 refine xX (szL (by (try simp only[len_app,xP,zbi,zbO,zbN,vA]);omega)) ?_
 (try dsimp only)
 refine xX (szL (by (try simp only[len_app,xP,zbi,zbO,zbN,vA]);omega)) ?_;refine hb _ ?_;refine ziu hx.2 ?_;simp;have hd:=wY hx.2
 (try dsimp only)
 refine xX (szL (by (try simp only[len_app,xP,zbi,zbO,zbN,vA]);omega)) ?_;exact hQ
theorem zgw(h:PA s p m k hs l)(w:Wd hs l)(hQ:∀ s',Pf s s'->Q (.str (wr hs l)) s'):wE (d_text_of [.ref p] s) Q X:=by
 unfold d_text_of;refine(yW (by rfl)).mpr ?_;unfold b_text_of;generalize hF:xf _ _ _=F2;generalize hR:zY _=R;simp;refine zci h.at_ ?_;simp[h.fm',srcOf,h.many,unl,zcU];refine jY h.many (λ_=>by simp) ?_;have lm:=zq h.many;have h40:=w.hl;have l40:=w.ll;refine zaB zlo (by simp[mvH];omega) (λd hd s1 pf=>?_) λs1 p1 h1=>?_
 . obtain⟨kv,hkv,rfl⟩:=tK.mp hd;obtain⟨x,hx,rfl⟩:=tK.mp hkv;have hw:=w.hn x hx;refine⟨_,rfl,?_⟩;rw[zkR];refine⟨Pf.refl,?_⟩;rw[if_pos rfl];refine zkL (x:=x) ⟨hw.2.1,hw.2.2⟩ (λQ h=>by simpa[Fc.wipe,dOf]using h) (λQ h=>by simpa[Fc.wipe,dOf]using h) ⟨Pf.refl,?_⟩;simp[zlo,pairD,dOf]
 . rw[zhe]at h1;have q1:Pf s (s1.set m (.dK (mvH hs))):=Pf.unlock h.many p1
   have g1:(s1.set m (.dK (mvH hs)))[s.length]?=some (.lst ((hs.map vW).map .str)):=by
     rw[zP (by omega)];rw[show s.length=(s.set m (.lck (.dK (mvH hs)))).length by simp];exact h1
   have es:(s.set m (.lck (.dK (mvH hs)))).length=s.length:=by simp
   rw[es];generalize s1.set m (.dK (mvH hs))=s2 at *
   have h2:PA s2 p m k hs l:=⟨q1 _ _ h.at_,q1 _ _ h.many,q1 _ _ h.known⟩
   rw[← hF];simp[h2.fk',srcOf,h2.known,unl,zcU];refine ziJ h2.known (λ_=>by simp) ?_;have lk:=zq h.known;have lk2:=zq h2.known
   have gL:(s2.set k (.lck (.dK (kvP l))))[s.length]?=some (.lst ((hs.map vW).map .str)):=by rw[zP (by omega)];exact g1
   have eL:∀ s3:S,Pf s (s3.set k (.dK (kvP l)))->s3[s.length]?=some (.lst ((hs.map vW++l.map xO).map .str))->∀ t:List (Option D),t.length=9->t[1]?=some (some (.ref s.length))->wC (R t (s3.set k (.dK (kvP l)))) { nx:=λx s'=>Q D.non s',rt:=Q,xc:=X }:=by
     intro s3 pf g t _ ht;rw[← hR];simp[ht]
     have g':(s3.set k (.dK (kvP l)))[s.length]?=some (.lst ((hs.map vW++l.map xO).map .str)):=by rw[zP (by omega)];exact g
     have j:=kY (sep:="; ") (B:=400) g' w.zdL (by rw[zpm];simp;omega);rw[j];exact hQ _ pf
   refine xZ (λ(r:List D) (σ:Fc.Env) (s':S)=>∃(pre post:List Rw) (t2 t3 t4 t5 t6 t7 t8:Option D),l=pre++post/\r=(kvP post).map pairD/\σ=[some (.ref p),some (.ref s.length),t2,t3,t4,t5,t6,t7,t8]/\Pf s (s'.set k (.dK (kvP l)))/\s'[s.length]?=some (.lst ((hs.map vW++pre.map xO).map .str)))
     _ ⟨[],l,none,none,none,none,none,none,none,rfl,rfl,rfl,?_,by simpa using gL⟩ ?_ ?_
   . rw[List.set_set,set_same h2.known];exact q1
   . rintro d r σ s3 ⟨pre,post,t2,t3,t4,t5,t6,t7,t8,el,er,rfl,pf,g⟩
     match post,er with
     | q::post,er =>
      rw[kvP,tM,tM,List.cons.injEq]at er;obtain⟨rfl,rfl⟩:=er
      have hq:q∈l:=by rw[el];simp
      have ha:=w.arcs hq;obtain⟨n1,n2,n3,n4,n5,n6⟩:=w.ln q hq;have c1:=(w.hn _ n3).2.1;have c2:=(w.hn _ n4).2.1;refine⟨_,rfl,?_⟩;have lg:=zq g;simp[srcOf];refine zaB zkV (by simp;omega) (λd hd s4 p4=>?_) λs4 p4 g4=>?_
      . obtain⟨a,haA,rfl⟩:=tK.mp hd;refine⟨_,rfl,?_⟩;simp[Fc.wipe];refine⟨Pf.refl,zbG (ha a haA).1 (ha a haA).2 λs5 p5=>⟨p5,?_⟩⟩;simp[zkV,aD]
      . rw[zgF]at g4
        have j:=kY (sep:=", ") (B:=6) g4 (λt ht=>by
          obtain⟨a,haA,rfl⟩:=tK.mp ht
          exact zaE (ha a haA).1 (ha a haA).2) (by rw[zrq];simp;omega)
        rw[j];have ln:=zfi ha n6;have g5:=p4 _ _ g
        have hl4:(hs.map vW++pre.map xO).length<16777216:=by
          have:l.length=pre.length+(q::post).length:=by rw[el];simp
          simp;omega
        have ei:Txt.join ", " (q.A.map zdO)=zgd q.A:=rfl;rw[ei];generalize zgd q.A=it at *;simp[isl g5,dOf]
        (try dsimp only)
        refine xX (szL (by (try simp only[len_app,xP,zbi,zbO,zbN,vA]);omega)) ?_
        (try dsimp only)
        refine xX (szL (by (try simp only[len_app,xP,zbi,zbO,zbN,vA]);omega)) ?_
        (try dsimp only)
        refine xX (szL (by (try simp only[len_app,xP,zbi,zbO,zbN,vA]);omega)) ?_
        (try dsimp only)
        refine xX (szL (by (try simp only[len_app,xP,zbi,zbO,zbN,vA]);omega)) ?_
        (try dsimp only)
        refine xX (szL (by (try simp only[len_app,xP,zbi,zbO,zbN,vA]);omega)) ?_
        (try dsimp only)
        refine xX (szL (by (try simp only[len_app,xP,zbi,zbO,zbN,vA]);omega)) ?_
        (try dsimp only)
        refine xX (szL (by (try simp only[len_app,xP,zbi,zbO,zbN,vA]);omega)) ?_
        (try dsimp only)
        refine xX (szL (by (try simp only[len_app,xP,zbi,zbO,zbN,vA]);omega)) ?_;rw[yr g5]
        have hl5:((hs.map vW++pre.map xO).map D.str).length<16777216:=by rw[tR];exact hl4
        simp only[zB];rw[decide_eq_true hl5,yj]
        have ex:((hs.map vW++pre.map xO).map D.str)++[D.str (("call ":Str)++q.nm++(" ":Str)++q.src.1++(" ":Str)++q.tgt.1++(" [":Str)++it++("]":Str))]=(hs.map vW++(pre++[q]).map xO).map D.str:=by
          have:xO q=("call ":Str)++q.nm++(" ":Str)++q.src.1++(" ":Str)++q.tgt.1++(" [":Str)++it++("]":Str):=by rw[← ei];rfl
          rw[← this];simp
        rw[ex];refine⟨pre++[q],post,by simp[el],by simp[kvP],?_,?_⟩
        . rw[List.set_comm _ _ (by omega)];exact zia (zib pf p4 h.known (by have:=pf.len;simp at this;omega)) (tX _)
        . rw[yD (zq g5)];simp
   . rintro σ s3 ⟨pre,post,t2,t3,t4,t5,t6,t7,t8,el,er,rfl,pf,g⟩
     have:post=[]:=by
      match post,er with
      | [],_=>rfl
     subst this;rw[sE]at el;subst el;exact eL s3 pf g _ rfl rfl
end
section
variable{s:S}{p m k:Nat}{hs:List (Str×Nat)}{l:List Rw}{X:Xc}{Q:D->S->Prop}
theorem uW(h:PA s p m k hs l)(hQ:Q (.ref s.length) (s++[.lst (hs.map hD)])):wE (d_Program_functions [.ref p] s) Q X:=by
 unfold d_Program_functions;refine(yW (by rfl)).mpr ?_;unfold b_Program_functions
 have e:(mvH hs).map pairD=hs.map hD:=by
  unfold mvH;rw[tW];rfl
 simp[h.fm',jL h.many,e];exact hQ
def ct(r:Rw):Rw:={ r with a:=0 }
theorem zbR{r r':Rw}(h:ct r=ct r'):r.nm=r'.nm/\r.src=r'.src/\r.tgt=r'.tgt/\r.A=r'.A:=by
 unfold ct at h;simp only[Rw.mk.injEq]at h;exact⟨h.1,h.2.1,h.2.2.1,h.2.2.2.1⟩
def wj{α β:Type}(R:α->β->Prop):List α->List β->Prop
 | [],[]=>True
 | a::r,b::t=>R a b/\wj R r t
 | _,_=>False
theorem wj.imp{α β:Type}{R R':α->β->Prop}(k:∀ a b,R a b->R' a b):∀{l:List α}{m:List β},wj R l m->wj R' l m
 | [],[],_=>trivial
 | _::_,_::_,h=>⟨k _ _ h.1,h.2.imp k⟩
 | [],_::_,h=>h.elim
 | _::_,[],h=>h.elim
theorem wj.snoc{α β:Type}{R:α->β->Prop}{a:α}{b:β}(z:R a b):∀{l:List α}{m:List β},wj R l m->wj R (l++[a]) (m++[b])
 | [],[],_=>⟨z,trivial⟩
 | _::_,_::_,h=>⟨h.1,h.2.snoc z⟩
 | [],_::_,h=>h.elim
 | _::_,[],h=>h.elim
theorem wj.len{α β:Type}{R:α->β->Prop}:∀{l:List α}{m:List β},wj R l m->l.length=m.length
 | [],[],_=>rfl
 | _::_,_::_,h=>by simp[h.2.len]
 | [],_::_,h=>h.elim
 | _::_,[],h=>h.elim
theorem zgA{R:D->D->S->Prop}{s s':S}{bs acc:List D}{d y:D}(al:wj (λd y=>R d y s) bs acc)(h:∀ a b,R a b s->R a b s')(r:R d y s'):wj (λd y=>R d y s') (bs++[d]) (acc++[y]):=by
 have al2:wj (λd y=>R d y s') bs acc:=wj.imp h al;exact @wj.snoc D D (λd y=>R d y s') d y r bs acc al2
theorem zpf{s0:S}{vs:List Nat}{g:G}{e:E}{ds:List D}{σ:Fc.Env}{Q:D->S->Prop}{X:Xc}(R:D->D->S->Prop)(hl:ds.length<16777216)(hR:∀ d y s s',R d y s->(∀ n:Nat,n≠s0.length->∀ o,s[n]?=some o->s'[n]?=some o)->R d y s')
  (hs:∀ d∈ds,∀ s,Pf s0 s->s0.length<s.length->∃ σ1,g d (wipe σ vs) s=some σ1/\wE (e σ1 s) (λy s2=>Pf s s2/\R d y s2) (λ_ _ _=>False))
  (hQ:∀ s' acc,Pf s0 s'->s'[s0.length]?=some (.lst acc)->wj (λd y=>R d y s') ds acc->Q (.ref s0.length) s'):wE (wX s0 λD0 s2=>lcV D0 vs g tYes e ds σ s2) Q X:=by
 rw[jG]
 obtain⟨s',acc',h1,h2,bs,h3,h4,h5⟩:=ziK (D0:=s0.length) (vs:=vs) (g:=g) (t:=tYes) (e:=e) (σ:=σ) (λr acc s=>∃ bs,ds=bs++r/\wj (λd y=>R d y s) bs acc/\Pf s0 s) ds [] (s:=s0++[.lst []]) ⟨[],rfl,trivial,Pf.app⟩ zJ (by
  rintro d r acc s ⟨bs,e1,al,pf⟩ hD;obtain⟨σ1,g1,g2⟩:=hs d (by rw[e1];simp) s pf (zq hD);refine⟨σ1,g1,?_⟩;simp
  refine zr g2 λy s2 ⟨p2,hr⟩=>⟨p2 _ _ hD,?_,bs++[d],by simp[e1],?_,zcd (pf.trans p2)⟩
  . have:=al.len
    have:bs.length<=ds.length:=by rw[e1];simp
    omega
  . have ks:∀ n:Nat,n≠s0.length->∀ o,s2[n]?=some o->(s2.set s0.length (.lst (acc++[y])))[n]?=some o:=λn hn o h=>by
     rw[zP (sH hn)];exact h
    exact zgA al (λa b h=>hR _ _ _ _ h λn hn o h=>ks n hn o (p2 _ _ h)) (hR _ _ _ _ hr ks))
 refine⟨s',h1,hQ s' acc' h5 h2 ?_⟩;simp at h3;rw[h3];exact h4
def kvI(q:Rw):D:=pairD (.inr q.nm,.tup [.str q.src.1,.str q.tgt.1,.tup (q.A.map aD)])
def MkR(s:S)(D0:Nat)(q:Rw)(y:D):Prop:=∃ a,y=rwD { q with a:=a }/\s[a]?=some (.lst (q.A.map aD))/\a≠D0
theorem zhF{s:S}{D0:Nat}:∀{l:List Rw}{acc:List D},wj (MkR s D0) l acc->∃ l':List Rw,acc=l'.map rwD/\l'.map ct=l.map ct/\∀ r∈l',s[r.a]?=some (.lst (r.A.map aD))/\r.a≠D0
 | [],[],_=>⟨[],rfl,rfl,λr h=>by cases h⟩
 | q::l,y::acc,h=>by
  obtain⟨⟨a,rfl,h1,h2⟩,h⟩:=h;obtain⟨l',rfl,k1,k2⟩:=zhF h;refine⟨{ q with a:=a }::l',rfl,by simp[k1,ct],λr hr=>?_⟩
  rcases tU.mp hr with rfl | hr
  . exact⟨h1,h2⟩
  . exact k2 r hr
 | [],_::_,h=>h.elim
 | _::_,[],h=>h.elim
theorem zeQ{α β γ:Type}{R:β->γ->Prop}{R':α->γ->Prop}{f:α->β}(l0:List α)(k:∀ a∈l0,∀ c,R (f a) c->R' a c):∀{l:List α}{m:List γ},l⊆l0->wj R (l.map f) m->wj R' l m
 | [],[],_,_=>trivial
 | _::_,_::_,hs,h=>⟨k _ (hs (tH)) _ h.1,zeQ l0 k (λx hx=>hs (tQ _ hx)) h.2⟩
 | [],_::_,_,h=>h.elim
 | _::_,[],_,h=>h.elim
theorem zmO{a b:Arc}(h:aD a=aD b):a=b:=by
 obtain⟨a1,a2,a3⟩:=a;obtain⟨b1,b2,b3⟩:=b;simp only[aD,D.tup.injEq,List.cons.injEq,D.int.injEq,D.bl.injEq]at h;obtain⟨h1,h2,h3,_⟩:=h
 have e1:a1=b1:=by omega
 have e2:a2=b2:=by omega
 rw[e1,e2,h3]
theorem zbW:∀{A B:List Arc},A.map aD=B.map aD->A=B
 | [],[],_=>rfl
 | [],_::_,h=>by cases h
 | _::_,[],h=>by cases h
 | a::A,b::B,h=>by
  rw[tM,tM,List.cons.injEq]at h;rw[zmO h.1,zbW h.2]
theorem zlx{q q':Rw}(h:kvI q=kvI q'):q.nm=q'.nm/\q.src.1=q'.src.1/\q.tgt.1=q'.tgt.1/\q.A=q'.A:=by
 simp only[kvI,pairD,dOf,D.tup.injEq,List.cons.injEq,D.str.injEq]at h;obtain⟨a1,⟨a2,a3,a4,_⟩,_⟩:=h;exact⟨a1,a2,a3,zbW a4⟩
theorem zcN(h:PA s p m k hs l)(hl:l.length<1000)(hQ:∀(s':S) (n:Nat) (l':List Rw),Pf s s'->s'[n]?=some (.lst (l'.map rwD))->l'.map ct=l.map ct->(∀ r∈l',s'[r.a]?=some (.lst (r.A.map aD)))->s.length<=n->Q (.ref n) s'):wE (d_Program_calls [.ref p] s) Q X:=by
 unfold d_Program_calls;refine(yW (by rfl)).mpr ?_;unfold b_Program_calls;simp[h.fk',srcOf,h.known,zcU,unl];refine jY h.known (λ_=>by simp) ?_;have hk:=h.known;have lk:=zq hk;generalize hS:s.set k (.lck (.dK (kvP l)))=s0
 have l0:s0.length=s.length:=by rw[← hS];simp
 have gk:s0[k]?=some (.lck (.dK (kvP l))):=by rw[← hS];exact yD lk
 refine zpf (λd y s'=>∃ q∈l,d=kvI q/\∃ a,y=.tup [.str q.nm,.str q.src.1,.str q.tgt.1,.ref a]/\s'[a]?=some (.lst (q.A.map aD))/\a≠s0.length) (by simp[kvP];omega) (λd y s1 s2 ⟨q,hq,e1,a,e2,e3,e4⟩ hk=>⟨q,hq,e1,a,e2,hk _ e4 _ e3,e4⟩) (λd hd s1 pf hlt=>?_) λs1 acc pf ha al=>?_
 . obtain⟨kv,h1,rfl⟩:=tK.mp hd;obtain⟨q,hq,rfl⟩:=tK.mp h1;refine⟨_,rfl,?_⟩;simp[Fc.wipe];exact⟨Pf.app,q,hq,rfl,s1.length,⟨rfl,rfl,rfl,rfl⟩,zJ,by omega⟩
 . rw[kvP,tW]at al
   have al2:=zeQ (R:=λd y=>∃ q∈l,d=kvI q/\∃ a,y=.tup [.str q.nm,.str q.src.1,.str q.tgt.1,.ref a]/\s1[a]?=some (.lst (q.A.map aD))/\a≠s0.length) (R':=MkR s1 s0.length) l (λq _ y ⟨q',_,e1,a,e2,e3,e4⟩=>by
     obtain⟨k1,k2,k3,k4⟩:=zlx (q:=q) (q':=q') e1
     exact⟨a,by rw[e2,← k1,← k2,← k3];rfl,by rw[k4];exact e3,e4⟩) (List.Subset.refl _) al
   obtain⟨l',rfl,ec,hr⟩:=zhF al2;have g1:=pf _ _ gk;refine hQ _ s0.length l' ?_ ?_ ec (λr hm=>?_) (by omega)
   . refine Pf.unlock (o':=.lck (.dK (kvP l))) hk ?_;rw[hS];exact pf
   . rw[zP (by omega)];exact ha
   . have h2:=(hr r hm).1
     have ne:k≠r.a:=λz=>by
      rw[← z,g1]at h2;cases h2
     rw[zP ne];exact h2
end
structure Gd(hs:List (Str×Nat))(l:List Rw):Prop where
 wd:Wd hs l
 n1:∀ x∈hs,1<=x.1.length
 m1:∀ r∈l,1<=r.nm.length
 nd:(hs.map (·.1)).Nodup
 nl:(l.map (·.nm)).Nodup
theorem jN{β:Type}{f:Rw->β}(hf:∀ r,f (ct r)=f r){l l':List Rw}(h:l'.map ct=l.map ct):l'.map f=l.map f:=by
 have e:∀ l:List Rw,l.map f=(l.map ct).map f:=λl=>by
  rw[tW];exact qI λr _=>(hf r).symm
 rw[e,e l,h]
theorem zeU{l l':List Rw}(h:l'.map ct=l.map ct){r:Rw}(hr:r∈l'):∃ q∈l,ct q=ct r:=by
 have:ct r∈l'.map ct:=tK.mpr ⟨r,hr,rfl⟩;rw[h]at this;obtain⟨q,hq,e⟩:=tK.mp this;exact⟨q,hq,e⟩
theorem zny{l l':List Rw}(h:l'.map ct=l.map ct):kvP l'=kvP l:=by
 unfold kvP;exact jN (f:=λq:Rw=>((.inr q.nm:L2.Key),D.tup [.str q.src.1,.str q.tgt.1,.tup (q.A.map aD)])) (λr=>rfl) h
theorem Gd.ct{hs:List (Str×Nat)}{l l':List Rw}(g:Gd hs l)(h:l'.map PW.ct=l.map PW.ct):Gd hs l':=by
 have hl:l'.length=l.length:=by simpa using congrArg List.length h
 refine⟨⟨g.wd.hn,g.wd.hl,λr hr=>?_,by rw[hl];exact g.wd.ll⟩,g.n1,λr hr=>?_,g.nd,?_⟩
 . obtain⟨q,hq,e⟩:=zeU h hr;obtain⟨e1,e2,e3,e4⟩:=zbR e;have:=g.wd.ln q hq;rw[e1,e2,e3,e4]at this;exact this
 . obtain⟨q,hq,e⟩:=zeU h hr;rw[← (zbR e).1];exact g.m1 q hq
 . rw[jN (f:=(·.nm)) (λr=>rfl) h];exact g.nl
def Arcs(s:S)(l:List Rw):Prop:=∀ r∈l,s[r.a]?=some (.lst (r.A.map aD))
theorem Arcs.pf{s s':S}{l:List Rw}(h:Arcs s l)(p:Pf s s'):Arcs s' l:=λr hr=>p _ _ (h r hr)
section
variable{s:S}{p m k:Nat}{hs:List (Str×Nat)}{l:List Rw}{X:Xc}
theorem Gd.row(g:Gd hs l)(ha:Arcs s l):∀ r∈l,RwOk s hs r:=λr hr=>by
 obtain⟨n1,n2,n3,n4,n5,n6⟩:=g.wd.ln r hr;exact⟨vJ ⟨n1,g.m1 r hr,n2⟩,n3,n4,n5,by omega,ha r hr⟩
theorem zjO{F C:Nat}(hF:s[F]?=some (.lst (hs.map hD)))(hC:s[C]?=some (.lst (l.map rwD)))(ha:Arcs s l)(g:Gd hs l){Q:S->Prop}(hQ:∀(s':S) (m k:Nat),Pf s s'->PA s' s.length m k hs l->Q s'):wE (d_Program_init [.ref s.length,.ref F,.ref C] (s++[.ins "Program" []])) (λd s'=>onN d (Q s')) X:=by
 have f:=Pf.app (s:=s) (t:=[.ins "Program" []]);have h40:=g.wd.hl;have l40:=g.wd.ll;refine zmn zJ (f _ _ hF) (f _ _ hC) (λx hx=>⟨vJ ⟨(g.wd.hn x hx).1,g.n1 x hx,(g.wd.hn x hx).2.1⟩,(g.wd.hn x hx).2.2⟩) g.nd (by omega) (g.row (ha.pf f)) g.nl (by omega) λs' m k _ hk hp hm hkn=>?_;simp;exact hQ _ m k (λw o e=>hk w (by have:=zq e;omega) o (f _ _ e)) ⟨hp,hm,hkn⟩
theorem PA.cts{l':List Rw}(h:PA s p m k hs l)(e:l'.map ct=l.map ct):PA s p m k hs l':=⟨h.at_,h.many,by rw[zny e];exact h.known⟩
theorem _root_.P85.PA.pf'{s':S}(h:PA s p m k hs l)(q:Pf s s'):PA s' p m k hs l:=⟨q _ _ h.at_,q _ _ h.many,q _ _ h.known⟩
end
section
variable{s:S}{k:Nat}{hs:List (Str×Nat)}{l:List Rw}
def uF(r:Rw):PyData:=.tuple [.str r.nm,.str r.src.1,.str r.tgt.1,.list (r.A.map zaD)]
theorem uG{n:Nat}:∀{l:List Rw},Arcs s l->dats s (n+4) (l.map rwD)=some (l.map uF)
 | [],_=>yF
 | r::l,ha=>by
  have h:=ha r (tH)
  have e:dat s (n+4) (rwD r)=some (uF r):=by
   unfold rwD;rw[wF,zL yR (zL yR (zL yR (zL (x:=.list (r.A.map zaD)) (xs:=[]) (by rw[yQ h,jc zaD (λa=>zaR a)];rfl) yF)))];rfl
  exact zL e (uG λq hq=>ha q (tQ _ hq))
theorem zmg(w:Wd hs l):PyData.canLayAll0 (l.map uF)=true/\PyData.depthAll (l.map uF)<=10:=by
 have key:∀ l':List Rw,l'⊆l->PyData.canLayAll0 (l'.map uF)=true/\PyData.depthAll (l'.map uF)<=10:=by
  intro l'
  induction l' with
  | nil=>intro _;exact⟨rfl,by decide⟩
  | cons r l' ih =>
   intro hs';obtain⟨k1,k2⟩:=ih λx hx=>hs' (tQ _ hx);obtain⟨n1,_,n3,n4,_⟩:=w.ln r (hs' (tH));have kk:=vR r.A;refine⟨?_,?_⟩
   . simp only[tM,PyData.canLayAll0,uF,PyData.canLay0,kk.1,yH.mpr n1.okS,yH.mpr (w.hn _ n3).1.okS,yH.mpr (w.hn _ n4).1.okS,k1,rJ]
   . simp only[tM,PyData.depthAll,PyData.depth,uF];have:=kk.2;omega
 exact key l (List.Subset.refl _)
theorem zgX{n n':Nat}{l':List Rw}(w:Wd hs l)(h1:s[n]?=some (.lst (l.map rwD)))(h2:s[n']?=some (.lst (l'.map rwD)))(ha:Arcs s l)(ha':Arcs s l')(ec:l'.map ct=l.map ct):eqD s (.ref n') (.ref n)=some true:=by
 have k:=zmg w;have e:l'.map uF=l.map uF:=jN (f:=uF) (λr=>rfl) ec;refine eq_self (x:=.list (l.map uF)) (by rw[yQ h2,uG ha',e];rfl) (by rw[yQ h1,uG ha];rfl) ?_;refine rD.mpr ⟨by simp only[PyData.canLay0,k.1],decide_eq_true ?_⟩;simp only[PyData.depth];have:=k.2;omega
end
theorem Pt.gd{s0 s':S}{g B h e most c mt:Nat}{hs:List (Str×Nat)}{l:List Rw}(p:Pt s0 g B h e most c mt hs l s')(h1:most<=5)(h2:c<=10)(h3:mt<=3):Gd hs l:=by
 have fn:∀ x∈hs,Ltr x.1/\1<=x.1.length/\x.1.length<=12:=λx hx=>zhO _ (rH _ (vZ p.hn hx));have cn:∀ r∈l,Ltr r.nm/\1<=r.nm.length/\r.nm.length<=12:=λr hr=>zhO _ (qd _ (vZ p.ln hr));have:=p.hl;have:=p.ll;refine⟨⟨λx hx=>⟨(fn x hx).1,(fn x hx).2.2,by have:=p.hk x hx;omega⟩,by omega,λr hr=>?_,by omega⟩,λx hx=>(fn x hx).2.1,λr hr=>(cn r hr).2.1,?_,?_⟩
 . obtain⟨k1,_,_,_,k5⟩:=p.sd.rows r hr;exact⟨(cn r hr).1,(cn r hr).2.2,k1.src,k1.tgt,k1.arcs,by omega⟩
 . rw[p.hn];exact List.Pairwise.sublist (List.take_sublist ..) zdn
 . rw[p.ln];exact List.Pairwise.sublist (List.take_sublist ..) zgM
end PW
namespace Fc
open PySem
section
variable{s:S}{σ:Env}
@[simp ↓] theorem zrp{sub:List Str}{e:E}{u:C}{P:Pst}:wC (zjZ sub (yE e) u σ s) P↔wE (e σ s) (λ_ s'=>P.nx σ s') (λc fs s'=>onT (sub.contains c) (wC (u σ s') P) (P.xc c fs s')):=by
 with_unfolding_all
  unfold zjZ yE ex
  cases h:e σ s with
  | none=>rfl
  | some r =>
   cases r with
   | ok d s'=>rfl
   | exc c fs s' =>
    dsimp only
    cases hc:sub.contains c with
    | true =>
     rw[if_pos rfl,zjU,hc,yj]
    | false =>
     rw[if_neg (by simp),zjU,hc,zbz];exact Iff.rfl
end
end Fc
namespace PK
open PySem Fc
noncomputable section
def b_strongest:C :=
 (zG (zR (eN (λ_=>mDT) zj) (gName 1))
 (zG (xf (yd .seq (zg 0)) (gTup 3 (gCons (gName 2) (gCons (gName 3) (gCons (gName 4) gNil))))
 (zaf (zg 1) (eN ye (za (zg 2) (za (zg 3) zj))) (eOr (zaV (zg 1) (eN ye (za (zg 2) (za (zg 3) zj))) (eC (.bl false))) (zg 4))))
 (zY (zg 1))))
def d_strongest:F:=yt 1 5 b_strongest
def b_table_of_call:C :=
 (zG (zR (e2 oAt (e1 (zaM "known") (zg 0)) (zg 1)) (gTup 3 (gCons (gName 2) (gCons (gName 3) (gCons (gName 4) gNil)))))
 (zY (eN ye (za (zg 2) (za (zg 3) (za (zE P1.d_arcs_of [] (za (zE d_strongest [] (za (zg 4) zj)) zj)) zj))))))
def d_table_of_call:F:=yt 2 5 b_table_of_call
def b_tables_of:C :=
 (zG (zR (eDc [2] (yd .seq (eN zfa (za (e1 (zaM "known") (zg 0)) zj))) (gName 2) tYes (zg 2) (zE d_table_of_call [] (za (zg 0) (za (zg 2) zj)))) (gName 1))
 (zG (zR (eN (λ_=>mDN) zj) (gName 3))
 (zG (zR (eN zQ zj) (gName 4))
 (zG (xf (yd .items (zg 1)) (gTup 2 (gCons (gName 2) (gCons (gName 5) gNil)))
 (cIf (tB (e2 jF (zg 5) (zg 3)))
 (zG (zdP (zg 3) (zg 5) (eN zQ (za (zg 2) zj)))
 (yE (eM yc (zg 4) (za (zg 5) zj))))
 yL))
 (zG (wM (tB (e2 oNe (zg 4) (eN zQ zj)))
 (zG (zR (eN zQ zj) (gName 6))
 (zG (xf (yd .seq (zg 4)) (gName 5)
 (xf (yd .items (zg 1)) (gTup 2 (gCons (gName 2) (gCons (gName 7) gNil)))
 (cIf (tB (e2 oEq (e2 oAt (zg 5) (eC (.int 1))) (e2 oAt (zg 7) (eC (.int 0)))))
 (zG (zR (zE P1.d_joined [] (za (zg 5) (za (zg 7) zj))) (gName 8))
 (cIf (tB (e2 jF (zg 8) (zg 3)))
 (zG (zdP (zg 3) (zg 8) (e2 yq (e2 zsi (zg 3) (zg 5)) (eN zQ (za (zg 2) zj))))
 (yE (eM yc (zg 6) (za (zg 8) zj))))
 yL))
 yL)))
 (zR (zg 6) (gName 4)))))
 (zY (zg 3)))))))
def d_tables_of:F:=yt 1 9 b_tables_of
def b_goes_on:C :=
 (zY (uH (e2 oEq (e2 oAt (zg 0) (eC (.int 0))) (e2 oAt (zg 0) (eC (.int 1)))) (zax (tE (zE P1.d_falls_around [] (za (zg 0) zj))))))
def d_goes_on:F:=yt 1 1 b_goes_on
def b_ends:C :=
 (zG (yE (zE P85.d_check_program [] (za (zg 0) zj)))
 (zY (e2 oEq (eLc [1] (iNd (·.1) (zE d_tables_of [] (za (zg 0) zj))) (gName 1) (tE (zE d_goes_on [] (za (zg 1) zj))) (zg 1)) (eN zQ zj))))
def d_ends:F:=yt 1 2 b_ends
end
end PK
namespace PC
open PySem Fc P1
structure Tb where
 b:Str
 e:Str
 A:List Arc
deriving DecidableEq
def mk(b e:Str)(M:Mt):Tb:=⟨b,e,xT M⟩
def mt(t:Tb):Mt:=zln (λ_ _=>0) t.A
def zpK(t u:Tb):Tb:=⟨t.b,u.e,xT (znM (λ_ _=>0) t.A u.A)⟩
def goes(t:Tb):Bool:=decide (t.b=t.e)&&!hf (mt t)
abbrev Fd:=List (Tb×List Str)
abbrev Sg:=List (Str×Tb)
def ky(f:Fd):List Tb:=f.map (·.1)
def zqZ(f:Fd×List Tb)(t:Tb)(row:List Str):Fd×List Tb:=if t∈ky f.1 then f else (f.1++[(t,row)],f.2++[t])
def rowOf(f:Fd)(t:Tb):List Str:=((f.find? λx=>decide (x.1=t)).map (·.2)).getD []
def znq(g:Sg):Fd×List Tb:=g.foldl (λf x=>zqZ f x.2 [x.1]) ([],[])
def zqF(t:Tb)(f:Fd×List Tb)(x:Str×Tb):Fd×List Tb:=if t.e=x.2.b then zqZ f (zpK t x.2) (rowOf f.1 t++[x.1])else f
def stepT(g:Sg)(f:Fd×List Tb)(t:Tb):Fd×List Tb:=g.foldl (zqF t) f
def layerB(g:Sg)(f:Fd)(l:List Tb):Fd×List Tb:=l.foldl (stepT g) (f,[])
def zrb(g:Sg):Nat->Fd->List Tb->Option Fd
 | 0,f,l=>if l=[]then some f else none
 | n+1,f,l=>if l=[]then some f else zrb g n (layerB g f l).1 (layerB g f l).2
end PC
namespace PB
open PySem Fc P1 P85
open PW (Gd Arcs wj)
section
def Sm(d:D):Prop:=Te d/\Ti d
end
end PB
namespace P20
open PySem Fc P1 P85 PB
section
variable{s:S}
def Fz(P:S->D->Prop)(E:Nat->Prop)(s:S)(d:D):Prop:=(∀ s',P s' d)\/∃ w o,E w/\s[w]?=some o/\∀ s',s'[w]?=some o->P s' d
end
section
variable{s:S}{n:Nat}{ds:List D}
theorem zX{n:Nat}{ds:List D}(h:s[n]?=some (.lst ds)):srcOf Src.seq (.ref n) s=some (.list n ds.length):=by simp[srcOf,h]
end
section
def more(j:Nat):List D:=List.replicate j (.str "more")
end
section
variable{s:S}{d:D}
theorem ec{σ:Fc.Env}{d:D}:∀ s,eC d σ s=some (.ok d s):=λs=>by
 with_unfolding_all
  rfl
end
end P20
namespace Fc
open PySem
section
variable{s:S}{X:Xc}{Q:D->S->Prop}
@[simp ↓] theorem zpZ{z:Str}{lo hi:Option Int}:wE (ziQ (.str z) lo hi s) Q X↔onT (sz z.length) (Q (.str (L2.cutS z lo hi)) s) False:=by
 with_unfolding_all
  unfold ziQ;dsimp only;cases h:sz z.length
  . rw[if_neg (by simp)];exact Iff.rfl
  . rw[if_pos rfl];exact Iff.rfl
end
end Fc
namespace PB
open PySem Fc P1 P85 PC
open PW (Gd Arcs wj)
def gOf(E:List Tb):Sg:=E.map λt=>(("":Str),t)
def chk(E:List Tb)(n:Nat)(b:Bool):Bool:=match zrb (gOf E) n (znq (gOf E)).1 (znq (gOf E)).2 with
 | some r=>decide (r.length<=400)&&(b == ((ky r).filter goes).isEmpty)
 | none=>false
def tb(b e:Str)(A:List Arc):Tb:=mk b e (PW.mOf A)
theorem c1:chk [tb "f" "g" [(0,1,true),(1,0,true)],tb "g" "f" [(0,0,false),(1,1,false)],tb "f" "g" [(0,0,true)]] 60 false=true:=by decide +kernel
theorem c2:chk [tb "f" "g" [(0,1,true),(1,0,true)],tb "g" "f" [(0,0,false),(1,1,false)],tb "f" "g" [(0,1,true),(1,0,true)]] 60 true=true:=by decide +kernel
end PB
namespace PB
open PySem Fc P1 P85 PC
open PW (Gd Arcs wj ct)
def zpT(x:Str):Bool:=x.cps.toList.all λc=>decide (97<=c)&&decide (c<123)
theorem zhA{x:Str}(h:zpT x=true):Ltr x:=λc hc=>by
 have:=sO.mp h c hc;simpa using this
def gdB(hs:List (Str×Nat))(l:List Rw):Bool :=
 (hs.all λx=>zpT x.1&&(decide (1<=x.1.length)&&(decide (x.1.length<=12)&&decide (x.2<4))))&&(decide (hs.length<=40) &&
 ((l.all λr=>zpT r.nm&&(decide (1<=r.nm.length)&&(decide (r.nm.length<=12)&&(decide (r.src∈hs)&&(decide (r.tgt∈hs)&&((r.A.all λa=>decide (a.1<r.src.2/\a.2.1<r.tgt.2))&&decide (r.A.length<=40))))))) &&
 (decide (l.length<=40)&&(decide ((hs.map (·.1)).Nodup)&&decide ((l.map (·.nm)).Nodup)))))
theorem zkn{hs:List (Str×Nat)}{l:List Rw}(h:gdB hs l=true):Gd hs l:=by
 unfold gdB at h;simp only[rG,sO,decide_eq_true_eq]at h;obtain⟨h1,h2,h3,h4,h5,h6⟩:=h;refine⟨⟨λx hx=>⟨zhA (h1 x hx).1,(h1 x hx).2.2.1,(h1 x hx).2.2.2⟩,h2,λr hr=>?_,h4⟩,λx hx=>(h1 x hx).2.1,λr hr=>(h3 r hr).2.1,h5,h6⟩;obtain⟨k1,k2,k3,k4,k5,k6,k7⟩:=h3 r hr;exact⟨zhA k1,k3,k4,k5,λa ha=>k6 a ha,k7⟩
end PB
namespace PB
open PySem Fc P1 P85 PC
open PW (Gd Arcs wj ct zpf)
section
def hs1:List (Str×Nat):=[("f",1)]
end
end PB
namespace PL
open PySem Fc
noncomputable section
def b_Program_eq:C :=
 (zG (cIf (tNot (tE (e1 (zhQ ["Program"]) (zg 1))))
 (zY (eC (.bl false)))
 yL)
 (zG (zR (e2 oEq (e1 xW (e1 (zaM "many") (zg 0))) (e1 xW (e1 (zaM "many") (zg 1)))) (gName 2))
 (zY (uH (zg 2) (e2 oEq (e1 xW (e1 (zaM "known") (zg 0))) (e1 xW (e1 (zaM "known") (zg 1))))))))
def d_Program_eq:F:=yt 2 3 b_Program_eq
end
end PL
namespace PL
open PySem Fc P1 P85 PB
open PW (Gd Arcs Wd)
theorem eqvAll_map{α:Type}[DecidableEq α]{f:α->PyData}(h:∀ a b,PyData.eqv (f a) (f b)=decide (a=b)):∀ xs ys:List α,PyData.eqvAll (xs.map f) (ys.map f)=decide (xs=ys)
 | [],[]=>by simp[PyData.eqvAll]
 | [],_::_=>by simp[PyData.eqvAll]
 | _::_,[]=>by simp[PyData.eqvAll]
 | x::xs,y::ys=>by
  simp only[tM,PyData.eqvAll,h,eqvAll_map h xs ys];by_cases h1:x=y <;> by_cases h2:xs=ys <;> simp[h1,h2]
theorem zlh(a b:Arc):PyData.eqv (zaD a) (zaD b)=decide (a=b):=by
 obtain⟨i,j,f⟩:=a;obtain⟨i',j',f'⟩:=b;simp only[zaD,PyData.eqv,PyData.eqvAll,Bool.and_true]
 have e1:((i:Int)=(i':Int))↔i=i':=by omega
 have e2:((j:Int)=(j':Int))↔j=j':=by omega
 by_cases h1:i=i' <;> by_cases h2:j=j' <;> by_cases h3:f=f' <;> simp[h1,h2,h3,e1,e2]
instance decQ:DecidableEq (Str×Str×Str×List Arc):=λa b=>inferInstance
def q4(r:Rw):Str×Str×Str×List Arc:=(r.nm,r.src.1,r.tgt.1,r.A)
def kvQ(q:Str×Str×Str×List Arc):PyData:=.tuple [.str q.1,.tuple [.str q.2.1,.str q.2.2.1,.tuple (q.2.2.2.map zaD)]]
theorem zli(a b:Str×Str×Str×List Arc):PyData.eqv (kvQ a) (kvQ b)=decide (a=b):=by
 obtain⟨i,j,f,A⟩:=a;obtain⟨i',j',f',A'⟩:=b;simp only[kvQ,PyData.eqv,PyData.eqvAll,Bool.and_true,eqvAll_map zlh];by_cases h1:i=i' <;> by_cases h2:j=j' <;> by_cases h3:f=f' <;> by_cases h4:A=A' <;> simp[h1,h2,h3,h4]
def hdP(x:Str×Nat):PyData:=.tuple [.str x.1,.int x.2]
theorem zng(a b:Str×Nat):PyData.eqv (hdP a) (hdP b)=decide (a=b):=by
 obtain⟨i,j⟩:=a;obtain⟨i',j'⟩:=b;simp only[hdP,PyData.eqv,PyData.eqvAll,Bool.and_true];by_cases h1:i=i' <;> by_cases h2:j=j' <;> simp[h1,h2];omega
section
variable{s s':S}{p m k p' m' k':Nat}{hs hs':List (Str×Nat)}{l l':List Rw}{X:Xc}{Q:D->S->Prop}
theorem vC(n:Nat):∀ hs:List (Str×Nat),dats s (n+4) ((mvH hs).map pairD)=some (hs.map hdP)
 | []=>by simp only[mvH,rY,dats]
 | x::hs=>by
  have ih:=vC n hs;have e:(mvH (x::hs)).map pairD=.tup [.str x.1,.int x.2]::(mvH hs).map pairD:=rfl;rw[e];refine zL ?_ ih;rw[wF,zL yR (zL vU yF)];rfl
theorem zdV(n:Nat):∀ l:List Rw,dats s (n+6) ((kvP l).map pairD)=some ((l.map q4).map kvQ)
 | []=>by simp only[kvP,rY,dats]
 | r::l=>by
  have ih:=zdV n l;have e:(kvP (r::l)).map pairD=.tup [.str r.nm,.tup [.str r.src.1,.str r.tgt.1,.tup (r.A.map aD)]]::(kvP l).map pairD:=rfl;rw[e];refine zL ?_ ih;rw[wF,zL yR (zL (x:=.tuple [.str r.src.1,.str r.tgt.1,.tuple (r.A.map zaD)]) ?_ yF)]
  . rfl
  . rw[wF,zL yR (zL yR (zL (x:=.tuple (r.A.map zaD)) ?_ yF))]
    . rfl
    . rw[wF,jc zaD (λa=>zaR a)];rfl
theorem zcJ(g:Gd hs l):SeqAt.shaped (.list (hs.map hdP))=true:=by
 have key:∀ h':List (Str×Nat),h'⊆hs->PyData.canLayAll0 (h'.map hdP)=true/\PyData.depthAll (h'.map hdP)<=10:=by
  intro h'
  induction h' with
  | nil=>intro _;exact⟨rfl,by decide⟩
  | cons x h' ih =>
   intro hs';obtain⟨k1,k2⟩:=ih λx hx=>hs' (tQ _ hx);have n1:=(g.wd.hn _ (hs' (tH))).1;refine⟨?_,?_⟩
   . simp only[tM,PyData.canLayAll0,hdP,PyData.canLay0,yH.mpr n1.okS,k1,rJ]
   . simp only[tM,PyData.depthAll,PyData.depth,hdP];omega
 have k:=key hs (List.Subset.refl _);refine rD.mpr ⟨by simp only[PyData.canLay0,k.1],decide_eq_true ?_⟩;simp only[PyData.depth];have:=k.2;omega
theorem zod(g:Gd hs l):SeqAt.shaped (.list ((l.map q4).map kvQ))=true:=by
 have key:∀ l':List Rw,l'⊆l->PyData.canLayAll0 ((l'.map q4).map kvQ)=true/\PyData.depthAll ((l'.map q4).map kvQ)<=10:=by
  intro l'
  induction l' with
  | nil=>intro _;exact⟨rfl,by decide⟩
  | cons r l' ih =>
   intro hs';obtain⟨k1,k2⟩:=ih λx hx=>hs' (tQ _ hx);obtain⟨n1,_,n3,n4,_⟩:=g.wd.ln r (hs' (tH));have kk:=vR r.A;refine⟨?_,?_⟩
   . simp only[tM,PyData.canLayAll0,kvQ,q4,PyData.canLay0,kk.1,yH.mpr n1.okS,yH.mpr (g.wd.hn _ n3).1.okS,yH.mpr (g.wd.hn _ n4).1.okS,k1,rJ]
   . simp only[tM,PyData.depthAll,PyData.depth,kvQ,q4];have:=kk.2;omega
 have k:=key l (List.Subset.refl _);refine rD.mpr ⟨by simp only[PyData.canLay0,k.1],decide_eq_true ?_⟩;simp only[PyData.depth];have:=k.2;omega
theorem zqA(h:PA s p m k hs l)(h':PA s p' m' k' hs' l')(g:Gd hs l)(g':Gd hs' l')(hQ:∀ s',Pf s s'->Q (.bl (decide (hs=hs')&&decide (l.map q4=l'.map q4))) s'):wE (d_Program_eq [.ref p,.ref p'] s) Q X:=by
 unfold d_Program_eq;refine(yW (by rfl)).mpr ?_;unfold b_Program_eq;generalize hR:zY (uH _ _)=R;have hj:=zhp (sub:=["Program"]) h'.at_;rw[show(["Program"]:List Str).contains "Program"=true by decide +kernel]at hj;simp[hj,h.fm,jL h.many];have p1:Pf s (s++[O.lst ((mvH hs).map pairD)]):=Pf.app;rw[(h'.pf' p1).fm];simp[jL (h'.pf' p1).many];have p2:Pf s (s++[O.lst ((mvH hs).map pairD),O.lst ((mvH hs').map pairD)]):=Pf.app;have g1:(s++[O.lst ((mvH hs).map pairD),O.lst ((mvH hs').map pairD)])[s.length]?=some (.lst ((mvH hs).map pairD)):=wL 0 rfl;have g2:(s++[O.lst ((mvH hs).map pairD),O.lst ((mvH hs').map pairD)])[s.length+1]?=some (.lst ((mvH hs').map pairD)):=wL 1 rfl;generalize s++[O.lst ((mvH hs).map pairD),O.lst ((mvH hs').map pairD)]=s1 at *;rw[zbf (x:=.list (hs.map hdP)) (y:=.list (hs'.map hdP)) (by rw[yQ g1,vC 55];rfl) (by rw[yQ g2,vC 55];rfl) (zcJ g) (zcJ g')];simp only[PyData.eqv,eqvAll_map zng,zB];subst hR;simp;by_cases hh:hs=hs'
 . subst hh;have h1:=h.pf' p2;have h2:=h'.pf' p2;simp[h1.fk,jL h1.known];have p3:Pf s1 (s1++[O.lst ((kvP l).map pairD)]):=Pf.app;rw[(h2.pf' p3).fk];simp[jL (h2.pf' p3).known];have p4:Pf s1 (s1++[O.lst ((kvP l).map pairD),O.lst ((kvP l').map pairD)]):=Pf.app;have g3:(s1++[O.lst ((kvP l).map pairD),O.lst ((kvP l').map pairD)])[s1.length]?=some (.lst ((kvP l).map pairD)):=wL 0 rfl;have g4:(s1++[O.lst ((kvP l).map pairD),O.lst ((kvP l').map pairD)])[s1.length+1]?=some (.lst ((kvP l').map pairD)):=wL 1 rfl;generalize s1++[O.lst ((kvP l).map pairD),O.lst ((kvP l').map pairD)]=s2 at *;rw[zbf (x:=.list ((l.map q4).map kvQ)) (y:=.list ((l'.map q4).map kvQ)) (by rw[yQ g3,zdV 53];rfl) (by rw[yQ g4,zdV 53];rfl) (zod g) (zod g')];simp only[PyData.eqv,eqvAll_map zli,zB];have:=hQ _ (p2.trans p4);simpa using this
 . have:=hQ _ p2;simp[hh]at this ⊢;exact this
end
end PL
namespace PL
open PySem Fc P1 P85 PB
open PW (Gd Arcs Wd ct uW zcN zjO zgX PA.cts Arcs.pf)
section
variable{s s':S}{p e:Nat}{hs:List (Str×Nat)}{l l':List Rw}{X:Xc}{Q:D->S->Prop}
theorem zoP{a b:Nat}{fa fb:List (Str×D)}(h1:s[a]?=some (.ins "Program" fa))(h2:s[b]?=some (.ins "Program" fb)):two s (.ref a) (.ref b) "Program"=true:=by
 simp[two,h1,h2]
theorem zem{a b:Nat}{m1 k1 m2 k2:Nat}{Q:D->S->Prop}(h1:PA s a m1 k1 hs l)(h2:PA s b m2 k2 hs l')(g1:Gd hs l)(g2:Gd hs l')(e:l.map q4=l'.map q4)(hQ:∀ s',Pf s s'->Q (.bl false) s'):wE (zgi "Program" d_Program_eq (.ref a) (.ref b) s) Q X:=by
 refine zqP.mpr ⟨zoP h1.at_ h2.at_,zqA h1 h2 g1 g2 λs' p=>?_⟩;simp[e];exact hQ _ p
theorem zkk(gd:Gd hs l){a b:Nat}(h1:s[a]?=some (.lst (hs.map hD)))(h2:s[b]?=some (.lst (hs.map hD))):eqD s (.ref a) (.ref b)=some true:=by
 have e:hs.map hD=(mvH hs).map pairD:=by
  unfold mvH;rw[tW];rfl
 rw[e]at h1 h2;exact eq_self (x:=.list (hs.map hdP)) (by rw[yQ h1,vC 55];rfl) (by rw[yQ h2,vC 55];rfl) (zcJ gd)
end
end PL
namespace P31
open PySem Fc P1 P85 PB PC
open P20 (zX Fz)
section
variable{s s':S}{h:Nat}{ds:List D}
theorem zhS{n:Nat}{lo hi:Option Int}{X:Xc}{Q:D->S->Prop}(h:s[n]?=some (.lst ds))(hQ:∀ s' m,Pf s s'->s'[m]?=some (.lst (kE ds lo hi))->s.length<=m->Q (.ref m) s'):wE (ziQ (.ref n) lo hi s) Q X:=by
 rw[zcz h];exact hQ _ _ Pf.app zJ (tX _)
end
end P31
namespace PR
open PySem Fc P1 P85 PB PC P31
open PW (mOf)
abbrev Nd2:=Nat×Nat
abbrev Vl:=Nat->Nat->Nat
end PR
namespace P21
open PySem Fc P1 P85 PB PC P31
open P20 (zX)
open PW (RowsOk Gd Arcs mOf)
abbrev Wy:=Nat×Bool
end P21
namespace PR
open PySem Fc P1 P85 PB PC P31 P21
open PW (mOf RowsOk Gd Arcs)
open P20 (zX)
def nP(u:List Str):PyData:=.list (u.map PyData.str)
end PR
namespace PR
open PySem Fc P1 P85 PB PC P31 P21
open PW (mOf)
abbrev St:=Str×List Int
def Dm(M:Mt)(v w:List Int):Prop:=∀ i j,i<3->j<3->M i j≠0->w.getD j 0+(if M i j=2 then 1 else 0)<=v.getD i 0
end PR
namespace Fc
open PySem P1
theorem zcm{α:Type}{s0:S}{n:Nat}{vs:List Nat}{g:G}{t:T}{e:E}{xs:List α}{fx:α->D}{σ:Fc.Env}{Q:D->S->Prop}{X:Xc}(f:α->Option D)(hn:s0[n]?=some (.lst (xs.map fx)))(hl:xs.length<16777216)
  (hs:∀ x∈xs,∀ s,Pf s0 s->∃ σ1,g (fx x) (wipe σ vs) s=some σ1/\wE (t σ1 s) (λc s1=>Pf s s1/\if c=true then wE (e σ1 s1) (λy s2=>Pf s1 s2/\f x=some y) (λ_ _ _=>False)else f x=none) (λ_ _ _=>False))
  (hQ:∀ s',Pf s0 s'->s'[s0.length]?=some (.lst (xs.filterMap f))->Q (.ref s0.length) s'):wE (wX s0 λD0 s2=>lcL D0 n vs g t e xs.length 0 σ s2) Q X:=by
 rw[jG]
 have pset:∀{s:S}{o:O},Pf s0 s->Pf s0 (s.set s0.length o):=λ{s o} h n w hw=>by
  have:=zq hw;rw[zP (by omega)];exact h n w hw
 obtain⟨s',acc',h1,h2,bs,ts,h3,h4,h5,h6⟩:=zgy (D0:=s0.length) (n:=n) (dsA:=xs.map fx) (vs:=vs) (g:=g) (t:=t) (e:=e) (σ:=σ) (λr acc s=>∃ bs ts,xs=bs++ts/\r=ts.map fx/\acc=bs.filterMap f/\Pf s0 s) (λr acc s ⟨_,_,_,_,_,pf⟩=>pf _ _ hn) xs.length 0 [] (s:=s0++[.lst []]) (by simp) ⟨[],xs,rfl,rfl,rfl,Pf.app⟩ zJ (by
  rintro d r acc s ⟨bs,ts,e1,er,rfl,pf⟩ hD
  cases ts with
  | nil=>cases er
  | cons x ts =>
   rw[tM,List.cons.injEq]at er;obtain⟨rfl,rfl⟩:=er;obtain⟨σ1,g1,g2⟩:=hs x (by rw[e1];simp) s pf;refine⟨σ1,g1,zr g2 λc s1 ⟨p1,h⟩=>?_⟩
   cases c with
   | false =>
    simp only[rM,if_false]at h ⊢;exact⟨p1 _ _ hD,bs++[x],ts,by simp[e1],rfl,by simp[h],pf.trans p1⟩
   | true =>
    simp only[if_true]at h ⊢
    refine zr h λy s2 ⟨p2,h⟩=>⟨p2 _ _ (p1 _ _ hD),?_,bs++[x],ts,by simp[e1],rfl,by simp[h],pset ((pf.trans p1).trans p2)⟩
    have:(bs.filterMap f).length<=bs.length:=pM ..
    have:bs.length<=xs.length:=by rw[e1];simp
    omega)
 refine⟨s',h1,hQ s' h6 ?_⟩
 have:ts=[]:=by
  cases ts with
  | nil=>rfl
  | cons x ts=>cases h4
 rw[h2,h5];rw[this,sE]at h3;rw[h3]
end Fc
namespace P35
open PySem Fc P1 P85 PB PC P31 P21 PR
open PW (mOf RowsOk Gd Arcs)
open P20 (zX)
section
variable{n:Nat}
theorem zdA(n:Nat):yP 0 (n:Int)=(List.range n).map λi:Nat=>D.int (i:Int):=by
 unfold yP;simp
end
end P35
namespace PR
open PySem Fc P1 P85 PB PC P31 P21
open PW (mOf RowsOk Gd Arcs)
open P20 (zX)
open PyProof.Rows (itemOrd)
theorem zbg:∀ v w:List Str,PyData.eqvAll (v.map PyData.str) (w.map PyData.str)=decide (v=w)
 | [],[]=>by simp[PyData.eqvAll]
 | [],_::_=>by simp[PyData.eqvAll]
 | _::_,[]=>by simp[PyData.eqvAll]
 | a::v,b::w=>by
  rw[tM,tM,PyData.eqvAll,zbg v w,qZ];simp[PyData.eqv]
theorem zgY{a b:List Str}:PyData.eqv (nP a) (nP b)=decide (a=b):=by
 unfold nP;rw[PyData.eqv,zbg]
section
variable{a b:Nat}
theorem zfM{ns:List Str}(h:∀ a∈ns,okS a):PyData.canLayAll0 (ns.map .str)=true/\PyData.depthAll (ns.map PyData.str)<=1:=by
 induction ns with
 | nil=>simp[PyData.canLayAll0,PyData.depthAll]
 | cons a rn ih =>
  obtain⟨k1,k2⟩:=ih λb hb=>h b (tQ _ hb);refine⟨by simp[PyData.canLayAll0,PyData.canLay0,yH.mpr (h a (tH)),k1],?_⟩;simp only[tM,PyData.depthAll,PyData.depth];omega
end
end PR
namespace Fc
open PySem PySem.Spec PyProof.Rows L2
def zsf(s:S):D->PyData
 | .ref n=>.int ((yx s n).getD []).length
 | _=>.int 0
def znk:List D->M D:=λxs s=>match xs with
 | [.ref n]=>match yx s n with
  | some ds=>match lens s ds with
   | some _=>new (.lst (ds.mergeSort (PySem.W.dataLe false (zsf s)))) s
   | none=>none
  | none=>none
 | _=>none
end Fc
namespace P61
open PySem Fc
noncomputable section
def b_lots_of:C :=
 (zG (zR (eN zQ (za (eN zQ zj) zj)) (gName 1))
 (zG (xf (yd .seq (zg 0)) (gName 2)
 (zR (e2 yq (zg 1) (eLc [3] (yd .seq (zg 1)) (gName 3) tYes (e2 yq (zg 3) (eN zQ (za (zg 2) zj))))) (gName 1)))
 (zY (eN znk (za (zg 1) zj)))))
def d_lots_of:F:=yt 1 4 b_lots_of
def b_holds:C :=
 (zY (e2 oNe (eLc [2] (yd .seq (zg 1)) (gName 2) (tB (e2 oEq (eLc [3] (yd .seq (zg 2)) (gName 3) (tB (e2 yU (zg 3) (zg 0))) (zg 3)) (eN zQ zj))) (zg 2)) (eN zQ zj)))
def d_holds:F:=yt 2 4 b_holds
def b_least_cuts:C :=
 (zG (yE (zE P85.d_check_program [] (za (zg 0) zj)))
 (zG (zR (eN zQ zj) (gName 1))
 (zG (xf (yd .seq (zE d_lots_of [] (za (eN zfa (za (e1 (zaM "known") (zg 0)) zj)) zj))) (gName 2)
 (cIf (tAnd (tNot (tE (zE d_holds [] (za (zg 2) (za (zg 1) zj))))) (tE (zE PK.d_ends [] (za (uC "Program" "without" PW.d_Program_without [] (zg 0) (za (zg 2) zj)) zj))))
 (yE (eM yc (zg 1) (za (zg 2) zj)))
 yL))
 (zY (eN zgZ (za (zg 1) zj))))))
def d_least_cuts:F:=yt 1 3 b_least_cuts
def b_law_known_right:C :=
 (zG (zR (eN zQ (za (eN ye (za (eC (.str "s")) (za (eC (.str "f")) (za (eC (.str "g")) (za (eN zQ (za (eN ye (za (eC (.int 0)) (za (eC (.int 1)) (za (eC (.bl true)) zj)))) (za (eN ye (za (eC (.int 1)) (za (eC (.int 0)) (za (eC (.bl true)) zj)))) zj))) zj))))) (za (eN ye (za (eC (.str "d")) (za (eC (.str "g")) (za (eC (.str "f")) (za (eN zQ (za (eN ye (za (eC (.int 0)) (za (eC (.int 0)) (za (eC (.bl false)) zj)))) (za (eN ye (za (eC (.int 1)) (za (eC (.int 1)) (za (eC (.bl false)) zj)))) zj))) zj))))) zj))) (gName 0))
 (zG (zR (vD "Program" P85.d_Program_init [] (za (eN zQ (za (eN ye (za (eC (.str "f")) (za (eC (.int 2)) zj))) (za (eN ye (za (eC (.str "g")) (za (eC (.int 2)) zj))) zj))) (za (e2 yq (zg 0) (eN zQ (za (eN ye (za (eC (.str "p")) (za (eC (.str "f")) (za (eC (.str "g")) (za (eN zQ (za (eN ye (za (eC (.int 0)) (za (eC (.int 0)) (za (eC (.bl true)) zj)))) zj)) zj))))) zj))) zj))) (gName 1))
 (zG (zR (eN zQ (za (eN ye (za (eC (.str "b")) (za (eC (.str "f")) (za (eC (.str "f")) (za (eN zQ (za (eN ye (za (eC (.int 0)) (za (eC (.int 1)) (za (eC (.bl true)) zj)))) (za (eN ye (za (eC (.int 1)) (za (eC (.int 2)) (za (eC (.bl true)) zj)))) (za (eN ye (za (eC (.int 2)) (za (eC (.int 0)) (za (eC (.bl true)) zj)))) zj)))) zj))))) (za (eN ye (za (eC (.str "a")) (za (eC (.str "f")) (za (eC (.str "f")) (za (eN zQ (za (eN ye (za (eC (.int 0)) (za (eC (.int 1)) (za (eC (.bl true)) zj)))) (za (eN ye (za (eC (.int 1)) (za (eC (.int 0)) (za (eC (.bl true)) zj)))) zj))) zj))))) zj))) (gName 0))
 (zG (cIf (tOr (tB (e2 oNe (zE d_least_cuts [] (za (zg 1) zj)) (eN zQ (za (eN zQ (za (eC (.str "d")) zj)) (za (eN zQ (za (eC (.str "p")) zj)) (za (eN zQ (za (eC (.str "s")) zj)) zj)))))) (tB (e2 oNe (zE d_least_cuts [] (za (vD "Program" P85.d_Program_init [] (za (eN zQ (za (eN ye (za (eC (.str "f")) (za (eC (.int 3)) zj))) zj)) (za (zg 0) zj))) zj)) (eN zQ (za (eN zQ (za (eC (.str "a")) zj)) (za (eN zQ (za (eC (.str "b")) zj)) zj))))))
 (zY (eC (.bl false)))
 yL)
 (zG (zR (eN zQ (za (eC (.str "a")) (za (eC (.str "b")) (za (eC (.str "c")) (za (eC (.str "d")) (za (eC (.str "e")) (za (eC (.str "g")) (za (eC (.str "h")) zj)))))))) (gName 2))
 (zG (zR (eLc [4] (yd .seq (zg 2)) (gName 4) tYes (eN ye (za (zg 4) (za (eC (.str "f")) (za (eC (.str "f")) (za (eN zQ (za (eN ye (za (eC (.int 0)) (za (eC (.int 0)) (za (eC (.bl true)) zj)))) zj)) zj)))))) (gName 3))
 (zG (zR (eLc [4] (yd .seq (zg 2)) (gName 4) tYes (eN ye (za (zg 4) (za (eC (.str "f")) (za (eC (.str "f")) (za (eN zQ zj) zj)))))) (gName 5))
 (zG (zR (eLc [0] (yd .seq (eN zQ (za (zg 3) (za (zg 5) (za (e2 yq (zaU (zg 3) pNo (jH (eC (.int 6)))) (zaU (zg 5) (jH (eC (.int 6))) pNo)) zj))))) (gName 0) tYes (zE d_least_cuts [] (za (vD "Program" P85.d_Program_init [] (za (eN zQ (za (eN ye (za (eC (.str "f")) (za (eC (.int 1)) zj))) zj)) (za (zg 0) zj))) zj))) (gName 6))
 (zG (zR (eC (.bl false)) (gName 7))
 (zG (zjZ ["CallsError","InvalidList","InvalidFunction","InvalidCall","InvalidProgram","UnknownName"]
 (yE (zE d_least_cuts [] (za (vD "Program" P85.d_Program_init [] (za (eN zQ (za (eN ye (za (eC (.str "f")) (za (eC (.int 1)) zj))) zj)) (za (e2 yq (zg 3) (eN zQ (za (eN ye (za (eC (.str "k")) (za (eC (.str "f")) (za (eC (.str "f")) (za (eN zQ (za (eN ye (za (eC (.int 0)) (za (eC (.int 0)) (za (eC (.bl true)) zj)))) zj)) zj))))) zj))) zj))) zj)))
 (zR (eC (.bl true)) (gName 7)))
 (zY (uH (e2 oEq (zg 6) (eN zQ (za (eN zQ (za (eN zQ zj) zj)) (za (eN zQ (za (zg 2) zj)) (za (eN zQ (za (eN zQ (za (eC (.str "h")) zj)) zj)) zj))))) (zax (tE (zg 7)))))))))))))))
def d_law_known_right:F:=yt 0 8 b_law_known_right
end
end P61
namespace P32
open PySem Fc P1 P85 PB PC P31 P21 PR
open P20 (zX)
open PW (mOf RowsOk Gd Arcs)
open PyProof.Rows (itemOrd lex_self lex_diff)
abbrev Zr:=(Tb×List Str)×Nat
end P32
namespace P61
open PySem Fc P1 P85 PB PC P31 P21 PR
open P20 (zX)
open PW (mOf RowsOk Gd Arcs)
open PyProof.Rows (itemOrd)
abbrev Lot:=Nat×List Str
def lD(z:Lot):D:=.ref z.1
def Lo(s:S)(zs:List Lot):Prop:=∀ z∈zs,s[z.1]?=some (.lst (z.2.map .str))
def LoK(zs:List Lot):Prop:=∀ z∈zs,∀ x∈z.2,okS x/\x.length<=12
section
variable{s:S}{zs ys:List Lot}{z y:Lot}{n m:Nat}
theorem zlB{k:Nat}(h:s[z.1]?=some (.lst (z.2.map .str))):dat s (k+3) (lD z)=some (nP z.2):=by
 have e:∀ ns:List Str,dats s (k+2) (ns.map D.str)=some (ns.map PyData.str):=λns=>by
  induction ns with
  | nil=>exact yF
  | cons x ns ih=>exact zL yR ih
 unfold lD;rw[yQ h,e];rfl
theorem zbn{k:Nat}:∀{zs:List Lot},Lo s zs->dats s (k+3) (zs.map lD)=some (zs.map λz=>nP z.2)
 | [],_=>yF
 | z::zs,h=>zL (zlB (h z (tH))) (zbn λy hy=>h y (tQ _ hy))
theorem zlC{ns:List Str}(h:∀ x∈ns,okS x/\x.length<=12):PyData.canLay0 (nP ns)=true/\(nP ns).depth<=2:=by
 obtain⟨a1,a2⟩:=zfM λx hx=>(h x hx).1;refine⟨by simpa only[nP,PyData.canLay0]using a1,?_⟩;simp only[nP,PyData.depth];omega
theorem zfp:∀{zs:List Lot},LoK zs->PyData.canLayAll0 (zs.map λz=>nP z.2)=true/\PyData.depthAll (zs.map λz=>nP z.2)<=3
 | [],_=>⟨rfl,by decide⟩
 | z::zs,h=>by
  obtain⟨a1,a2⟩:=zfp λy hy=>h y (tQ _ hy);obtain⟨b1,b2⟩:=zlC (h z (tH));rw[tM];refine⟨by simp only[PyData.canLayAll0,b1,a1,rJ],?_⟩;simp only[PyData.depthAll];omega
theorem zbo(h:LoK zs):SeqAt.shaped (.list (zs.map λz=>nP z.2))=true:=by
 obtain⟨a1,a2⟩:=zfp h;refine rD.mpr ⟨by simp only[PyData.canLay0,a1],decide_eq_true ?_⟩;simp only[PyData.depth];omega
theorem zeZ:∀{zs ys:List Lot},PyData.eqvAll (zs.map λz=>nP z.2) (ys.map λz=>nP z.2)=decide (zs.map (·.2)=ys.map (·.2))
 | [],[]=>by simp[PyData.eqvAll]
 | [],_::_=>by simp[PyData.eqvAll]
 | _::_,[]=>by simp[PyData.eqvAll]
 | z::zs,y::ys=>by
  rw[tM,tM,PyData.eqvAll,zgY,zeZ,qZ];simp
theorem zld(h1:s[n]?=some (.lst (zs.map lD)))(l1:Lo s zs)(k1:LoK zs)(h2:s[m]?=some (.lst (ys.map lD)))(l2:Lo s ys)(k2:LoK ys):eqD s (.ref n) (.ref m)=some (decide (zs.map (·.2)=ys.map (·.2))):=by
 rw[zbf (x:=.list (zs.map λz=>nP z.2)) (y:=.list (ys.map λz=>nP z.2)) (by rw[yQ h1,zbn (k:=56) l1];rfl) (by rw[yQ h2,zbn (k:=56) l2];rfl) (zbo k1) (zbo k2)];rw[PyData.eqv,zeZ]
theorem zbe(h1:s[n]?=some (.lst (zs.map lD)))(l1:Lo s zs)(k1:LoK zs)(h2:s[m]?=some (.lst [])):eqD s (.ref n) (.ref m)=some (decide (zs=[])):=by
 rw[zld (ys:=[]) h1 l1 k1 h2 (λz hz=>by cases hz) (λz hz=>by cases hz)];congr 1;rw[decide_eq_decide];simp
end
end P61
namespace P61
open PySem Fc P1 P85 PB PC P31 P21 PR
open P20 (zX)
open PW (mOf RowsOk Gd Arcs ct jN wj)
section
noncomputable def Fin:C:=(zY (uH (e2 oEq (zE d_least_cuts [] (za (vD "Program" P85.d_Program_init [] (za (eN zQ zj) (za (eN zQ zj) zj))) zj)) (eN zQ (za (eN zQ zj) zj))) (zE d_law_known_right [] zj)))
end
end P61
namespace P62
open PySem Fc P1 P85 PB PC P31 P21 PR
open P20 (zX)
open PW (mOf RowsOk Gd Arcs ct jN uF)
open PL (q4)
open PyProof.Rows (itemOrd)
abbrev Fz:=Nat×List Rw×List Nat
end P62
namespace P62
open PySem Fc P1 P85 PB PC P31 P21 PR
open P20 (zX)
open PW (mOf RowsOk Gd Arcs ct jN)
abbrev Lt:=Nat×List Nat
end P62
namespace P89
open PySem Fc P1
structure Rw where
 nm:Str
 src:Str
 tgt:Str
structure Rq where
 r:Rw
 A:List Arc
 a:Nat
end P89
namespace P72
open PySem Fc P1 P85 PB PC P31 P21 PR
open P20 (zX)
open PW (mOf RowsOk Gd Arcs wj)
section
variable{s:S}{l:List Rw}{m k n h:Nat}{q:Rw}
theorem zgP{α:Type}{l:List α}{t:Nat}:kE l none (some (t:Int))=l.take t:=by
 unfold kE;rw[HT.sIx_nat,HT.sIx_none];simp
theorem zfL{N:List Str}{k:Nat}(h:s[n]?=some (.lst (N.map .str))):dat s (k+2) (.ref n)=some (nP N):=by
 have e1:∀ N:List Str,dats s (k+1) (N.map D.str)=some (N.map PyData.str):=λN=>by
  induction N with
  | nil=>exact yF
  | cons q N ih=>exact zL yR ih
 rw[yQ h,e1];rfl
theorem zae{N M:List Str}(h1:s[n]?=some (.lst (N.map .str)))(h2:s[m]?=some (.lst (M.map .str)))(o1:∀ x∈N,okS x)(o2:∀ x∈M,okS x):eqD s (.ref n) (.ref m)=some (decide (N=M)):=by
 have sh:∀ N:List Str,(∀ x∈N,okS x)->SeqAt.shaped (nP N)=true:=λN o=>by
  obtain⟨a1,a2⟩:=zfM o;refine rD.mpr ⟨by simp only[nP,PyData.canLay0,a1],decide_eq_true ?_⟩;simp only[nP,PyData.depth];omega
 rw[zbf (zfL (k:=58) h1) (zfL (k:=58) h2) (sh N o1) (sh M o2),zgY]
end
end P72
namespace P41
open PySem Fc P1
section
variable{s s':S}{X:Xc}{Q:D->S->Prop}{n:Nat}
theorem zkD{α:Type}{vs:List Nat}{g:G}{t:Fc.T}{e:E}{σ:Fc.Env}{mk:α->D}{as:List α}(f:α->Bool)(v:α->D)(hl:as.length<16777216)
  (h:∀ a∈as,∀ s1,Pf s s1->∃ σ1,g (mk a) (wipe σ vs) s1=some σ1/\wE (t σ1 s1) (λc s2=>s2=s1/\c=f a) (λ_ _ _=>False)/\(f a=true->wE (e σ1 s1) (λy s2=>s2=s1/\y=v a) (λ_ _ _=>False)))
  (hQ:Q (.ref s.length) (s++[.lst ((as.filter f).map v)])):wE (wX s λD0 s2=>lcV D0 vs g t e (as.map mk) σ s2) Q X:=by
 rw[jG]
 obtain⟨s',acc',h1,h2,pre,post,e1,e2,e3,e4⟩:=ziK (D0:=s.length) (vs:=vs) (g:=g) (t:=t) (e:=e) (σ:=σ)
  (λr acc s'=>∃ pre post:List α,as=pre++post/\r=post.map mk/\acc=(pre.filter f).map v/\s'=s++[.lst acc]) (as.map mk) [] (s:=s++[.lst []]) ⟨[],as,rfl,rfl,rfl,rfl⟩ (by simp) (by
  rintro d r acc s1 ⟨pre,post,e1,e2,e3,rfl⟩ hD
  cases post with
  | nil=>cases e2
  | cons a post =>
   rw[tM,List.cons.injEq]at e2;obtain⟨rfl,rfl⟩:=e2;obtain⟨σ1,g1,g2,g3⟩:=h a (by rw[e1];simp) (s++[.lst acc]) Pf.app;refine⟨σ1,g1,zr g2 λc s2 ⟨q1,q2⟩=>?_⟩;subst q1;subst q2;by_cases hf:f a=true
   . rw[if_pos hf];refine zr (g3 hf) λy s3 ⟨q1,q2⟩=>?_;subst q1;subst q2;refine⟨hD,?_,pre++[a],post,by simp[e1],rfl,by simp[pq,e3,hf],by simp⟩;have:=List.length_filter_le f pre;rw[e3,tR]
     have l2:as.length=pre.length+(post.length+1):=by rw[e1];simp
     omega
   . rw[if_neg hf]
     have hf':f a=false:=by simpa using hf
     exact⟨hD,pre++[a],post,by simp[e1],rfl,by simp[pq,e3,hf'],rfl⟩)
 refine⟨s',h1,?_⟩
 have hp:post=[]:=by simpa using e2.symm
 subst hp;rw[sE]at e1;subst e1;rw[e4,e3];exact hQ
theorem zif{α:Type}{vs:List Nat}{g:G}{t:Fc.T}{e:E}{σ:Fc.Env}{mk:α->D}{as:List α}(f:α->Bool)(v:α->D)(hn:s[n]?=some (.lst (as.map mk)))(hl:as.length<16777216)
  (h:∀ a∈as,∀ s1,Pf s s1->∃ σ1,g (mk a) (wipe σ vs) s1=some σ1/\wE (t σ1 s1) (λc s2=>s2=s1/\c=f a) (λ_ _ _=>False)/\(f a=true->wE (e σ1 s1) (λy s2=>s2=s1/\y=v a) (λ_ _ _=>False)))
  (hQ:Q (.ref s.length) (s++[.lst ((as.filter f).map v)])):wE (wX s λD0 s2=>lcL D0 n vs g t e (as.map mk).length 0 σ s2) Q X:=by
 rw[jG]
 obtain⟨s',acc',h1,h2,pre,post,e1,e2,e3,e4⟩:=zgy (D0:=s.length) (n:=n) (dsA:=as.map mk) (vs:=vs) (g:=g) (t:=t) (e:=e) (σ:=σ)
  (λr acc s'=>∃ pre post:List α,as=pre++post/\r=post.map mk/\acc=(pre.filter f).map v/\s'=s++[.lst acc]) (λr acc s' ⟨_,_,_,_,_,z⟩=>by rw[z];exact Pf.app _ _ hn) (as.map mk).length 0 [] (s:=s++[.lst []]) (by simp) ⟨[],as,rfl,rfl,rfl,rfl⟩ (by simp) (by
  rintro d r acc s1 ⟨pre,post,e1,e2,e3,rfl⟩ hD
  cases post with
  | nil=>cases e2
  | cons a post =>
   rw[tM,List.cons.injEq]at e2;obtain⟨rfl,rfl⟩:=e2;obtain⟨σ1,g1,g2,g3⟩:=h a (by rw[e1];simp) (s++[.lst acc]) Pf.app;refine⟨σ1,g1,zr g2 λc s2 ⟨q1,q2⟩=>?_⟩;subst q1;subst q2;by_cases hf:f a=true
   . rw[if_pos hf];refine zr (g3 hf) λy s3 ⟨q1,q2⟩=>?_;subst q1;subst q2;refine⟨hD,?_,pre++[a],post,by simp[e1],rfl,by simp[pq,e3,hf],by simp⟩;have:=List.length_filter_le f pre;rw[e3,tR]
     have l2:as.length=pre.length+(post.length+1):=by rw[e1];simp
     omega
   . rw[if_neg hf]
     have hf':f a=false:=by simpa using hf
     exact⟨hD,pre++[a],post,by simp[e1],rfl,by simp[pq,e3,hf'],rfl⟩)
 refine⟨s',h1,?_⟩
 have hp:post=[]:=by simpa using e2.symm
 subst hp;rw[sE]at e1;subst e1;rw[e4,e3];exact hQ
end
end P41
namespace P43
open PySem Fc P1 P85 PB PC P31 P21 PR P41
open P20 (zX)
open PW (mOf RowsOk Gd Arcs)
section
abbrev LnM:=Bool×List (Option (List Nat))
end
end P43
namespace P45
open PySem Fc P1 P85 PB PC P31 P21 PR P41 P43
open P20 (zX)
open PW (mOf RowsOk Gd Arcs)
abbrev Cx3:=Nat×List D×List (Option (List Nat))
end P45
namespace P45
open PySem Fc P1 P85 PB PC P31 P21 PR P41 P43
open PW (mOf RowsOk Gd Arcs)
noncomputable instance rwDec:DecidableEq Rw:=λ_ _=>Classical.propDecidable _
abbrev Os:=List (Option (List Nat))
abbrev Ps:=List (Str×List Nat)
end P45
namespace P44
open PySem Fc P1 P85 PB PC P31 P21 PR P41 P43 P45
open P20 (zX)
open PW (mOf RowsOk Gd Arcs)
abbrev Iz:=Option (Nat×List Nat)
abbrev Lz:=Bool×Nat×List Iz
abbrev Rz:=Nat×List Iz
end P44
namespace P53
open PySem Fc P1 P85 PB PC P31 P21 PR P41
open P20 (zX)
open PW (mOf RowsOk Gd Arcs)
abbrev Ste:=Str×List (Option Nat)
abbrev Dm:=List (Ste×D)
structure En where
 st:Ste
 a:Nat
 row:List (Str×Ste)
end P53
namespace P53
open PySem Fc P1 P85 PB PC P31 P21 PR P41
open P20 (zX)
structure An where
 st:Ste
 a:Nat
 L:List Ste
open PW (mOf RowsOk Gd Arcs)
inductive Kd where
 | pr | nm | vl
end P53
namespace P53
open PySem Fc P1 P85 PB PC P31 P21 PR P41
open PW (mOf RowsOk Gd Arcs)
abbrev Bds:=List (Option Nat)
end P53
namespace P38
open PySem Fc P1 PC
section
variable{α:Type}[DecidableEq α](jn:α->α->Option α)
abbrev FdG(α:Type):=List (α×List Str)
variable{jn}
end
abbrev Pb:=Tb×Tb
open PW (Gd mOf wj)
open P85 (Rw rwD RwOk wL isl PA kvP)
abbrev Fp:=FdG Pb
end P38
namespace P89
open PySem Fc P1
section
variable{s:S}{p:Nat}
structure RAt(s:S)(r p q:Nat)(pl:List D):Prop where
 at_:s[r]?=some (.ins "Run" [("base",.ref p),("places",.ref q)])
 pls:s[q]?=some (.lst pl)
end
section
variable{s:S}{p:Nat}
section
variable{r q:Nat}{pl:List D}(hr:RAt s r p q pl)
include hr
end
end
end P89
namespace P38
open PySem Fc P1 PC
open PW (Gd mOf wj ct jN)
open P85 (Rw rwD RwOk wL isl PA kvP hD mvH)
open P20 (zX)
open PR (nP)
open PR (zgY)
open PyProof.Rows (itemOrd lex_self lex_diff)
abbrev Zq:=(List Str×Bool)×Nat
end P38
namespace P64
open PySem Fc P1 P85 PB PC P31 P21 PR P41 P62
open P20 (zX)
open PW (mOf RowsOk Gd Arcs ct Wd)
section
variable{hs:List (Str×Nat)}{l:List Rw}
structure Nm(hs:List (Str×Nat))(l:List Rw):Prop where
 f:∀ x∈hs,x.1∈PW.fnm
 c:∀ q∈l,q.nm∈PW.cnm
end
end P64
namespace P64
open PySem Fc P1 P85 PB PC P31 P21 PR P41 P62
open P20 (zX)
open PW (mOf RowsOk Gd Arcs)
structure Sm where
 F:Nat
 C:Nat
 hs:List (Str×Nat)
 l:List Rw
 L:List Tb
end P64
namespace Fc
open PySem
section
variable{s:S}{σ:Env}{X:Xc}{Q:D->S->Prop}
def seB(z u:Str):D->D->Option Bool
 | .str a,.str b=>if z≠u then some (decide (a=z/\b=u\/a=u/\b=z))else none
 | _,_=>none
@[simp ↓] theorem zqR{i j:Nat}{z u:Str}:wE (zaW i j z u σ s) Q X↔onD (σ[i]?) λx=>onD (σ[j]?) λy=>onO (seB z u x y) λb=>Q (.bl b) s:=by
 have key:∀(x y:Option (Option D)),wE ((match x,y with
    | some (some (.str a)),some (some (.str b))=>if z≠u then some (.ok (.bl (decide (a=z/\b=u\/a=u/\b=z))) s)else none
    | _,_=>none:Option (Res D))) Q X↔onD x λx=>onD y λy=>onO (seB z u x y) λb=>Q (.bl b) s:=λx y=>by
  with_unfolding_all
  rcases x with _ | _ | x
  . exact Iff.rfl
  . exact Iff.rfl
  . cases x with
    | str a =>
     rcases y with _ | _ | y
     . exact Iff.rfl
     . exact Iff.rfl
     . cases y with
       | str b =>
        change wE (if z≠u then some (.ok (.bl (decide (a=z/\b=u\/a=u/\b=z))) s)else none) Q X↔_
        by_cases h:z≠u
        . have e:seB z u (.str a) (.str b)=some (decide (a=z/\b=u\/a=u/\b=z)):=if_pos h;rw[if_pos h,jT,jT,e,zB];exact Iff.rfl
        . have e:seB z u (.str a) (.str b)=none:=if_neg h;rw[if_neg h,jT,jT,e];exact Iff.rfl
       | _=>exact Iff.rfl
    | _ =>
     rcases y with _ | _ | y
     . exact Iff.rfl
     . exact Iff.rfl
     . exact Iff.rfl
 exact key _ _
def zfT:D->Option Int
 | .str a=>if a.length<=640 then PySem.intText? a else none
 | _=>none
@[simp ↓] theorem zru{d:D}:wE (kJ [d] s) Q X↔onO (zfT d) λn=>Q (.int n) s:=by
 with_unfolding_all
  cases d with
  | str a =>
   unfold kJ zfT;dsimp only;by_cases h:a.length<=640
   . rw[if_pos h,if_pos h];cases PySem.intText? a <;> exact Iff.rfl
   . rw[if_neg h,if_neg h];exact Iff.rfl
  | _=>exact Iff.rfl
def zgH(s:S)(x y:D):Option D:=match x,y with
 | .ref n,.int k=>match s[n]? with
  | some (.lst ds)=>L2.atI ds k
  | _=>none
 | _,_=>none
def zbQ(s:S)(x y v:D):Option S:=match x,y with
 | .ref n,.int k=>match s[n]? with
  | some (.lst ds)=>(L2.ixN ds.length k).map λj=>s.set n (.lst (ds.set j v))
  | _=>none
 | _,_=>none
theorem zjg{x y:D}:zhg x y s=(zgH s x y).map λv=>.ok v s:=by
 cases x <;> cases y <;> first | rfl | skip
 rename_i n k;unfold zhg zgH;dsimp only
 cases s[n]? with
 | none=>rfl
 | some o=>cases o <;> rfl
theorem zid{x y v:D}:zic σ x y v s=(zbQ s x y v).map λs'=>.nx σ s':=by
 cases x <;> cases y <;> first | rfl | skip
 rename_i n k;unfold zic zbQ;dsimp only
 cases s[n]? with
 | none=>rfl
 | some o =>
  cases o with
  | lst ds =>
   dsimp only;cases L2.ixN ds.length k <;> rfl
  | _=>rfl
@[simp ↓] theorem zrl{f:D->D->M D}{o i e:E}{P:Pst}:wC (zfY f o i e σ s) P↔wE (o σ s) (λx s1=>wE (i σ s1) (λy s2=>onO (zgH s2 x y) λv=>wE (e σ s2) (λz s4=>wE (f v z s4) (λr s5=>onO (zbQ s5 x y r) λs6=>P.nx σ s6) P.xc) P.xc) P.xc) P.xc:=by
 have put:∀(x y r:D) (s5:S),wC (zic σ x y r s5) P↔onO (zbQ s5 x y r) λs6=>P.nx σ s6:=λx y r s5=>by
   rw[zid]
   with_unfolding_all
    cases zbQ s5 x y r <;> exact Iff.rfl
 have get:∀(x y:D) (s2:S) (k:D->S->Option R),wC (ex σ (zhg x y s2) k) P↔onO (zgH s2 x y) λv=>wC (k v s2) P:=λx y s2 k=>by
   rw[zjg]
   with_unfolding_all
    cases zgH s2 x y <;> exact Iff.rfl
 unfold zfY;rw[wu];constructor
 . intro h;refine zr h λx s1 h=>?_;rw[wu]at h;refine zr h λy s2 h=>?_;rw[get]at h
   cases e0:zgH s2 x y with
   | none=>rw[e0]at h;exact h
   | some v =>
    rw[e0,zB]at h;rw[zB];rw[wu]at h;refine zr h λz s4 h=>?_;rw[wu]at h;exact zr h λr s5 h=>(put x y r s5).mp h
 . intro h;refine zr h λx s1 h=>?_;rw[wu];refine zr h λy s2 h=>?_;rw[get]
   cases e0:zgH s2 x y with
   | none=>rw[e0]at h;exact h
   | some v =>
    rw[e0,zB]at h;rw[zB];rw[wu];refine zr h λz s4 h=>?_;rw[wu];exact zr h λr s5 h=>(put x y r s5).mpr h
end
end Fc
namespace P83
open PySem Fc
noncomputable section
def b_kind_of:C :=
 (zG (xf (yd .seq (eN ye (za (eN ye (za (eC (.str "word")) (za (eC (.str "abcdefghijklmnopqrstuvwxyz")) zj))) (za (eN ye (za (eC (.str "number")) (za (eC (.str "0123456789")) zj))) (za (eN ye (za (eC (.str "blank")) (za (eC (.str " \n")) zj))) (za (eN ye (za (eC (.str "sign")) (za (eC (.str "[],;")) zj))) (za (eN ye (za (eC (.str "more")) (za (eC (.str ">=")) zj))) zj))))))) (gTup 2 (gCons (gName 1) (gCons (gName 2) gNil)))
 (cIf (tB (e2 oIn (zg 0) (zg 2)))
 (zY (zg 1))
 yL))
 (zY (eC .non)))
def d_kind_of:F:=yt 1 3 b_kind_of
def b_tokens_of:C :=
 (zG (zda 1 2 (za (eN zQ zj) (za (eC (.str "blank")) zj)))
 (zG (xf (yd .seq (zg 0)) (gName 3)
 (zG (zR (zE d_kind_of [] (za (zg 3) zj)) (gName 4))
 (zG (cIf (tOr (tB (e1 zhR (zg 4))) (tB (zaW 4 2 "word" "number")))
 (zY (eC .non))
 yL)
 (zG (zR (uH (e2 oEq (zg 4) (zg 2)) (e2 oIn (zg 4) (eN ye (za (eC (.str "word")) (za (eC (.str "number")) zj))))) (gName 5))
 (zG (cIf (tOr (tE (zg 5)) (tAnd (tB (e2 oEq (zg 4) (eC (.str "more")))) (tAnd (tB (e2 oEq (zg 2) (eC (.str "more")))) (tB (e2 oEq (e2 yq (e2 oAt (zg 1) (e1 zay (eC (.int 1)))) (zg 3)) (eC (.str ">=")))))))
 (zfY zcy (zg 1) (e1 zay (eC (.int 1))) (zg 3))
 (cIf (tB (e2 oNe (zg 4) (eC (.str "blank"))))
 (yE (eM yc (zg 1) (za (zg 3) zj)))
 yL))
 (zR (zg 4) (gName 2)))))))
 (zY (zg 1))))
def d_tokens_of:F:=yt 1 6 b_tokens_of
def b_parts_of:C :=
 (zG (zR (eN zQ (za (eN zQ zj) zj)) (gName 2))
 (zG (xf (yd .seq (zg 0)) (gName 3)
 (cIf (tB (e2 oEq (zg 3) (zg 1)))
 (yE (eM yc (zg 2) (za (eN zQ zj) zj)))
 (yE (eM yc (e2 oAt (zg 2) (e1 zay (eC (.int 1)))) (za (zg 3) zj)))))
 (zY (eIf (tB (e2 oNe (zg 0) (eN zQ zj))) (zg 2) (eN zQ zj)))))
def d_parts_of:F:=yt 2 4 b_parts_of
def b_is_word:C :=
 (zY (e2 oEq (eLc [1] (yd .seq (zg 0)) (gName 1) (tB (e2 yU (zg 1) (eC (.str "abcdefghijklmnopqrstuvwxyz")))) (zg 1)) (eN zQ zj)))
def d_is_word:F:=yt 1 2 b_is_word
def b_is_number:C :=
 (zG (cIf (tOr (tNot (tB (wN oLe oLe (eC (.int 1)) (eN wW (za (zg 0) zj)) (eC (.int 400))))) (tB (e2 oNe (eLc [1] (yd .seq (zg 0)) (gName 1) (tB (e2 yU (zg 1) (eC (.str "0123456789")))) (zg 1)) (eN zQ zj))))
 (zY (eC (.bl false)))
 yL)
 (zY (eOr (e2 oEq (zg 0) (eC (.str "0"))) (e2 oNe (e2 oAt (zg 0) (eC (.int 0))) (eC (.str "0"))))))
def d_is_number:F:=yt 1 2 b_is_number
def b_arcs_in:C :=
 (zG (zR (eN zQ zj) (gName 1))
 (zG (xf (yd .seq (zE d_parts_of [] (za (zg 0) (za (eC (.str ",")) zj)))) (gName 2)
 (zG (cIf (tOr (tB (e2 oNe (eN wW (za (zg 2) zj)) (eC (.int 3)))) (tOr (tNot (tE (zE d_is_number [] (za (e2 oAt (zg 2) (eC (.int 0))) zj)))) (tOr (tB (e2 yU (e2 oAt (zg 2) (eC (.int 1))) (eN ye (za (eC (.str ">")) (za (eC (.str ">=")) zj))))) (tNot (tE (zE d_is_number [] (za (e2 oAt (zg 2) (eC (.int 2))) zj)))))))
 (zY (eC .non))
 yL)
 (yE (eM yc (zg 1) (za (eN ye (za (eN kJ (za (e2 oAt (zg 2) (eC (.int 0))) zj)) (za (eN kJ (za (e2 oAt (zg 2) (eC (.int 2))) zj)) (za (e2 oEq (e2 oAt (zg 2) (eC (.int 1))) (eC (.str ">"))) zj)))) zj)))))
 (zY (zg 1))))
def d_arcs_in:F:=yt 1 3 b_arcs_in
def b_statement_in:C :=
 (zG (cIf (tOr (tB (e2 oNe (eLc [1] (yd .seq (zaU (zg 0) pNo (jH (eC (.int 2))))) (gName 1) (tNot (tE (zE d_is_word [] (za (zg 1) zj)))) (zg 1)) (eN zQ zj))) (tB (e2 oLt (eN wW (za (zg 0) zj)) (eC (.int 3)))))
 (zY (eC .non))
 yL)
 (zG (cIf (tB (e2 oEq (e2 oAt (zg 0) (eC (.int 0))) (eC (.str "fun"))))
 (zY (eIf (tAnd (tB (e2 oEq (eN wW (za (zg 0) zj)) (eC (.int 3)))) (tE (zE d_is_number [] (za (e2 oAt (zg 0) (eC (.int 2))) zj)))) (eN ye (za (e2 oAt (zg 0) (eC (.int 1))) (za (eN kJ (za (e2 oAt (zg 0) (eC (.int 2))) zj)) zj))) (eC .non)))
 yL)
 (zG (zR (uH (e2 oGt (eN wW (za (zg 0) zj)) (eC (.int 5))) (uH (zE d_is_word [] (za (e2 oAt (zg 0) (eC (.int 2))) zj)) (zE d_is_word [] (za (e2 oAt (zg 0) (eC (.int 3))) zj)))) (gName 2))
 (zG (cIf (tOr (tB (e2 oNe (e2 oAt (zg 0) (eC (.int 0))) (eC (.str "call")))) (tOr (tNot (tE (zg 2))) (tOr (tB (e2 oNe (e2 oAt (zg 0) (eC (.int 4))) (eC (.str "[")))) (tB (e2 oNe (e2 oAt (zg 0) (e1 zay (eC (.int 1)))) (eC (.str "]")))))))
 (zY (eC .non))
 yL)
 (zG (zR (zE d_arcs_in [] (za (zaU (zg 0) (jH (eC (.int 5))) (jH (e1 zay (eC (.int 1))))) zj)) (gName 3))
 (zY (eIf (tB (e1 zhR (zg 3))) (eC .non) (eN ye (za (e2 oAt (zg 0) (eC (.int 1))) (za (e2 oAt (zg 0) (eC (.int 2))) (za (e2 oAt (zg 0) (eC (.int 3))) (za (zg 3) zj))))))))))))
def d_statement_in:F:=yt 1 4 b_statement_in
end
end P83
namespace P83
open PySem Fc P1 P85 PB PC
inductive Kd
 | word | number | blank | sign | more
deriving DecidableEq
def Kd.nm:Kd->Str
 | .word=>"word"
 | .number=>"number"
 | .blank=>"blank"
 | .sign=>"sign"
 | .more=>"more"
theorem Kd.ok(k:Kd):okS k.nm:=by cases k <;> exact yf
theorem Kd.inj:∀{a b:Kd},a.nm=b.nm->a=b:=by
 intro a b h
 cases a <;> cases b <;> first | rfl | exact absurd h (by decide +kernel)
def kdO(c:Nat):Option Kd :=
 if c∈(Str.ofString "abcdefghijklmnopqrstuvwxyz").cps.toList then some .word
 else if c∈(Str.ofString "0123456789").cps.toList then some .number
 else if c∈(Str.ofString " \n").cps.toList then some .blank
 else if c∈(Str.ofString "[],;").cps.toList then some .sign
 else if c∈(Str.ofString ">=").cps.toList then some .more
 else none
def kdD:Option Kd->D
 | none=>.non
 | some k=>.str k.nm
section
variable{s:S}{X:Xc}{Q:D->S->Prop}{P:Pst}{c:Nat}{v1 v2:Option D}
theorem zcv{x:Str}:isIn s (.str ⟨#[c]⟩) (.str x)=some (decide (c∈x.cps.toList)):=by
 show some (!(Builtin.Str.occurrences x ⟨#[c]⟩ 0 x.length 1).isEmpty)=_;rw[StrLaws.found_one]
noncomputable def KoB:C:=(cIf (tB (e2 oIn (zg 0) (zg 2))) (zY (zg 1)) yL)
theorem zdq{k x:Str}{r:List D}(h1:c∈x.cps.toList->P.rt (.str k) s)(h2:c∉x.cps.toList->wC (zbL (gTup 2 (gCons (gName 1) (gCons (gName 2) gNil))) KoB r [some (.str ⟨#[c]⟩),some (.str k),some (.str x)] s) P) :
  wC (zbL (gTup 2 (gCons (gName 1) (gCons (gName 2) gNil))) KoB (.tup [.str k,.str x]::r) [some (.str ⟨#[c]⟩),v1,v2] s) P:=by
 rw[zav];refine⟨[some (.str ⟨#[c]⟩),some (.str k),some (.str x)],rfl,?_⟩;generalize hN:wC (zbL _ KoB r _ s) P=N at h2
 have hN':∀{P':Pst},P'.nx=(λe s=>wC (zbL (gTup 2 (gCons (gName 1) (gCons (gName 2) gNil))) KoB r e s) P)->P'.rt=P.rt->wC (KoB [some (.str ⟨#[c]⟩),some (.str k),some (.str x)] s) P':=λ{P'} e1 e2=>by
  unfold KoB;simp[zcv];by_cases h:c∈x.cps.toList
  . rw[decide_eq_true (by simpa using h)];simp;rw[e2];exact h1 h
  . rw[decide_eq_false (by simpa using h)];simp;rw[e1];show wC _ P;rw[hN];exact h2 h
 exact hN' rfl rfl
theorem zmo(hQ:Q (kdD (kdO c)) s):wE (d_kind_of [.str ⟨#[c]⟩] s) Q X:=by
 unfold d_kind_of;refine(yW (by rfl)).mpr ?_;unfold b_kind_of;generalize hB:cIf _ _ _=Bd;have hB:KoB=Bd:=hB;unfold kdO at hQ;simp[srcOf];rw[← hB];refine zdq (λh=>by simpa[h,kdD,Kd.nm]using hQ) λh1=>?_;refine zdq (λh=>by simpa[h1,h,kdD,Kd.nm]using hQ) λh2=>?_;refine zdq (λh=>by simpa[h1,h2,h,kdD,Kd.nm]using hQ) λh3=>?_;refine zdq (λh=>by simpa[h1,h2,h3,h,kdD,Kd.nm]using hQ) λh4=>?_;refine zdq (λh=>by simpa[h1,h2,h3,h4,h,kdD,Kd.nm]using hQ) λh5=>?_;rw[if_neg h1,if_neg h2,if_neg h3,if_neg h4,if_neg h5]at hQ;rw[zeL];exact hQ
end
def one(c:Nat):Str:=⟨#[c]⟩
def xH(F:List Str)(k:Kd)(c:Nat):Option (List Str×Kd):=match kdO c with
 | none=>none
 | some k'=>if k'=.word/\k=.number\/k'=.number/\k=.word then none
  else if k'=k/\(k'=.word\/k'=.number)\/k'=.more/\k=.more/\F.getLast?.getD Str.empty++one c=(">=":Str)then some (F.dropLast++[F.getLast?.getD Str.empty++one c],k')
  else if k'≠.blank then some (F++[one c],k')
  else some (F,k')
noncomputable def TkE:C:=(zR (zg 4) (gName 2))
noncomputable def TkD:C:=(zG (cIf (tOr (tE (zg 5)) (tAnd (tB (e2 oEq (zg 4) (eC (.str "more")))) (tAnd (tB (e2 oEq (zg 2) (eC (.str "more")))) (tB (e2 oEq (e2 yq (e2 oAt (zg 1) (e1 zay (eC (.int 1)))) (zg 3)) (eC (.str ">=")))))))
 (zfY zcy (zg 1) (e1 zay (eC (.int 1))) (zg 3))
 (cIf (tB (e2 oNe (zg 4) (eC (.str "blank"))))
 (yE (eM yc (zg 1) (za (zg 3) zj)))
 yL)) TkE)
noncomputable def TkC:C:=(zG (zR (uH (e2 oEq (zg 4) (zg 2)) (e2 oIn (zg 4) (eN ye (za (eC (.str "word")) (za (eC (.str "number")) zj))))) (gName 5)) TkD)
noncomputable def TkA:C:=(zG (cIf (tOr (tB (e1 zhR (zg 4))) (tB (zaW 4 2 "word" "number")))
 (zY (eC .non))
 yL) TkC)
noncomputable def TkB:C:=(zG (zR (zE d_kind_of [] (za (zg 3) zj)) (gName 4)) TkA)
theorem zqK:b_tokens_of=zG (zda 1 2 (za (eN zQ zj) (za (eC (.str "blank")) zj))) (zG (xf (yd .seq (zg 0)) (gName 3) TkB) (zY (zg 1))):=rfl
section
variable{s:S}{X:Xc}{P:Pst}{c f:Nat}{F F':List Str}{k k':Kd}{g:Bool}{v0 v4 v5:Option D}
theorem znw{a b:Kd}:eqD s (.str a.nm) (.str b.nm)=some (decide (a=b)):=by
 rw[wk a.ok b.ok];congr 1;by_cases h:a=b
 . rw[decide_eq_true h,decide_eq_true (by rw[h])]
 . rw[decide_eq_false h,decide_eq_false λe=>h (Kd.inj e)]
theorem zee{n:Nat}:L2.ixN (n+1) (-1)=some n:=by
 unfold L2.ixN;rw[if_neg (by decide),if_pos (by omega)];congr 1;omega
theorem zaF{G:List Str}{t:Str}:L2.atI ((G++[t]).map D.str) (-1)=some (.str t):=by
 unfold L2.atI;rw[sG,sY,tR];show(L2.ixN (G.length+1) (-1)).bind _=_;rw[zee];simp
theorem ziV{G:List Str}{t:Str}{N:S->Prop}(hf:s[f]?=some (.lst ((G++[t]).map .str)))(hl:t.length<1000000)(h:N (s.set f (.lst ((G++[t++one c]).map .str)))) :
  onO (zgH s (.ref f) (.int (-1))) λv=>wE (zcy v (.str (one c)) s) (λr s5=>onO (zbQ s5 (.ref f) (.int (-1)) r) λs6=>N s6) X:=by
 have a:zgH s (.ref f) (.int (-1))=some (.str t):=by
  unfold zgH;simp only[hf];exact zaF
 have b:zbQ s (.ref f) (.int (-1)) (.str (t++one c))=some (s.set f (.lst ((G++[t++one c]).map .str))):=by
  unfold zbQ;simp only[hf,tR,sY,pA];rw[zee];simp
 rw[a,zB]
 have e:zcy (.str t) (.str (one c)) s=some (.ok (.str (t++one c)) s):=by
  unfold zcy;dsimp only;have:(one c).length=1:=rfl;rw[if_pos (by simp[sz];omega)]
 rw[e]
 with_unfolding_all
  show onO (zbQ s (.ref f) (.int (-1)) (.str (t++one c))) λs6=>N s6
 rw[b,zB];exact h
theorem zoC(hf:s[f]?=some (.lst (F.map .str)))(hne:g=true\/k'=.more/\k=.more->F≠[])(hl:∀ t∈F,t.length<1000000)(lF:F.length<1000000)(ok:∀ t∈F,okS t)(oc:okS (one c))
  (hQ:∀ s' F' v4 v5,(if g=true\/k'=.more/\k=.more/\F.getLast?.getD Str.empty++one c=(">=":Str)then F.dropLast++[F.getLast?.getD Str.empty++one c]else if k'≠.blank then F++[one c]else F)=F'->s.length=s'.length->(∀ n:Nat,n≠f->s'[n]?=s[n]?)->s'[f]?=some (.lst (F'.map .str))->P.nx [v0,some (.ref f),some (.str k'.nm),some (.str (one c)),v4,v5] s') :
  wC (TkD [v0,some (.ref f),some (.str k.nm),some (.str (one c)),some (.str k'.nm),some (.bl g)] s) P:=by
 unfold TkD;generalize hE:TkE=En;have lf:=zq hf
 have fin:∀ s' F',(if g=true\/k'=.more/\k=.more/\F.getLast?.getD Str.empty++one c=(">=":Str)then F.dropLast++[F.getLast?.getD Str.empty++one c]else if k'≠.blank then F++[one c]else F)=F'->s.length=s'.length->(∀ n:Nat,n≠f->s'[n]?=s[n]?)->s'[f]?=some (.lst (F'.map .str))->wC (En [v0,some (.ref f),some (.str k.nm),some (.str (one c)),some (.str k'.nm),some (.bl g)] s') P:=λs' F' h1 h2 h3 h4=>by
  rw[← hE];unfold TkE;simp;exact hQ s' F' _ _ h1 h2 h3 h4
 have e1:Str.ofString "more"=Kd.more.nm:=rfl;have e2:Str.ofString "blank"=Kd.blank.nm:=rfl
 have aug:(g=true\/k'=.more/\k=.more/\F.getLast?.getD Str.empty++one c=(">=":Str))->onO (zgH s (.ref f) (.int (-1))) λv=>wE (zcy v (.str (one c)) s) (λr s5=>onO (zbQ s5 (.ref f) (.int (-1)) r) λs6=>wC (En [v0,some (.ref f),some (.str k.nm),some (.str (one c)),some (.str k'.nm),some (.bl g)] s6) P) P.xc:=λh=>by
  have ne:F≠[]:=hne (h.imp id λz=>⟨z.1,z.2.1⟩)
  obtain⟨G,t,rfl⟩:∃ G t,F=G++[t]:=⟨F.dropLast,F.getLast ne,(pB ne).symm⟩
  have gl:(G++[t]).getLast?.getD Str.empty=t:=by simp
  rw[gl]at fin h;refine ziV hf (hl t (by simp)) (fin _ _ ?_ (by simp) (λn hn=>by rw[sV (sH hn)]) (rF lf));rw[if_pos h];simp
 have app:¬ (g=true\/k'=.more/\k=.more/\F.getLast?.getD Str.empty++one c=(">=":Str))->onT (!decide (k'=Kd.blank)) (onT (uD s (.ref f)) (onO (yx s f) λds=>onT (decide (ds.length<16777216)) (wC (En [v0,some (.ref f),some (.str k.nm),some (.str (one c)),some (.str k'.nm),some (.bl g)] (s.set f (.lst (ds++[.str (one c)])))) P) False) False) (wC (En [v0,some (.ref f),some (.str k.nm),some (.str (one c)),some (.str k'.nm),some (.bl g)] s) P):=λh=>by
  rw[if_neg h]at fin;by_cases hb:k'=.blank
  . rw[decide_eq_true hb];refine fin s F ?_ rfl (λ_ _=>rfl) hf;rw[if_neg (λz=>z hb)]
  . rw[decide_eq_false hb];simp only[Bool.not_false,yj];rw[isl hf,yj,yr hf,zB,decide_eq_true (by simp;omega),yj];refine fin _ (F++[one c]) ?_ (by simp) (λn hn=>by rw[sV (sH hn)]) ?_
    . rw[if_pos hb]
    . rw[rF lf];simp
 simp;rw[e1,e2];simp only[znw,zB]
 cases g with
 | true =>
  rw[yj];exact aug (.inl rfl)
 | false =>
  rw[zbz];by_cases h1:k'=.more
  . rw[decide_eq_true h1,yj];by_cases h2:k=.more
    . rw[decide_eq_true h2,yj];have ne:F≠[]:=hne (.inr ⟨h1,h2⟩)
      obtain⟨G,t,e⟩:∃ G t,F=G++[t]:=⟨F.dropLast,F.getLast ne,(pB ne).symm⟩
      have a:atD s (.ref f) (.int (-1))=some (.str t):=by
        rw[yM hf,e];exact zaF
      have ht:=hl t (by rw[e];simp);have l1:(one c).length=1:=rfl;rw[a,zB];simp;rw[xY (by omega),yj,wk (yg (ok t (by rw[e];simp)) oc) yf,zB]
      have gl:F.getLast?.getD Str.empty=t:=by rw[e];simp
      by_cases h3:t++one c=Str.ofString ">="
      . rw[decide_eq_true h3,yj];exact aug (.inr ⟨h1,h2,by rw[gl];exact h3⟩)
      . rw[decide_eq_false h3,zbz]
        exact app λz=>by
          rcases z with z | z
          . cases z
          . rw[gl]at z;exact h3 z.2.2
    . rw[decide_eq_false h2,zbz]
      exact app λz=>by
        rcases z with z | z
        . cases z
        . exact h2 z.2.1
  . rw[decide_eq_false h1,zbz]
    exact app λz=>by
      rcases z with z | z
      . cases z
      . exact h1 z.1
theorem zoB(hf:s[f]?=some (.lst (F.map .str)))(hne:k≠.blank->F≠[])(hl:∀ t∈F,t.length<1000000)(lF:F.length<1000000)(ok:∀ t∈F,okS t)(oc:okS (one c))
  (h0:xH F k c=none->P.rt .non s)
  (h1:∀ s' F' k2 v4 v5,xH F k c=some (F',k2)->s.length=s'.length->(∀ n:Nat,n≠f->s'[n]?=s[n]?)->s'[f]?=some (.lst (F'.map .str))->P.nx [v0,some (.ref f),some (.str k2.nm),some (.str (one c)),v4,v5] s') :
  wC (TkB [v0,some (.ref f),some (.str k.nm),some (.str (one c)),v4,v5] s) P:=by
 unfold TkB;generalize hE:TkA=En;simp;refine zmo (c:=c) ?_;rw[← hE];unfold TkA;generalize hE:TkC=En
 cases hk:kdO c with
 | none =>
  have e:xH F k c=none:=by unfold xH;rw[hk]
  show wC _ P;simp[kdD];exact h0 e
 | some k' =>
  have sb:seB (Str.ofString "word") (Str.ofString "number") (.str k'.nm) (.str k.nm)=some (decide (k'=.word/\k=.number\/k'=.number/\k=.word)):=by
    unfold seB;dsimp only;rw[if_pos (by decide +kernel)];congr 1
    have w:∀{a b:Kd},a.nm=b.nm↔a=b:=λ{a b}=>⟨Kd.inj,λe=>by rw[e]⟩
    have e1:("word":Str)=Kd.word.nm:=rfl;have e2:("number":Str)=Kd.number.nm:=rfl;rw[e1,e2];simp only[w]
  show wC _ P;simp[kdD,sb];rw[show(decide (k'=Kd.word)&&decide (k=Kd.number)||decide (k'=Kd.number)&&decide (k=Kd.word))=decide (k'=.word/\k=.number\/k'=.number/\k=.word) by simp];by_cases hw:k'=.word/\k=.number\/k'=.number/\k=.word
  . have e:xH F k c=none:=by unfold xH;rw[hk];exact if_pos hw
    rw[decide_eq_true hw,yj];exact h0 e
  . have e:xH F k c=(if k'=k/\(k'=.word\/k'=.number)\/k'=.more/\k=.more/\F.getLast?.getD Str.empty++one c=(">=":Str)then some (F.dropLast++[F.getLast?.getD Str.empty++one c],k')else if k'≠.blank then some (F++[one c],k')else some (F,k')):=by unfold xH;rw[hk];exact if_neg hw
    rw[decide_eq_false hw,zbz,← hE];unfold TkC;generalize hE:TkD=En
    have it:isIn s (.str k'.nm) (.tup [.str (Str.ofString "word"),.str (Str.ofString "number")])=some (decide (k'=.word\/k'=.number)):=by
      show isIn [] (.str k'.nm) (.tup [.str (Str.ofString "word"),.str (Str.ofString "number")])=_;cases k' <;> decide +kernel
    have go:wC (En [v0,some (.ref f),some (.str k.nm),some (.str (one c)),some (.str k'.nm),some (.bl (decide (k'=k)&&decide (k'=.word\/k'=.number)))] s) P:=by
      rw[← hE];refine zoC (g:=decide (k'=k)&&decide (k'=.word\/k'=.number)) hf (λz=>?_) hl lF ok oc λs' F' v4 v5 h2 h3 h4 h5=>?_
      . rcases z with z | z
        . have z:=rD.mp z;have z1:=of_decide_eq_true z.1;have z2:=of_decide_eq_true z.2;refine hne λy=>?_;rw[z1,y]at z2
          rcases z2 with z2 | z2 <;> cases z2
        . exact hne λy=>by rw[y]at z;cases z.2
      . refine h1 s' F' k' v4 v5 ?_ h3 h4 h5;rw[e,← h2]
        have b:(decide (k'=k)&&decide (k'=.word\/k'=.number))=true↔k'=k/\(k'=.word\/k'=.number):=by simp
        simp only[b];split
        . rfl
        . split <;> rfl
    simp;rw[znw,zB];by_cases hk2:k'=k
    . rw[decide_eq_true hk2];simp;rw[it,zB];rw[decide_eq_true hk2,Bool.true_and]at go;exact go
    . rw[decide_eq_false hk2];simp;rw[decide_eq_false hk2,Bool.false_and]at go;exact go
end
def tokF:List Nat->List Str->Kd->Option (List Str×Kd)
 | [],F,k=>some (F,k)
 | c::cs,F,k=>(xH F k c).bind λz=>tokF cs z.1 z.2
theorem zfR:∀(a b:List Nat) (F:List Str) (k:Kd),tokF (a++b) F k=(tokF a F k).bind λz=>tokF b z.1 z.2
 | [],b,F,k=>rfl
 | c::a,b,F,k=>by
  rw[List.cons_append,tokF,tokF]
  cases h:xH F k c with
  | none=>rfl
  | some z=>exact zfR a b z.1 z.2
structure TI(n:Nat)(F:List Str)(k:Kd):Prop where
 len:F.length<=n
 tk:∀ t∈F,t.length<=n/\okS t
 ne:k≠.blank->F≠[]
theorem zmy{n c:Nat}{F F':List Str}{k k':Kd}(I:TI n F k)(oc:okS (one c))(h:xH F k c=some (F',k')):TI (n+1) F' k':=by
 have l1:(one c).length=1:=rfl;unfold xH at h;split at h
 . cases h
 . rename_i k2 hk;split at h
   . cases h
   . split at h
     . rename_i hc;cases h
       have ne:F≠[]:=by
         rcases hc with hc | hc
         . refine I.ne λz=>?_;rw[hc.1,z]at hc
           rcases hc.2 with y | y <;> cases y
         . refine I.ne λz=>?_;rw[z]at hc;cases hc.2.1
       obtain⟨G,t,rfl⟩:∃ G t,F=G++[t]:=⟨F.dropLast,F.getLast ne,(pB ne).symm⟩
       have gl:(G++[t]).getLast?.getD Str.empty=t:=by simp
       have dl:(G++[t]).dropLast=G:=by simp
       rw[gl,dl];have ll:=I.len;obtain⟨t1,t2⟩:=I.tk t (by simp);refine⟨by simp at ll ⊢;omega,λu hu=>?_,λ_ z=>by simp at z⟩
       rcases tZ.mp hu with hu | hu
       . obtain⟨a,b⟩:=I.tk u (rH _ hu);exact⟨by omega,b⟩
       . rw[tV.mp hu];exact⟨by rw[len_app];omega,yg t2 oc⟩
     . split at h
       . cases h;have ll:=I.len;refine⟨by simp at ll ⊢;omega,λu hu=>?_,λ_ z=>by simp at z⟩
         rcases tZ.mp hu with hu | hu
         . obtain⟨a,b⟩:=I.tk u hu;exact⟨by omega,b⟩
         . rw[tV.mp hu];exact⟨by omega,oc⟩
       . rename_i hb;cases h;refine⟨by have:=I.len;omega,λu hu=>?_,λz=>absurd z hb⟩;obtain⟨a,b⟩:=I.tk u hu;exact⟨by omega,b⟩
def TkI(s0:S)(v0:Option D)(N:Nat)(R:Option (List Str×Kd))(r:List D)(σ:Fc.Env)(s':S):Prop:=∃(post:List Nat) (F:List Str) (k:Kd) (v3 v4 v5:Option D),r=post.map (λc=>.str (one c))/\(∀ c∈post,okS (one c))/\tokF post F k=R/\(∃ n,n+post.length=N/\TI n F k)/\Pf s0 s'/\s'[s0.length]?=some (.lst (F.map .str))/\σ=[v0,some (.ref s0.length),some (.str k.nm),v3,v4,v5]
section
variable{s:S}{X:Xc}{Q:D->S->Prop}{t:Str}
theorem zdE(lt:t.length<900000)(oc:∀ c∈t.cps.toList,okS (one c))
   (h0:tokF t.cps.toList [] .blank=none->∀ s',Pf s s'->Q .non s')
   (h1:∀ F k,tokF t.cps.toList [] .blank=some (F,k)->TI t.length F k->∀ s',Pf s s'->s'[s.length]?=some (.lst (F.map .str))->Q (.ref s.length) s'):wE (d_tokens_of [.str t] s) Q X:=by
 unfold d_tokens_of;refine(yW (by rfl)).mpr ?_;rw[zqK];generalize hB:TkB=Bd;simp[srcOf]
 have hl:t.cps.toList.length=t.length:=by simp[Str.length]
 refine xZ (TkI s (some (.str t)) t.length (tokF t.cps.toList [] .blank)) _ ⟨t.cps.toList,[],.blank,none,none,none,rfl,oc,rfl,⟨0,by omega,by simp,λt h=>(by cases h),λz=>absurd rfl z⟩,Pf.app,zJ,rfl⟩ ?_ ?_
 . rintro d r σ s' ⟨post,F,k,v3,v4,v5,er,ok,eR,⟨n,en,ti⟩,f,hf,rfl⟩
   cases post with
   | nil=>cases er
   | cons c post =>
    rw[tM,List.cons.injEq]at er;obtain⟨rfl,rfl⟩:=er;refine⟨_,rfl,?_⟩;rw[← hB];have oc':=ok c (tH);rw[sS]at en;refine zoB hf ti.ne (λt ht=>by have:=(ti.tk t ht).1;omega) (by have:=ti.len;omega) (λt ht=>(ti.tk t ht).2) oc' (λe=>?_) λs2 F' k2 v4 v5 e l2 k3 h3=>?_
    . refine h0 ?_ s' f;rw[← eR,tokF,e];rfl
    . refine⟨post,F',k2,_,_,_,rfl,λc hc=>ok c (tQ _ hc),?_,⟨n+1,by omega,zmy ti oc' e⟩,λm o h=>?_,h3,rfl⟩
      . rw[← eR,tokF,e];rfl
      . have:=zq h;rw[k3 m (by omega)];exact f _ _ h
 . rintro σ s' ⟨post,F,k,v3,v4,v5,er,ok,eR,⟨n,en,ti⟩,f,hf,rfl⟩
   have hp:post=[]:=by simpa using er.symm
   subst hp;simp;exact h1 F k eR.symm (by simpa using en ▸ ti) s' f hf
end
open PW (dg)
section
variable{F G:List Str}{k:Kd}{x y:Str}{c:Nat}{cs:List Nat}
theorem km{x y:Str}:(x++y).cps.toList=x.cps.toList++y.cps.toList:=by
 show(x.cps++y.cps).toList=_;simp
theorem zkt(h1:97<=c)(h2:c<123):kdO c=some .word:=by
 have:∀ i:Fin 26,kdO (97+i.val)=some .word:=by decide +kernel
 have:=this ⟨c - 97,by omega⟩
 rwa [show 97+(c - 97)=c by omega]at this
theorem zks(h1:48<=c)(h2:c<58):kdO c=some .number:=by
 have:∀ i:Fin 10,kdO (48+i.val)=some .number:=by decide +kernel
 have:=this ⟨c - 48,by omega⟩
 rwa [show 48+(c - 48)=c by omega]at this
theorem zfS{kk:Kd}(hkk:kk=.word\/kk=.number):∀{cs:List Nat}{y:Str},(∀ c∈cs,kdO c=some kk)->tokF cs (G++[y]) kk=some (G++[y++⟨cs.toArray⟩],kk)
 | [],y,_=>by
  show some _=some _;congr 3
 | c::cs,y,h=>by
  have hc:=h c (tH)
  have e:xH (G++[y]) kk c=some (G++[y++one c],kk):=by
   unfold xH;rw[hc];dsimp only;rw[if_neg (by rcases hkk with rfl | rfl <;> simp),if_pos (.inl ⟨rfl,hkk⟩)];simp
  rw[tokF,e];show tokF cs (G++[y++one c]) kk=_;rw[zfS hkk λd hd=>h d (tQ _ hd)];congr 4
  show(⟨(y.cps++#[c])++cs.toArray⟩:Str)=⟨y.cps++(c::cs).toArray⟩
  congr 1;simp
theorem zeK{kk:Kd}(hkk:kk=.word\/kk=.number)(h:∀ c∈x.cps.toList,kdO c=some kk)(h1:1<=x.length)(n1:k≠.word)(n2:k≠.number):tokF x.cps.toList F k=some (F++[x],kk):=by
 cases hx:x.cps.toList with
 | nil =>
  exfalso
  have:x.length=x.cps.toList.length:=by simp[Str.length]
  rw[hx]at this;simp at this;omega
 | cons c cs =>
  rw[hx]at h;have hc:=h c (tH)
  have e:xH F k c=some (F++[one c],kk):=by
   unfold xH;rw[hc];dsimp only;rw[if_neg (λz=>by rcases z with z | z;exact n2 z.2;exact n1 z.2),if_neg (λz=>?_),if_pos (by rcases hkk with rfl | rfl <;> simp)]
   rcases z with z | z
   . rcases z.2 with y | y
     . exact n1 (z.1.symm.trans y)
     . exact n2 (z.1.symm.trans y)
   . rw[z.1]at hkk
     rcases hkk with y | y <;> cases y
  rw[tokF,e];show tokF cs (F++[one c]) kk=_;rw[zfS hkk λd hd=>h d (tQ _ hd)];congr 3
  have:x=⟨(c::cs).toArray⟩:=by
   rw[← hx]
  rw[this];show [(⟨#[c]++cs.toArray⟩:Str)]=_;simp
theorem jg(hx:Ltr x)(h1:1<=x.length)(n1:k≠.word)(n2:k≠.number):tokF x.cps.toList F k=some (F++[x],.word) :=
 zeK (.inl rfl) (λc hc=>zkt (hx c hc).1 (hx c hc).2) h1 n1 n2
theorem zeJ(hx:∀ c∈x.cps.toList,48<=c/\c<58)(h1:1<=x.length)(n1:k≠.word)(n2:k≠.number):tokF x.cps.toList F k=some (F++[x],.number) :=
 zeK (.inr rfl) (λc hc=>zks (hx c hc).1 (hx c hc).2) h1 n1 n2
theorem zag{n:Nat}(h:n<4):(∀ c∈(dg n).cps.toList,48<=c/\c<58)/\1<=(dg n).length:=by
 match n,h with
 | 0,_=>decide +kernel
 | 1,_=>decide +kernel
 | 2,_=>decide +kernel
 | 3,_=>decide +kernel
theorem wA(h:kdO c=some .blank):tokF (c::cs) F k=tokF cs F .blank:=by
 have e:xH F k c=some (F,.blank):=by
  unfold xH;rw[h];simp
 rw[tokF,e];rfl
theorem vo(h:kdO c=some .sign):tokF (c::cs) F k=tokF cs (F++[one c]) .sign:=by
 have e:xH F k c=some (F++[one c],.sign):=by
  unfold xH;rw[h];simp
 rw[tokF,e];rfl
theorem ziD(hk:k≠.more):tokF (62::cs) F k=tokF cs (F++[one 62]) .more:=by
 have e:xH F k 62=some (F++[one 62],.more):=by
  unfold xH;rw[show kdO 62=some .more by decide +kernel];simp[hk]
 rw[tokF,e];rfl
theorem zkQ(hk:k≠.more):tokF (62::61::cs) F k=tokF cs (F++[(">=":Str)]) .more:=by
 have e:xH (F++[one 62]) .more 61=some (F++[(">=":Str)],.more):=by
  unfold xH;rw[show kdO 61=some .more by decide +kernel]
  have:one 62++one 61=(">=":Str):=by decide +kernel
  simp[this]
 rw[ziD hk,tokF,e];rfl
end
end P83
namespace P83
open PySem Fc P1 P85 PB PC
open PW (dg rel zdO zgd vW zdo xO wr Wd)
def jn(m:Str):List (List Str)->List Str
 | []=>[]
 | [a]=>a
 | a::b::r=>a++m::jn m (b::r)
def uf(b:Bool):Str:=if b then ">" else ">="
def yw(a:Arc):List Str:=[dg a.1,uf a.2.2,dg a.2.1]
abbrev Sm:=(Str×Nat) ⊕ Rw
def xG:Sm->List Str
 | .inl x=>["fun",x.1,dg x.2]
 | .inr r=>([("call":Str),r.nm,r.src.1,r.tgt.1,"["]:List Str)++jn "," (r.A.map yw)++([("]":Str)]:List Str)
def smT:Sm->Str
 | .inl x=>vW x
 | .inr r=>xO r
def SmOk:Sm->Prop
 | .inl x=>Ltr x.1/\1<=x.1.length/\x.2<4
 | .inr r=>(Ltr r.nm/\1<=r.nm.length)/\(Ltr r.src.1/\1<=r.src.1.length)/\(Ltr r.tgt.1/\1<=r.tgt.1.length)/\∀ a∈r.A,a.1<4/\a.2.1<4
def Sk(k:Kd):Prop:=k≠.word/\k≠.number
def Tk(t:Str)(ts:List Str):Prop:=∀ F k,Sk k->∃ k',tokF t.cps.toList F k=some (F++ts,k')
section
variable{F:List Str}{k:Kd}{α:Type}
theorem yZ{a b:List Nat}{F1:List Str}{k1:Kd}(h:tokF a F k=some (F1,k1)):tokF (a++b) F k=tokF b F1 k1:=by
 rw[zfR,h];rfl
theorem zeH{T:α->Str}{K:α->List Str}{sep m:Str}(hs:∀ F k,tokF sep.cps.toList F k=some (F++[m],.blank)):∀(as:List α),(∀ a∈as,Tk (T a) (K a))->Tk (Str.join sep (as.map T)) (jn m (as.map K))
 | [],_=>λF k _=>⟨k,by show some (F,k)=some (F++[],k);rw[sE]⟩
 | [a],h=>h a (tH)
 | a::b::r,h=>λF k sk=>by
  obtain⟨k1,e1⟩:=h a (tH) F k sk;obtain⟨k2,e2⟩:=zeH hs (b::r) (λx hx=>h x (tQ _ hx)) (F++K a++[m]) .blank ⟨by simp,by simp⟩;refine⟨k2,?_⟩;show tokF (T a++sep++Str.join sep ((b::r).map T)).cps.toList F k=_;rw[km,km,rR,yZ e1,yZ (hs _ _),e2];show some (F++K a++[m]++jn m ((b::r).map K),k2)=some (F++(K a++m::jn m ((b::r).map K)),k2);simp
theorem zoO(b:Bool):tokF (rel b).cps.toList F k=some (F++[uf b],.blank):=by
 cases b with
 | true =>
  show tokF [32,62,32] F k=_;rw[wA (by decide +kernel),ziD (by decide),wA (by decide +kernel)];rfl
 | false =>
  show tokF [32,62,61,32] F k=_;rw[wA (by decide +kernel),zkQ (by decide),wA (by decide +kernel)];rfl
theorem zoL{a:Arc}(h1:a.1<4)(h2:a.2.1<4):Tk (zdO a) (yw a):=λF k sk=>by
 obtain⟨d1,l1⟩:=zag h1;obtain⟨d2,l2⟩:=zag h2;refine⟨.number,?_⟩;unfold zdO;rw[km,km,rR,yZ (zeJ d1 l1 sk.1 sk.2),yZ (zoO _),zeJ d2 l2 (by simp) (by simp)];show some (F++[dg a.1]++[uf a.2.2]++[dg a.2.1],Kd.number)=some (F++[dg a.1,uf a.2.2,dg a.2.1],Kd.number);simp
theorem zir:tokF (Str.ofString ", ").cps.toList F k=some (F++[(",":Str)],.blank):=by
 show tokF [44,32] F k=_;rw[vo (by decide +kernel),wA (by decide +kernel)];rfl
theorem zjH:tokF (Str.ofString "; ").cps.toList F k=some (F++[(";":Str)],.blank):=by
 show tokF [59,32] F k=_;rw[vo (by decide +kernel),wA (by decide +kernel)];rfl
theorem zoN{A:List Arc}(h:∀ a∈A,a.1<4/\a.2.1<4):Tk (zgd A) (jn "," (A.map yw)):=by
 unfold zgd;rw[TL.join_eq];exact zeH (λF k=>zir) A λa ha=>zoL (h a ha).1 (h a ha).2
theorem ziC{cs:List Nat}:tokF (32::cs) F k=tokF cs F .blank:=wA (by decide +kernel)
theorem zkO{x:Str×Nat}(h1:Ltr x.1)(h2:1<=x.1.length)(h3:x.2<4):Tk (vW x) ["fun",x.1,dg x.2]:=λF k sk=>by
 obtain⟨d1,l1⟩:=zag h3;refine⟨.number,?_⟩
 have ef:tokF (Str.ofString "fun ").cps.toList F k=some (F++[("fun":Str)],.blank):=by
  show tokF ((Str.ofString "fun").cps.toList++[32]) F k=_;rw[yZ (jg (by unfold Ltr;decide +kernel) (by decide +kernel) sk.1 sk.2),ziC];rfl
 unfold vW;rw[km,km,km,rR,rR,yZ ef,yZ (jg h1 h2 (by simp) (by simp))];show tokF (32::(dg x.2).cps.toList) _ _=_;rw[ziC,zeJ d1 l1 (by simp) (by simp)];simp
theorem zmz{r:Rw}(h:SmOk (.inr r)):Tk (xO r) (xG (.inr r)):=λF k sk=>by
 obtain⟨⟨a1,a2⟩,⟨b1,b2⟩,⟨c1,c2⟩,hA⟩:=h
 have ef:tokF (Str.ofString "call ").cps.toList F k=some (F++[("call":Str)],.blank):=by
  show tokF ((Str.ofString "call").cps.toList++[32]) F k=_;rw[yZ (jg (by unfold Ltr;decide +kernel) (by decide +kernel) sk.1 sk.2),ziC];rfl
 obtain⟨k2,e2⟩:=zoN hA (F++[("call":Str),r.nm,r.src.1,r.tgt.1,"["]) .sign ⟨by simp,by simp⟩
 have eh:tokF (zdo r).cps.toList F k=some (F++[("call":Str),r.nm,r.src.1,r.tgt.1],.word):=by
  unfold zdo
  have sp:∀{F:List Str}{k:Kd},tokF (Str.ofString " ").cps.toList F k=some (F,.blank):=λ{F k}=>by
   show tokF [32] F k=_;rw[ziC];rfl
  rw[km,km,km,km,km];simp only[rR];rw[yZ ef,yZ (jg a1 a2 (by simp) (by simp)),yZ sp,yZ (jg b1 b2 (by simp) (by simp)),yZ sp,jg c1 c2 (by simp) (by simp)];simp
 refine⟨.sign,?_⟩;unfold xO;rw[km,km,km];simp only[rR];rw[yZ eh];show tokF (32::91::((zgd r.A).cps.toList++[93])) _ _=_;rw[ziC,vo (by decide +kernel)]
 have e91:one 91=(Str.ofString "["):=by decide +kernel
 have e93:one 93=(Str.ofString "]"):=by decide +kernel
 rw[show F++[("call":Str),r.nm,r.src.1,r.tgt.1]++[one 91]=F++[("call":Str),r.nm,r.src.1,r.tgt.1,"["] by rw[e91];simp,yZ e2,vo (by decide +kernel),e93];unfold xG;show some _=some _;simp
theorem zqL{z:Sm}(h:SmOk z):Tk (smT z) (xG z):=by
 cases z with
 | inl x=>exact zkO h.1 h.2.1 h.2.2
 | inr r=>exact zmz h
theorem zkP{zs:List Sm}(h:∀ z∈zs,SmOk z):Tk (Str.join "; " (zs.map smT)) (jn ";" (zs.map xG)):=zeH (λF k=>zjH) zs λz hz=>zqL (h z hz)
end
end P83
namespace P83
open PySem Fc P1 P85 PB PC
open P20 (zX)
open P61 (Lot lD Lo)
open P72 (zae)
def vP(m:Str)(ps:List (List Str))(t:Str):List (List Str):=if t=m then ps++[[]]else ps.dropLast++[(ps.getLast?.getD [])++[t]]
def zcl(m:Str)(ts:List Str):List (List Str):=ts.foldl (vP m) [[]]
noncomputable def PoB:C:=(cIf (tB (e2 oEq (zg 3) (zg 1)))
 (yE (eM yc (zg 2) (za (eN zQ zj) zj)))
 (yE (eM yc (e2 oAt (zg 2) (e1 zay (eC (.int 1)))) (za (zg 3) zj))))
noncomputable def PoE:C:=(zY (eIf (tB (e2 oNe (zg 0) (eN zQ zj))) (zg 2) (eN zQ zj)))
theorem zqq:b_parts_of=zG (zR (eN zQ (za (eN zQ zj) zj)) (gName 2)) (zG (xf (yd .seq (zg 0)) (gName 3) PoB) PoE):=rfl
structure PtI(s0 s':S)(f:Nat)(zs:List Lot):Prop where
 pf:Pf s0 s'
 at_:s'[f]?=some (.lst (zs.map lD))
 lo:Lo s' zs
 nd:(f::zs.map (·.1)).Nodup
 nf:s0.length<=f
 new:∀ z∈zs,s0.length<=z.1
 ne:zs≠[]
section
variable{s s0 s':S}{X:Xc}{Q:D->S->Prop}{P:Pst}{n f:Nat}{ts:List Str}{m t:Str}{zs:List Lot}{v0 v3:Option D}
theorem ziU{G:List Lot}{z:Lot}:L2.atI ((G++[z]).map lD) (-1)=some (.ref z.1):=by
 unfold L2.atI;rw[sG,sY,tR];show(L2.ixN (G.length+1) (-1)).bind _=_;rw[zee];simp[lD]
theorem PtI.add(I:PtI s0 s' f zs):PtI s0 ((s'++[O.lst []]).set f (.lst ((zs++[(s'.length,[])]).map lD))) f (zs++[(s'.length,[])]):=by
 have lf:=zq I.at_;have lz:∀ z∈zs,z.1<s'.length:=λz hz=>zq (I.lo z hz);have nd:=qJ.mp I.nd;refine⟨λw o h=>?_,rF (by simp;omega),λz hz=>?_,?_,I.nf,λz hz=>?_,by simp⟩
 . have:=zq h;have:=I.nf;rw[sV (by omega)];exact Pf.app _ _ (I.pf _ _ h)
 . rcases tZ.mp hz with hz | hz
   . have:z.1≠f:=λe=>nd.1 (by rw[← e];exact sJ hz);rw[sV (sH this)];exact Pf.app _ _ (I.lo z hz)
   . rw[tV.mp hz];rw[sV (by show f≠s'.length;omega)];exact zJ
 . rw[sG,qJ];refine⟨λh=>?_,rK.mpr ⟨nd.2,by simp,λa ha b hb e=>?_⟩⟩
   . rcases tZ.mp h with h | h
     . exact nd.1 h
     . have:=tV.mp h;simp at this;omega
   . obtain⟨z,hz,rfl⟩:=tK.mp ha;have:=lz z hz;have:=tV.mp hb;simp at this;omega
 . rcases tZ.mp hz with hz | hz
   . exact I.new z hz
   . rw[tV.mp hz];exact I.pf.len
theorem PtI.put{G:List Lot}{z:Lot}(I:PtI s0 s' f (G++[z])):PtI s0 (s'.set z.1 (.lst ((z.2++[t]).map .str))) f (G++[(z.1,z.2++[t])]):=by
 have nd:=qJ.mp I.nd;have zf:z.1≠f:=λe=>nd.1 (by rw[← e];simp);have lz:=zq (I.lo z (by simp))
 have hm:(G++[(z.1,z.2++[t])]).map lD=(G++[z]).map lD:=by simp[lD]
 have h1:(G++[(z.1,z.2++[t])]).map (·.1)=(G++[z]).map (·.1):=by simp
 refine⟨λw o h=>?_,by rw[hm,sV zf];exact I.at_,λy hy=>?_,by rw[h1];exact I.nd,I.nf,λy hy=>?_,by simp⟩
 . have:=zq h;have:=I.new z (by simp);rw[sV (by omega)];exact I.pf _ _ h
 . rcases tZ.mp hy with hy | hy
   . have:y.1≠z.1:=λe=>by
      have nd2:=nd.2;rw[sG,rK]at nd2;exact nd2.2.2 y.1 (sJ hy) z.1 (by simp) e
     rw[sV (sH this)];exact I.lo y (rH _ hy)
   . rw[tV.mp hy];exact rF lz
 . rcases tZ.mp hy with hy | hy
   . exact I.new y (rH _ hy)
   . rw[tV.mp hy];exact I.new z (by simp)
theorem zon(I:PtI s0 s f zs)(ot:okS t)(om:okS m)(lz:zs.length<1000000)(lw:∀ z∈zs,z.2.length<1000000)
   (hQ:∀ s' zs',PtI s0 s' f zs'->zs'.map (·.2)=vP m (zs.map (·.2)) t->P.nx [v0,some (.str m),some (.ref f),some (.str t)] s') :
   wC (PoB [v0,some (.str m),some (.ref f),some (.str t)] s) P:=by
 unfold PoB;have lf:=zq I.at_;simp;rw[wk ot om,zB];by_cases h:t=m
 . rw[decide_eq_true h,yj];rw[isl I.at_,yj];have g:(s++[O.lst []])[f]?=some (.lst (zs.map lD)):=Pf.app _ _ I.at_;rw[yr g,zB,decide_eq_true (by simp;omega),yj];have:=hQ _ _ I.add (by unfold vP;rw[if_pos h];simp)
   have e:(zs++[(s.length,([]:List Str))]).map lD=zs.map lD++[.ref s.length]:=by simp[lD]
   rw[e]at this;exact this
 . rw[decide_eq_false h,zbz]
   obtain⟨G,z,rfl⟩:∃ G z,zs=G++[z]:=⟨zs.dropLast,zs.getLast I.ne,(pB I.ne).symm⟩
   have a:atD s (.ref f) (.int (-1))=some (.ref z.1):=by rw[yM I.at_];exact ziU
   rw[a,zB];have hz:=I.lo z (by simp);have lw':=lw z (by simp)
   try rw[isl hz]
   simp
   try rw[isl hz,yj]
   rw[yr hz,zB,decide_eq_true (by simp;omega),yj];have:=hQ _ _ (I.put (t:=t)) (by unfold vP;rw[if_neg h];simp);rw[sG]at this;exact this
def PsOk(n:Nat)(ps:List (List Str)):Prop:=ps.length<=n+1/\∀ p∈ps,p.length<=n
theorem zlX{n:Nat}{ps:List (List Str)}(h:PsOk n ps):PsOk (n+1) (vP m ps t):=by
 obtain⟨h1,h2⟩:=h;unfold vP;split
 . refine⟨by simp;omega,λp hp=>?_⟩
   rcases tZ.mp hp with hp | hp
   . have:=h2 p hp;omega
   . rw[tV.mp hp];simp
 . have gl:(ps.getLast?.getD []).length<=n:=by
     cases e:ps.getLast? with
     | none=>simp
     | some p=>exact h2 p (List.mem_of_getLast? e)
   refine⟨by simp;omega,λp hp=>?_⟩
   rcases tZ.mp hp with hp | hp
   . have:=h2 p (List.dropLast_subset _ hp);omega
   . rw[tV.mp hp];simp;omega
def PoI(s0:S)(v0:Option D)(m:Str)(f N:Nat)(R:List (List Str))(r:List D)(σ:Fc.Env)(s':S):Prop:=∃(post:List Str) (zs:List Lot) (v3:Option D),r=post.map .str/\(∀ t∈post,okS t)/\PtI s0 s' f zs/\post.foldl (vP m) (zs.map (·.2))=R/\(∃ n,n+post.length=N/\PsOk n (zs.map (·.2)))/\σ=[v0,some (.str m),some (.ref f),v3]
theorem jf(hn:s[n]?=some (.lst (ts.map .str)))(ok:∀ t∈ts,okS t)(om:okS m)(lt:ts.length<900000)
   (hQ:∀ s' f zs,Pf s s'->s.length<=f->s'[f]?=some (.lst (zs.map lD))->Lo s' zs->(f::zs.map (·.1)).Nodup->(∀ z∈zs,s.length<=z.1)->zs.map (·.2)=(if ts=[]then []else zcl m ts)->Q (.ref f) s'):wE (d_parts_of [.ref n,.str m] s) Q X:=by
 unfold d_parts_of;refine(yW (by rfl)).mpr ?_;rw[zqq];generalize hB:PoB=Bd;generalize hE:PoE=En;simp
 have g1:(s++[O.lst [],O.lst [.ref s.length]])[s.length]?=some (.lst []):=by simp
 have g2:(s++[O.lst [],O.lst [.ref s.length]])[s.length+1]?=some (.lst [.ref s.length]):=by simp
 have I:PtI s (s++[O.lst [],O.lst [.ref s.length]]) (s.length+1) [(s.length,[])]:=⟨Pf.app,by rw[g2];rfl,λz hz=>by rw[tV.mp hz];exact g1,by simp,by omega,λz hz=>by rw[tV.mp hz];exact tX _,by simp⟩
 generalize hs1:s++[O.lst [],O.lst [.ref s.length]]=s1 at *;rw[zX (I.pf _ _ hn),zB];dsimp only;refine xF (PoI s (some (.ref n)) m (s.length+1) ts.length (zcl m ts)) (λr σ s' ⟨_,_,_,_,_,J,_⟩=>J.pf _ _ hn) ?_ ?_ _ 0 (by simp) ⟨ts,_,none,rfl,ok,I,rfl,⟨0,by omega,by simp[PsOk]⟩,rfl⟩
 . rintro d r σ s' ⟨post,zs,v3,er,ok',J,eR,⟨k,ek,po⟩,rfl⟩
   cases post with
   | nil=>cases er
   | cons t post =>
     rw[tM,List.cons.injEq]at er;obtain⟨rfl,rfl⟩:=er;refine⟨_,rfl,?_⟩;rw[← hB];rw[sS]at ek;have pl:=po.1;rw[tR]at pl;refine zon J (ok' t (tH)) om (by omega) (λz hz=>by have:=po.2 z.2 (sJ hz);omega) λs2 zs' J2 e2=>?_;refine⟨post,zs',_,rfl,λu hu=>ok' u (tQ _ hu),J2,by rw[e2,← eR];rfl,⟨k+1,by omega,by rw[e2];exact zlX po⟩,rfl⟩
 . rintro σ s' ⟨post,zs,v3,er,ok',J,eR,⟨k,ek,po⟩,rfl⟩
   have hp:post=[]:=by simpa using er.symm
   subst hp;have eR:zs.map (·.2)=zcl m ts:=eR;rw[← hE];unfold PoE;simp;have q3:Pf s' (s'++[O.lst []]):=Pf.app;have g3:=zJ (s:=s') (o:=O.lst []);rw[zae (M:=[]) (q3 _ _ (J.pf _ _ hn)) g3 ok (by simp),zB]
   by_cases h:ts=[]
   . rw[decide_eq_true h];simp;refine hQ _ _ [] (J.pf.trans Pf.app) (by have:=J.pf.len;simp;omega) ?_ (λz hz=>by cases hz) (by simp) (λz hz=>by cases hz) (by rw[if_pos h];rfl);simp
   . rw[decide_eq_false h];simp;refine hQ _ _ zs (J.pf.trans q3) J.nf (q3 _ _ J.at_) (λz hz=>q3 _ _ (J.lo z hz)) J.nd J.new (by rw[if_neg h];exact eR)
end
end P83
namespace P83
open PySem Fc P1 P85 PB PC P41
open P20 (zX)
open P61 (Lot lD Lo)
open P72 (zae)
open PW (dg)
theorem spl_part{m:Str}:∀(a:List Str) {G:List (List Str)}{p:List Str},m∉a->a.foldl (vP m) (G++[p])=G++[p++a]
 | [],G,p,_=>by simp
 | t::a,G,p,h=>by
  have ht:t≠m:=λe=>h (by rw[e];exact tH);rw[rP,show vP m (G++[p]) t=G++[p++[t]] by unfold vP;rw[if_neg ht];simp,spl_part a λz=>h (tQ _ z)];simp
theorem zkJ{m:Str}:∀(ps:List (List Str)) {G:List (List Str)},ps≠[]->(∀ p∈ps,m∉p)->(jn m ps).foldl (vP m) (G++[[]])=G++ps
 | [],_,h,_=>absurd rfl h
 | [a],G,_,h=>by
  rw[show jn m [a]=a from rfl,spl_part a (h a (tH))];simp
 | a::b::r,G,_,h=>by
  rw[show jn m (a::b::r)=a++m::jn m (b::r)from rfl,qL,spl_part a (h a (tH)),rP,show vP m (G++[[]++a]) m=(G++[a])++[[]] by unfold vP;rw[if_pos rfl];simp,
   zkJ (b::r) (by simp) λp hp=>h p (tQ _ hp)]
  simp
theorem zfH{m:Str}{ps:List (List Str)}(h:∀ p∈ps,m∉p/\p≠[]):(if jn m ps=[]then []else zcl m (jn m ps))=ps:=by
 cases ps with
 | nil=>rfl
 | cons a r =>
  have ne:jn m (a::r)≠[]:=by
   cases r with
   | nil=>exact(h a (tH)).2
   | cons b r=>exact λz=>by simp[jn]at z
  rw[if_neg ne];exact zkJ (a::r) (G:=[]) (by simp) λp hp=>(h p hp).1
section
variable{s s':S}{X:Xc}{Q:D->S->Prop}{n f:Nat}{x:Str}
theorem signs_one{x:Str}:signs x=x.cps.toList.map λc=>.str (one c):=rfl
theorem zfb{α:Type}{as:List α}{f:α->Bool}(h:∀ a∈as,f a=false):as.filter f=[]:=List.filter_eq_nil_iff.mpr λa ha z=>by rw[h a ha]at z;cases z
theorem zei(p:Pf s s')(h1:s'[n]?=some (.lst []))(h2:s'[f]?=some (.lst [])):eqD s' (.ref n) (.ref f)=some true:=by
 rw[zae (N:=[]) (M:=[]) h1 h2 (by simp) (by simp)];rfl
theorem vQ(hx:Ltr x)(lx:x.length<1000000)(hQ:∀ s',Pf s s'->Q (.bl true) s'):wE (d_is_word [.str x] s) Q X:=by
 unfold d_is_word;refine(yW (by rfl)).mpr ?_;unfold b_is_word
 have hl:x.cps.toList.length=x.length:=by simp[Str.length]
 simp[srcOf];rw[signs_one];refine zkD (mk:=λc=>D.str (one c)) (as:=x.cps.toList) (λc=>!decide (c∈(Str.ofString "abcdefghijklmnopqrstuvwxyz").cps.toList)) (λc=>D.str (one c)) (by omega) (λc hc s1 p1=>⟨_,rfl,?_,λ_=>?_⟩) ?_
 . simp[Fc.wipe];have:=zcv (s:=s1) (c:=c) (x:=Str.ofString "abcdefghijklmnopqrstuvwxyz");rw[show D.str (one c)=.str ⟨#[c]⟩from rfl,this];simp
 . simp[Fc.wipe]
 . rw[zfb λc hc=>by
    have h:∀ i:Fin 26,decide ((97+i.val)∈(Str.ofString "abcdefghijklmnopqrstuvwxyz").cps.toList)=true:=by decide +kernel
    have:=h ⟨c - 97,by have:=hx c hc;omega⟩;rw[show 97+(c - 97)=c by have:=hx c hc;omega]at this;rw[this]
    rfl]
   simp;have p1:Pf s (s++[O.lst [],O.lst []]):=Pf.app
   have g1:(s++[O.lst [],O.lst []])[s.length]?=some (.lst []):=by simp
   have g2:(s++[O.lst [],O.lst []])[s.length+1]?=some (.lst []):=by simp
   rw[zei p1 g1 g2,zB];exact hQ _ p1
theorem uX{n:Nat}(hn:n<4)(hQ:∀ s',Pf s s'->Q (.bl true) s'):wE (d_is_number [.str (dg n)] s) Q X:=by
  unfold d_is_number;refine(yW (by rfl)).mpr ?_;unfold b_is_number;obtain⟨hd,_⟩:=zag hn;have hl:(dg n).length=1:=PW.wY hn
  have hl2:(dg n).cps.toList.length=1:=by simpa[Str.length]using hl
  simp[zbk,hl,srcOf];rw[signs_one];refine zkD (mk:=λc=>D.str (one c)) (as:=(dg n).cps.toList) (λc=>!decide (c∈(Str.ofString "0123456789").cps.toList)) (λc=>D.str (one c)) (by omega) (λc hc s1 p1=>⟨_,rfl,?_,λ_=>?_⟩) ?_
  . simp[Fc.wipe];have:=zcv (s:=s1) (c:=c) (x:=Str.ofString "0123456789");rw[show D.str (one c)=.str ⟨#[c]⟩from rfl,this];simp
  . simp[Fc.wipe]
  . rw[zfb λc hc => by
      have h:∀ i:Fin 10,decide ((48+i.val)∈(Str.ofString "0123456789").cps.toList)=true:=by decide +kernel
      have:=h ⟨c - 48,by have:=hd c hc;omega⟩;rw[show 48+(c - 48)=c by have:=hd c hc;omega]at this;rw[this]
      rfl]
    simp;have p1:Pf s (s++[O.lst [],O.lst []]):=Pf.app
    have g1:(s++[O.lst [],O.lst []])[s.length]?=some (.lst []):=by simp
    have g2:(s++[O.lst [],O.lst []])[s.length+1]?=some (.lst []):=by simp
    rw[zei p1 g1 g2,zB];simp;generalize s++[O.lst [],O.lst []]=s2 at *
    have a0:atD s2 (.str (dg n)) (.int 0)=some (.str (one (48+n))):=by
      have e:L2.atI (dg n).cps.toList 0=some (48+n):=by
        match n,hn with
        | 0,_=>decide +kernel
        | 1,_=>decide +kernel
        | 2,_=>decide +kernel
        | 3,_=>decide +kernel
      show(if sz (dg n).length then (L2.atI (dg n).cps.toList 0).map λc=>D.str ⟨#[c]⟩else none)=_;rw[if_pos (by rw[hl];decide),e];rfl
    have b0:decide (dg n=Str.ofString "0")=decide (n=0):=by
      match n,hn with
      | 0,_=>decide +kernel
      | 1,_=>decide +kernel
      | 2,_=>decide +kernel
      | 3,_=>decide +kernel
    have c0:decide (one (48+n)=Str.ofString "0")=decide (n=0):=by
      match n,hn with
      | 0,_=>decide +kernel
      | 1,_=>decide +kernel
      | 2,_=>decide +kernel
      | 3,_=>decide +kernel
    have o1:okS (one (48+n)):=λc hc=>by
      have:c=48+n:=by simpa[one]using hc
      omega
    rw[wk (PW.zgS n) yf,zB,b0,a0,zB,wk o1 yf,zB,c0];by_cases h:n=0
    . rw[decide_eq_true h,yj];exact hQ _ p1
    . rw[decide_eq_false h,zbz];exact hQ _ p1
end
end P83
namespace P83
open PySem Fc P1 P85 PB PC P41
open P20 (zX)
open P61 (Lot lD Lo)
open PW (dg)
noncomputable def zpv:C:=(yE (eM yc (zg 1) (za (eN ye (za (eN kJ (za (e2 oAt (zg 2) (eC (.int 0))) zj)) (za (eN kJ (za (e2 oAt (zg 2) (eC (.int 2))) zj)) (za (e2 oEq (e2 oAt (zg 2) (eC (.int 1))) (eC (.str ">"))) zj)))) zj)))
noncomputable def AiB:C:=(zG (cIf (tOr (tB (e2 oNe (eN wW (za (zg 2) zj)) (eC (.int 3)))) (tOr (tNot (tE (zE d_is_number [] (za (e2 oAt (zg 2) (eC (.int 0))) zj)))) (tOr (tB (e2 yU (e2 oAt (zg 2) (eC (.int 1))) (eN ye (za (eC (.str ">")) (za (eC (.str ">=")) zj))))) (tNot (tE (zE d_is_number [] (za (e2 oAt (zg 2) (eC (.int 2))) zj)))))))
 (zY (eC .non))
 yL) zpv)
theorem zmP:b_arcs_in=zG (zR (eN zQ zj) (gName 1)) (zG (xf (yd .seq (zE d_parts_of [] (za (zg 0) (za (eC (.str ",")) zj)))) (gName 2) AiB) (zY (zg 1))):=rfl
section
variable{s s0 s':S}{X:Xc}{Q:D->S->Prop}{P:Pst}{n f z:Nat}{a:Arc}{A G:List Arc}{v0 v2:Option D}
theorem zhl{n:Nat}(h:n<4):zfT (.str (dg n))=some (n:Int):=by
 have l:(dg n).length=1:=PW.wY h
 have e:PySem.intText? (dg n)=some (n:Int):=by
  match n,h with
  | 0,_=>decide +kernel
  | 1,_=>decide +kernel
  | 2,_=>decide +kernel
  | 3,_=>decide +kernel
 unfold zfT;dsimp only;rw[if_pos (by omega),e]
theorem zjF(b:Bool):okS (uf b):=by cases b <;> exact yf
theorem zkK(hz:s[z]?=some (.lst ((yw a).map .str)))(h1:a.1<4)(h2:a.2.1<4)(hf:s[f]?=some (.lst (G.map aD)))(lG:G.length<1000000)
   (hQ:∀ s',(∀ m:Nat,m≠f->∀ o,s[m]?=some o->s'[m]?=some o)->s.length<=s'.length->s'[f]?=some (.lst ((G++[a]).map aD))->P.nx [v0,some (.ref f),some (.ref z)] s') :
   wC (AiB [v0,some (.ref f),some (.ref z)] s) P:=by
 unfold AiB;generalize hE:zpv=En
 have lz:∀{s':S},Pf s s'->zbk s' (.ref z)=some 3:=λ{s'} p=>by rw[vY (p _ _ hz)];rfl
 have a0:∀{s':S},Pf s s'->atD s' (.ref z) (.int 0)=some (.str (dg a.1)):=λ{s'} p=>by rw[yM (p _ _ hz)];rfl
 have a1:∀{s':S},Pf s s'->atD s' (.ref z) (.int 1)=some (.str (uf a.2.2)):=λ{s'} p=>by rw[yM (p _ _ hz)];rfl
 have a2:∀{s':S},Pf s s'->atD s' (.ref z) (.int 2)=some (.str (dg a.2.1)):=λ{s'} p=>by rw[yM (p _ _ hz)];rfl
 have r0:Pf s s:=Pf.refl
 have it:∀ s:S,isIn s (.str (uf a.2.2)) (.tup [.str (Str.ofString ">"),.str (Str.ofString ">=")])=some true:=λs=>by
   show isIn [] (.str (uf a.2.2)) (.tup [.str (Str.ofString ">"),.str (Str.ofString ">=")])=_;cases a.2.2 <;> decide +kernel
 have eq:∀ s:S,eqD s (.str (uf a.2.2)) (.str (Str.ofString ">"))=some a.2.2:=λs=>by
   rw[wk (zjF _) yf];cases a.2.2 <;> decide +kernel
 simp[lz r0,a0 r0];rw[yN,zB];simp;refine uX h1 λs1 p1=>?_;simp[a1 p1,it,a2 p1];refine uX h2 λs2 p2=>?_;have p:=p1.trans p2;simp;rw[← hE];unfold zpv;have hf2:=p _ _ hf;simp[a0 p,a1 p,a2 p,eq,zhl h1,zhl h2]
 try rw[isl hf2,yj]
 rw[yr hf2,zB,decide_eq_true (by simp;omega),yj];refine hQ _ (λm hm o h=>?_) (by rw[List.length_set];exact p.len) ?_
 . rw[sV (sH hm)];exact p _ _ h
 . rw[rF (zq hf2)];simp[aD]
theorem znb{n:Nat}(h:n<4){t:Str}(c:Nat)(hc:c∈t.cps.toList)(h2:c<48):t≠dg n:=λe=>by
 have:=(zag h).1 c (by rw[← e];exact hc);omega
theorem zaP{A:List Arc}(hA:∀ a∈A,a.1<4/\a.2.1<4):(if jn "," (A.map yw)=[]then []else zcl "," (jn "," (A.map yw)))=A.map yw:=zfH λp hp=>by
 obtain⟨a,ha,rfl⟩:=tK.mp hp;refine⟨λh=>?_,by simp[yw]⟩;unfold yw at h
 have c1:44∈((",":Str)).cps.toList:=by decide +kernel
 rcases tU.mp h with h | h
 . exact znb (hA a ha).1 44 c1 (by decide) h
 . rcases tU.mp h with h | h
   . revert h;cases a.2.2 <;> decide +kernel
   . exact znb (hA a ha).2 44 c1 (by decide) (tV.mp h)
def AiI(s0:S)(f:Nat)(v0:Option D)(A:List Arc)(zs:List Lot)(n:Nat)(r:List D)(σ:Fc.Env)(s':S):Prop:=∃(pre post:List Arc) (ys:List Lot) (v2:Option D),A=pre++post/\ys.map (·.2)=post.map yw/\(∀ y∈ys,y∈zs)/\r=ys.map lD/\(∀ m:Nat,m≠f->∀ o,s0[m]?=some o->s'[m]?=some o)/\s0.length<=s'.length/\s'[f]?=some (.lst (pre.map aD))/\σ=[v0,some (.ref f),v2]
theorem zgs(hn:s[n]?=some (.lst ((jn "," (A.map yw)).map .str)))(hA:∀ a∈A,a.1<4/\a.2.1<4)(lA:A.length<=40)(ok:∀ t∈jn "," (A.map yw),okS t)(lt:(jn "," (A.map yw)).length<900000)
   (hQ:∀ s' f,Pf s s'->s.length<=f->s'[f]?=some (.lst (A.map aD))->Q (.ref f) s'):wE (d_arcs_in [.ref n] s) Q X:=by
 unfold d_arcs_in;refine(yW (by rfl)).mpr ?_;rw[zmP];generalize hB:AiB=Bd;simp;have p0:Pf s (s++[O.lst []]):=Pf.app;have g0:=zJ (s:=s) (o:=O.lst []);generalize hs1:s++[O.lst []]=s1 at *
 have l1:s1.length=s.length+1:=by rw[← hs1];simp
 refine jf (m:=",") (p0 _ _ hn) ok yf lt λs2 r zs p2 hr h2 lo nd new e=>?_;rw[zaP hA]at e;rw[zX h2,zB];dsimp only
 have zf:∀ z∈zs,z.1≠s.length:=λz hz=>by have:=new z hz;omega
 refine xF (AiI s2 s.length (some (.ref n)) A zs r) (λr' σ s' ⟨_,_,_,_,_,_,_,_,k,_⟩=>k r (by omega) _ h2) ?_ ?_ _ 0 (by simp) ⟨[],A,zs,none,rfl,e,λy hy=>hy,rfl,λm _ o h=>h,tX _,p2 _ _ g0,rfl⟩
 . rintro d r' σ s' ⟨pre,post,ys,v2,eA,ey,hy,er,k,l,hf,rfl⟩
   cases ys with
   | nil=>cases er
   | cons y ys =>
    cases post with
    | nil=>cases ey
    | cons a post =>
     rw[tM,List.cons.injEq]at er;obtain⟨rfl,rfl⟩:=er;rw[tM,tM,List.cons.injEq]at ey;refine⟨_,rfl,?_⟩;rw[← hB];have hyz:=hy y (tH);have ha:=hA a (by rw[eA];simp)
     have lz:s'[y.1]?=some (.lst ((yw a).map .str)):=by
      rw[← ey.1];exact k _ (zf y hyz) _ (lo y hyz)
     have lp:pre.length<=40:=by have:=congrArg List.length eA;simp at this;omega
     exact zkK lz ha.1 ha.2 hf (by omega) λs3 k3 l3 h3=>⟨pre++[a],post,ys,_,by rw[eA];simp,ey.2,λx hx=>hy x (tQ _ hx),rfl,λm hm o h=>k3 m hm o (k m hm o h),sW l l3,h3,rfl⟩
 . rintro σ s' ⟨pre,post,ys,v2,eA,ey,hy,er,k,l,hf,rfl⟩
   have:ys=[]:=by simpa using er.symm
   subst this
   have:post=[]:=by simpa using ey.symm
   subst this;rw[sE]at eA;subst eA;simp;refine hQ s' _ (λm o h=>?_) (tX _) hf;have:=zq h;exact k m (by omega) o (p2 _ _ (p0 _ _ h))
end
open P72 (zae zgP)
noncomputable section
def SiE:C:=(zY (eIf (tB (e1 zhR (zg 3))) (eC .non) (eN ye (za (e2 oAt (zg 0) (eC (.int 1))) (za (e2 oAt (zg 0) (eC (.int 2))) (za (e2 oAt (zg 0) (eC (.int 3))) (za (zg 3) zj)))))))
def SiD:C:=(zG (zR (zE d_arcs_in [] (za (zaU (zg 0) (jH (eC (.int 5))) (jH (e1 zay (eC (.int 1))))) zj)) (gName 3)) SiE)
def SiC:C:=(zG (cIf (tOr (tB (e2 oNe (e2 oAt (zg 0) (eC (.int 0))) (eC (.str "call")))) (tOr (tNot (tE (zg 2))) (tOr (tB (e2 oNe (e2 oAt (zg 0) (eC (.int 4))) (eC (.str "[")))) (tB (e2 oNe (e2 oAt (zg 0) (e1 zay (eC (.int 1)))) (eC (.str "]")))))))
 (zY (eC .non))
 yL) SiD)
def SiB:C:=(zG (zR (uH (e2 oGt (eN wW (za (zg 0) zj)) (eC (.int 5))) (uH (zE d_is_word [] (za (e2 oAt (zg 0) (eC (.int 2))) zj)) (zE d_is_word [] (za (e2 oAt (zg 0) (eC (.int 3))) zj)))) (gName 2)) SiC)
def SiA:C:=(zG (cIf (tB (e2 oEq (e2 oAt (zg 0) (eC (.int 0))) (eC (.str "fun"))))
 (zY (eIf (tAnd (tB (e2 oEq (eN wW (za (zg 0) zj)) (eC (.int 3)))) (tE (zE d_is_number [] (za (e2 oAt (zg 0) (eC (.int 2))) zj)))) (eN ye (za (e2 oAt (zg 0) (eC (.int 1))) (za (eN kJ (za (e2 oAt (zg 0) (eC (.int 2))) zj)) zj))) (eC .non)))
 yL) SiB)
theorem zqz:b_statement_in=zG (cIf (tOr (tB (e2 oNe (eLc [1] (yd .seq (zaU (zg 0) pNo (jH (eC (.int 2))))) (gName 1) (tNot (tE (zE d_is_word [] (za (zg 1) zj)))) (zg 1)) (eN zQ zj))) (tB (e2 oLt (eN wW (za (zg 0) zj)) (eC (.int 3)))))
 (zY (eC .non))
 yL) SiA:=rfl
end
section
variable{s s':S}{X:Xc}{Q:D->S->Prop}{P:Pst}{n f:Nat}{ts M:List Str}{x y:Str}{r:Rw}{v1 v2 v3:Option D}
theorem zgO{α:Type}{a b c d e w:α}{M:List α}:kE ([a,b,c,d,e]++M++[w]) (some 5) (some (-1))=M:=by
 unfold kE
 have h1:HT.sIx ([a,b,c,d,e]++M++[w]).length 0 (some 5)=5:=by
  rw[show(5:Int)=((5:Nat):Int)from rfl,HT.sIx_nat];simp
 have h2:HT.sIx ([a,b,c,d,e]++M++[w]).length ([a,b,c,d,e]++M++[w]).length (some (-1))=5+M.length:=by
  show(if (-1:Int)<0 then ((-1:Int)+(([a,b,c,d,e]++M++[w]).length:Int)).toNat else min (-1:Int).toNat ([a,b,c,d,e]++M++[w]).length)=_;rw[if_pos (by decide)];simp;omega
 rw[h1,h2];simp
theorem ziw(hn:s[n]?=some (.lst ((x::y::ts).map .str)))(hx:Ltr x)(hy:Ltr y)(lx:x.length<1000000)(ly:y.length<1000000)(lt:1<=ts.length)
   (hQ:∀ s',Pf s s'->wC (SiA [some (.ref n),v1,v2,v3] s') P) :
   wC (b_statement_in [some (.ref n),v1,v2,v3] s) P:=by
 rw[zqz];generalize hE:SiA=En;simp;refine P31.zhS hn λs1 c p1 g1 _=>?_
 have e2:kE ((x::y::ts).map D.str) none (some 2)=[x,y].map .str:=by
   rw[show(2:Int)=((2:Nat):Int)from rfl,zgP];rfl
 rw[e2]at g1;rw[zX g1,zB];dsimp only;rw[tR];refine zcm (fx:=D.str) (λ_=>none) g1 (by simp) (λw hw s2 p2=>⟨_,rfl,?_⟩) λs2 p2 g2=>?_
 . have:Ltr w/\w.length<1000000:=by
    rcases tU.mp hw with rfl | hw
    . exact⟨hx,lx⟩
    . rw[tV.mp hw];exact⟨hy,ly⟩
   simp[Fc.wipe];refine vQ this.1 this.2 λs3 p3=>?_;simp;exact p3
 . have e3:([x,y].filterMap λ_=>(none:Option D))=[]:=rfl;rw[e3]at g2
   try simp
   have p3:Pf s2 (s2++[O.lst []]):=Pf.app;rw[zei p3 (p3 _ _ g2) zJ,zB];have p13:=(p1.trans p2).trans p3
   have l:zbk (s2++[O.lst []]) (.ref n)=some (ts.length+2):=by rw[vY (p13 _ _ hn)];simp
   simp[l];rw[decide_eq_false (by omega)];simp;rw[← hE];exact hQ _ p13
theorem zdD{x:Str×Nat}(hn:s[n]?=some (.lst ((xG (.inl x)).map .str)))(hz:SmOk (.inl x))(lx:x.1.length<=12)(hQ:∀ s',Pf s s'->Q (hD x) s'):wE (d_statement_in [.ref n] s) Q X:=by
 unfold d_statement_in;refine(yW (by rfl)).mpr ?_;obtain⟨h1,h2,h3⟩:=hz;show wC (b_statement_in [some (.ref n),none,none,none] s) _;refine ziw (x:="fun") (y:=x.1) (ts:=[dg x.2]) hn (by unfold Ltr;decide +kernel) h1 (by decide +kernel) (by omega) (by simp) λs1 p1=>?_;unfold SiA;generalize hE:SiB=En
 have b0:atD s1 (.ref n) (.int 0)=some (.str (Str.ofString "fun")):=by rw[yM (p1 _ _ hn)];rfl
 have lt:zbk s1 (.ref n)=some 3:=by rw[vY (p1 _ _ hn)];rfl
 have b2:∀{s':S},Pf s s'->atD s' (.ref n) (.int 2)=some (.str (dg x.2)):=λ{s'} p=>by rw[yM (p _ _ hn)];rfl
 have b1:∀{s':S},Pf s s'->atD s' (.ref n) (.int 1)=some (.str x.1):=λ{s'} p=>by rw[yM (p _ _ hn)];rfl
 have ef:eqD s1 (.str (Str.ofString "fun")) (.str (Str.ofString "fun"))=some true:=by rw[wk yf yf,decide_eq_true rfl]
 simp[b0,ef,lt,b2 p1];rw[yN,zB];simp;refine uX h3 λs2 p2=>?_;have p:=p1.trans p2;simp[b1 p,b2 p,zhl h3];exact hQ _ p
theorem zgv(hn:s[n]?=some (.lst ((xG (.inr r)).map .str)))(hz:SmOk (.inr r))(l1:r.nm.length<=12)(l2:r.src.1.length<=12)(l3:r.tgt.1.length<=12)(lA:r.A.length<=40)(ok:∀ t∈jn "," (r.A.map yw),okS t)(lt:(jn "," (r.A.map yw)).length<900000)
  (hQ:∀ s' f,Pf s s'->s.length<=f->s'[f]?=some (.lst (r.A.map aD))->Q (.tup [.str r.nm,.str r.src.1,.str r.tgt.1,.ref f]) s'):wE (d_statement_in [.ref n] s) Q X:=by
 unfold d_statement_in;refine(yW (by rfl)).mpr ?_;obtain⟨⟨a1,a2⟩,⟨c1,c2⟩,⟨d1,d2⟩,hA⟩:=hz;show wC (b_statement_in [some (.ref n),none,none,none] s) _
 have em:(xG (.inr r)).map D.str=([D.str "call",.str r.nm,.str r.src.1,.str r.tgt.1,.str "["]++(jn "," (r.A.map yw)).map D.str++[.str "]"]):=by simp[xG]
 refine ziw (x:="call") (y:=r.nm) (ts:=([r.src.1,r.tgt.1,("[":Str)]:List Str)++jn "," (r.A.map yw)++([("]":Str)]:List Str)) (by rw[hn];simp[xG]) (by unfold Ltr;decide +kernel) a1 (by decide +kernel) (by omega) (by simp) λs1 p1=>?_;rw[em]at hn
 have at5:∀{s':S},Pf s s'->atD s' (.ref n) (.int 0)=some (.str (Str.ofString "call"))/\atD s' (.ref n) (.int 1)=some (.str r.nm)/\atD s' (.ref n) (.int 2)=some (.str r.src.1)/\atD s' (.ref n) (.int 3)=some (.str r.tgt.1)/\atD s' (.ref n) (.int 4)=some (.str (Str.ofString "["))/\atD s' (.ref n) (.int (-1))=some (.str (Str.ofString "]"))/\zbk s' (.ref n)=some ((jn "," (r.A.map yw)).length+6):=λ{s'} p=>by
  have h:=p _ _ hn;refine⟨?_,?_,?_,?_,?_,?_,?_⟩
  . rw[yM h,show(0:Int)=((0:Nat):Int)from rfl,atI_nat];rfl
  . rw[yM h,show(1:Int)=((1:Nat):Int)from rfl,atI_nat];rfl
  . rw[yM h,show(2:Int)=((2:Nat):Int)from rfl,atI_nat];rfl
  . rw[yM h,show(3:Int)=((3:Nat):Int)from rfl,atI_nat];rfl
  . rw[yM h,show(4:Int)=((4:Nat):Int)from rfl,atI_nat];rfl
  . rw[yM h];have:=zaF (G:=[("call":Str),r.nm,r.src.1,r.tgt.1,"["]++jn "," (r.A.map yw)) (t:="]");rw[sG,sG]at this;exact this
  . rw[vY h];simp
 have r1:=at5 p1;have ec:∀(s:S) (a b:String),eqD s (.str (Str.ofString a)) (.str (Str.ofString b))=some (decide ((Str.ofString a)=Str.ofString b)):=λs a b=>wk yf yf
 have d1':decide (Str.ofString "call"=Str.ofString "fun")=false:=by decide +kernel
 unfold SiA;generalize hE:SiB=En;simp[r1.1,ec,d1'];rw[← hE];unfold SiB;generalize hE:SiC=En;simp[r1.2.2.2.2.2.2];rw[decide_eq_true (by omega),yj];simp[r1.2.2.1];refine vQ c1 (by omega) λs2 p2=>?_;have p12:=p1.trans p2;have r2:=at5 p12;simp[r2.2.2.2.1];refine vQ d1 (by omega) λs3 p3=>?_;have p13:=p12.trans p3;have r3:=at5 p13;rw[← hE];unfold SiC;generalize hE:SiD=En;have d2':∀ a:String,decide (Str.ofString a=Str.ofString a)=true:=λa=>decide_eq_true rfl;simp[r3.1,ec,r3.2.2.2.2.1,r3.2.2.2.2.2.1];rw[← hE];unfold SiD;generalize hE:SiE=En;simp;refine P31.zhS (p13 _ _ hn) λs4 c p4 g4 _=>?_;rw[zgO]at g4;have p14:=p13.trans p4;refine zgs g4 hA lA ok lt λs5 f p5 lf g5=>?_;have p15:=p14.trans p5;have r5:=at5 p15
 try simp
 rw[← hE];unfold SiE;simp[r5.2.1,r5.2.2.1,r5.2.2.2.1];exact hQ s5 f p15 (sW p14.len lf) g5
end
end P83
namespace Fc
open PySem
section
variable{σ:Env}{s:S}
@[simp ↓] theorem zmK{sub:List Str}{i:Nat}{e:E}{u:C}{P:Pst}:wC (zdQ sub i (zY e) u σ s) P↔wE (e σ s) (λd s1=>P.rt d s1) (λc fs s'=>onT (sub.contains c) (wC (u (σ.set i (some (.ref s'.length))) (s'++[.err c fs])) { nx:=λσ2 s2=>P.nx (σ2.set i none) s2,rt:=P.rt,xc:=λ_ _ _=>False }) (P.xc c fs s')):=by
 with_unfolding_all
  unfold zdQ zY ex
  cases h:e σ s with
  | none=>rfl
  | some r =>
   cases r with
   | ok d s' =>
    rw[uB];exact Iff.rfl
   | exc c fs s' =>
    dsimp only
    cases hc:sub.contains c with
    | true =>
     rw[if_pos rfl,zjU,hc,yj]
     cases hu:u (σ.set i (some (.ref s'.length))) (s'++[.err c fs])with
     | none=>rfl
     | some r2=>cases r2 <;> rfl
    | false =>
     rw[if_neg (by simp),zjU,hc,zbz];exact Iff.rfl
end
end Fc
namespace P83
open PySem Fc P1 P85 PB PC P41
open P20 (zX)
open P61 (Lot lD Lo)
open PW (dg ct Arcs wj Gd Wd uF)
def smD:Sm->D
 | .inl x=>hD x
 | .inr r=>rwD r
def smct:Sm->Sm
 | .inl x=>.inl x
 | .inr r=>.inr (ct r)
def SmV(N:Nat)(z:Sm)(y:D)(s:S):Prop:=∃ z':Sm,smct z'=smct z/\y=smD z'/\∀ r,z'=.inr r->N<r.a/\s[r.a]?=some (.lst (r.A.map aD))
def ltS(zs:List Sm):List (Str×Nat):=zs.filterMap Sum.getLeft?
def rtS(zs:List Sm):List Rw:=zs.filterMap Sum.getRight?
section
variable{s:S}{n N:Nat}{x y:Str}{zs zs':List Sm}
theorem zipped:∀{as:List Lot}{zs:List Sm},as.map (·.2)=zs.map xG->∃ xs:List (Lot×Sm),as=xs.map Prod.fst/\zs=xs.map Prod.snd/\∀ p∈xs,p.1.2=xG p.2
 | [],[],_=>⟨[],rfl,rfl,λ_ h=>nomatch h⟩
 | [],_::_,h=>by cases h
 | _::_,[],h=>by cases h
 | a::as,z::zs,h=>by
  rw[tM,tM,List.cons.injEq]at h;obtain⟨xs,e1,e2,e3⟩:=zipped h.2;refine⟨(a,z)::xs,by rw[e1];rfl,by rw[e2];rfl,λp hp=>?_⟩
  rcases tU.mp hp with rfl | hp
  . exact h.1
  . exact e3 p hp
theorem zeA:∀{xs:List (Lot×Sm)}{acc:List D},wj (λp y=>SmV N p.2 y s) xs acc->∃ zs':List Sm,acc=zs'.map smD/\zs'.map smct=(xs.map Prod.snd).map smct/\∀ r,Sum.inr r∈zs'->N<r.a/\s[r.a]?=some (.lst (r.A.map aD))
 | [],[],_=>⟨[],rfl,rfl,λ_ h=>nomatch h⟩
 | [],_::_,h=>h.elim
 | _::_,[],h=>h.elim
 | p::xs,y::acc,h=>by
  obtain⟨⟨z,e1,e2,e3⟩,h⟩:=h;obtain⟨zs',f1,f2,f3⟩:=zeA h;refine⟨z::zs',by rw[e2,f1];rfl,by rw[tM,tM,tM,e1,f2],λr hr=>?_⟩
  rcases tU.mp hr with e | hr
  . exact e3 r e.symm
  . exact f3 r hr
theorem ziX{α:Type}{a b:α}{as bs:List α}(h:a=b)(k:as=bs):a::as=b::bs:=by rw[h,k]
theorem zlD:∀{zs zs':List Sm},zs'.map smct=zs.map smct->ltS zs'=ltS zs/\(rtS zs').map ct=(rtS zs).map ct
 | [],[],_=>⟨rfl,rfl⟩
 | [],_::_,h=>by cases h
 | _::_,[],h=>by cases h
 | z::zs,z'::zs',h=>by
  rw[tM,tM,List.cons.injEq]at h;obtain⟨i1,i2⟩:=zlD h.2;unfold ltS rtS at *;cases z <;> cases z'
  . have:∀ a b:Str×Nat,smct (.inl a)=smct (.inl b)->a=b:=λa b e=>Sum.inl.inj e;exact⟨ziX (this _ _ h.1) i1,i2⟩
  . cases h.1
  . cases h.1
  . have:∀ a b:Rw,smct (.inr a)=smct (.inr b)->ct a=ct b:=λa b e=>Sum.inr.inj e;exact⟨i1,ziX (this _ _ h.1) i2⟩
def smP:Sm->PyData
 | .inl x=>.tuple [.str x.1,.int x.2]
 | .inr r=>uF r
theorem zdW{n:Nat}:∀{zs:List Sm},(∀ r,Sum.inr r∈zs->s[r.a]?=some (.lst (r.A.map aD)))->dats s (n+4) (zs.map smD)=some (zs.map smP)
 | [],_=>yF
 | .inl x::zs,h=>by
  refine zL ?_ (zdW λr hr=>h r (tQ _ hr));show dat s (n+4) (hD x)=_;unfold hD;rw[wF,zL yR (zL vU yF)];rfl
 | .inr r::zs,h=>by
  refine zL ?_ (zdW λr hr=>h r (tQ _ hr));show dat s (n+4) (rwD r)=some (uF r);unfold rwD;rw[wF,zL yR (zL yR (zL yR (zL (x:=.list (r.A.map zaD)) (xs:=[]) (by rw[yQ (h r (tH)),jc zaD (λa=>zaR a)];rfl) yF)))];rfl
theorem zmj:∀{zs:List Sm},(∀ z∈zs,SmOk z)->PyData.canLayAll0 (zs.map smP)=true/\PyData.depthAll (zs.map smP)<=10
 | [],_=>⟨rfl,by decide⟩
 | .inl x::zs,h=>by
  obtain⟨i1,i2⟩:=zmj λz hz=>h z (tQ _ hz);have h0:Ltr x.1:=(h _ (tH)).1;refine⟨?_,?_⟩
  . simp only[tM,smP,PyData.canLayAll0,PyData.canLay0,yH.mpr h0.okS,i1,rJ]
  . simp only[tM,smP,PyData.depthAll,PyData.depth];omega
 | .inr r::zs,h=>by
  obtain⟨i1,i2⟩:=zmj λz hz=>h z (tQ _ hz);obtain⟨h1,h2,h3,_⟩:=h _ (tH);have kk:=vR r.A;refine⟨?_,?_⟩
  . simp only[tM,smP,uF,PyData.canLayAll0,PyData.canLay0,kk.1,yH.mpr h1.1.okS,yH.mpr h2.1.okS,yH.mpr h3.1.okS,i1,rJ]
  . simp only[tM,smP,uF,PyData.depthAll,PyData.depth];have:=kk.2;omega
theorem zhP(h:s[n]?=some (.lst (zs.map smD)))(hz:∀ z∈zs,SmOk z)(ha:∀ r,Sum.inr r∈zs->s[r.a]?=some (.lst (r.A.map aD))):isIn s .non (.ref n)=some false:=by
 have k:=zmj hz
 have s1:SeqAt.shaped .none=true:=by simp[SeqAt.shaped,PyData.canLay0,PyData.depth]
 have s2:SeqAt.shaped (.list (zs.map smP))=true:=rD.mpr ⟨by simp only[PyData.canLay0,k.1],decide_eq_true (by simp only[PyData.depth];have:=k.2;omega)⟩;unfold isIn;dsimp only;rw[h];dsimp only;rw[zkZ,zdW (n:=56) ha];simp only[s1,s2,rJ,if_true];congr 1;rw[List.any_eq_false];intro z hz;obtain⟨y,_,rfl⟩:=tK.mp hz;cases y <;> simp[smP,uF,PyData.eqv]
end
section
variable{m t:Str}{zs:List Sm}{z:Sm}
theorem zkq:∀{ps:List (List Str)},t∈jn m ps->t=m\/∃ p∈ps,t∈p
 | [],h=>nomatch h
 | [a],h=>.inr ⟨a,tH,h⟩
 | a::b::r,h=>by
  rcases tZ.mp (show t∈a++m::jn m (b::r)from h)with h | h
  . exact .inr ⟨a,tH,h⟩
  . rcases tU.mp h with h | h
    . exact .inl h
    . rcases zkq h with h | ⟨p,hp,h⟩
      . exact .inl h
      . exact .inr ⟨p,tQ _ hp,h⟩
theorem zhC(m:Str):∀{ps:List (List Str)}{p:List Str},p∈ps->(∀ t∈p,t∈jn m ps)/\p.length<=(jn m ps).length
 | [a],p,h=>by
  rw[tV.mp h];exact⟨λt ht=>ht,tX _⟩
 | a::b::r,p,h=>by
  have e:jn m (a::b::r)=a++m::jn m (b::r):=rfl;rw[e]
  rcases tU.mp h with rfl | h
  . exact⟨λt ht=>rH _ ht,by simp⟩
  . obtain⟨h1,h2⟩:=zhC m h;refine⟨λt ht=>qd _ (tQ _ (h1 t ht)),?_⟩;simp;omega
theorem znE{x:Str}(hx:Ltr x){t:Str}(c:Nat)(hc:c∈t.cps.toList)(h2:c<97):t≠x:=λe=>by
 have:=hx c (by rw[← e];exact hc);omega
theorem zmi(h:SmOk z):(";":Str)∉xG z/\xG z≠[]:=by
 have c59:59∈(";":Str).cps.toList:=by decide +kernel
 have dgs:∀ n:Nat,n<4->(";":Str)≠PW.dg n:=by decide +kernel
 have rls:∀ b,(";":Str)≠uf b:=λb=>by cases b <;> decide +kernel
 have lt:∀{x:Str},Ltr x->(";":Str)≠x:=λhx=>znE hx 59 c59 (by decide)
 cases z with
 | inl x =>
  refine⟨λhm=>?_,by simp[xG]⟩;simp only[xG,tU,su,or_false]at hm
  rcases hm with hm | hm | hm
  . exact absurd hm (by decide +kernel)
  . exact lt h.1 hm
  . exact dgs _ h.2.2 hm
 | inr r =>
  refine⟨λhm=>?_,by simp[xG]⟩;obtain⟨h1,h2,h3,h4⟩:=h;simp only[xG,tZ,tU,su,or_false]at hm
  rcases hm with ((hm | hm | hm | hm | hm) | hm) | hm
  . exact absurd hm (by decide +kernel)
  . exact lt h1.1 hm
  . exact lt h2.1 hm
  . exact lt h3.1 hm
  . exact absurd hm (by decide +kernel)
  . rcases zkq hm with hm | ⟨p,hp,hm⟩
    . exact absurd hm (by decide +kernel)
    . obtain⟨a,ha,rfl⟩:=tK.mp hp;simp only[yw,tU,su,or_false]at hm
      rcases hm with hm | hm | hm
      . exact dgs _ (h4 a ha).1 hm
      . exact rls _ hm
      . exact dgs _ (h4 a ha).2 hm
  . exact absurd hm (by decide +kernel)
theorem zfF(h:∀ z∈zs,SmOk z):(if jn ";" (zs.map xG)=[]then []else zcl ";" (jn ";" (zs.map xG)))=zs.map xG:=zfH λp hp=>by
 obtain⟨z,hz,rfl⟩:=tK.mp hp;exact zmi (h z hz)
end
def SmB:Sm->Prop
 | .inl x=>x.1.length<=12
 | .inr r=>r.nm.length<=12/\r.src.1.length<=12/\r.tgt.1.length<=12/\r.A.length<=40
end P83
namespace P37
open PySem Fc P1 P85 PB PC
open P38 (Pb)
structure T4 where
 b:Str
 e:Str
 A:List Arc
 A':List Arc
deriving DecidableEq
end P37
namespace P37
open PySem Fc P1 P85 PB PC
open P20 (zX)
abbrev Z2:=Rw×Rw
open PW (Gd Arcs wj)
theorem zfW{α:Type}{s0:S}{n:Nat}{vs:List Nat}{g:G}{e:E}{xs:List α}{fx:α->D}{σ:Fc.Env}{Q:D->S->Prop}{X:Xc}(R:α->D->S->Prop)(hn:s0[n]?=some (.lst (xs.map fx)))(hl:xs.length<16777216)(hR:∀ d y s s',R d y s->(∀ n:Nat,n≠s0.length->∀ o,s[n]?=some o->s'[n]?=some o)->R d y s')
  (hs:∀ x∈xs,∀ s,Pf s0 s->(∃ acc,s[s0.length]?=some (.lst acc))->∃ σ1,g (fx x) (wipe σ vs) s=some σ1/\wE (e σ1 s) (λy s2=>Pf s s2/\R x y s2) (λ_ _ _=>False))
  (hQ:∀ s' acc,Pf s0 s'->s'[s0.length]?=some (.lst acc)->wj (λd y=>R d y s') xs acc->Q (.ref s0.length) s'):wE (wX s0 λD0 s2=>lcL D0 n vs g tYes e xs.length 0 σ s2) Q X:=by
 rw[jG]
 obtain⟨s',acc',h1,h2,bs,ts,h3,h4,h5,h6⟩:=zgy (D0:=s0.length) (n:=n) (dsA:=xs.map fx) (vs:=vs) (g:=g) (t:=tYes) (e:=e) (σ:=σ) (λr acc s=>∃ bs ts,xs=bs++ts/\r=ts.map fx/\wj (λd y=>R d y s) bs acc/\Pf s0 s) (λr acc s ⟨_,_,_,_,_,pf⟩=>pf _ _ hn) xs.length 0 [] (s:=s0++[.lst []]) (by simp) ⟨[],xs,rfl,rfl,trivial,Pf.app⟩ zJ (by
  rintro d r acc s ⟨bs,ts,e1,e2,al,pf⟩ hD
  match ts,e2 with
  | x::ts,e2 =>
   rw[tM,List.cons.injEq]at e2;obtain⟨rfl,rfl⟩:=e2;obtain⟨σ1,g1,g2⟩:=hs x (by rw[e1];simp) s pf ⟨_,hD⟩;refine⟨σ1,g1,?_⟩;simp
   refine zr g2 λy s2 ⟨p2,hr⟩=>⟨p2 _ _ hD,?_,bs++[x],ts,by simp[e1],rfl,?_,zcd (pf.trans p2)⟩
   . have:=al.len
     have:bs.length<=xs.length:=by rw[e1];simp
     omega
   . have ks:∀ n:Nat,n≠s0.length->∀ o,s2[n]?=some o->(s2.set s0.length (.lst (acc++[y])))[n]?=some o:=λn hn o h=>by
      rw[zP (sH hn)];exact h
     have al2:wj (λd z=>R d z (s2.set s0.length (.lst (acc++[y])))) bs acc:=PW.wj.imp (λa b h=>hR _ _ _ _ h λn hn o h=>ks n hn o (p2 _ _ h)) al
     exact @PW.wj.snoc α D (λd z=>R d z (s2.set s0.length (.lst (acc++[y])))) x y (hR _ _ _ _ hr ks) bs acc al2)
 have:ts=[]:=by
  match ts,h4 with
  | [],_=>rfl
 subst this;rw[sE]at h3;subst h3;exact⟨s',h1,hQ s' acc' h6 h2 h5⟩
end P37
namespace P83
open PySem Fc P1 P85 PB PC P41
open P20 (zX)
open P61 (Lot lD Lo)
open PW (wr vW xO ct Arcs wj Gd Wd uF)
def zac(hs:List (Str×Nat))(l:List Rw):List Sm:=hs.map Sum.inl++l.map Sum.inr
section
variable{x:Str}{zs zs':List Sm}{hs:List (Str×Nat)}{l:List Rw}
theorem zkU:wr hs l=Str.join "; " ((zac hs l).map smT):=by
 unfold wr zac;rw[TL.join_eq,sG,tW,tW];rfl
theorem zhz:ltS (zs++zs')=ltS zs++ltS zs':=List.filterMap_append ..
theorem ziq:rtS (zs++zs')=rtS zs++rtS zs':=List.filterMap_append ..
theorem zfq:∀{hs:List (Str×Nat)},ltS (hs.map Sum.inl)=hs/\rtS (hs.map Sum.inl)=[]
 | []=>⟨rfl,rfl⟩
 | x::hs=>⟨ziX rfl (zfq (hs:=hs)).1,(zfq (hs:=hs)).2⟩
theorem zfr:∀{l:List Rw},ltS (l.map Sum.inr)=[]/\rtS (l.map Sum.inr)=l
 | []=>⟨rfl,rfl⟩
 | x::l=>⟨(zfr (l:=l)).1,ziX rfl (zfr (l:=l)).2⟩
theorem zal:ltS (zac hs l)=hs/\rtS (zac hs l)=l:=by
 unfold zac;rw[zhz,ziq,zfq.1,zfq.2,zfr.1,zfr.2,sE,qu];exact⟨rfl,rfl⟩
theorem zfG(gd:Gd hs l):∀ z∈zac hs l,SmOk z/\SmB z:=λz hz=>by
 rcases tZ.mp hz with h | h
 . obtain⟨x,hx,rfl⟩:=tK.mp h;obtain⟨a1,a2,a3⟩:=gd.wd.hn x hx;exact⟨⟨a1,gd.n1 x hx,a3⟩,a2⟩
 . obtain⟨r,hr,rfl⟩:=tK.mp h;obtain⟨a1,a2,a3,a4,a5,a6⟩:=gd.wd.ln r hr;obtain⟨b1,b2,_⟩:=gd.wd.hn _ a3;obtain⟨c1,c2,_⟩:=gd.wd.hn _ a4;exact⟨⟨⟨a1,gd.m1 r hr⟩,⟨b1,gd.n1 _ a3⟩,⟨c1,gd.n1 _ a4⟩,gd.wd.arcs hr⟩,a2,b2,c2,a6⟩
theorem zmk(gd:Gd hs l):(zac hs l).length<=80:=by
 have:=gd.wd.hl;have:=gd.wd.ll;simp[zac];omega
theorem zqX(gd:Gd hs l):(wr hs l).length<=40000:=by
 have h:=PW.jM (sep:="; ") (B:=400) gd.wd.zdL;have:=gd.wd.hl;have:=gd.wd.ll;rw[PW.zpm,sY,tR,tR]at h;unfold wr;omega
end
end P83
namespace P83
open PySem Fc P1 P85 PB PC P31 P21 PR P41
open P20 (zX)
open PW (wr vW xO ct Arcs wj Gd Wd uF)
section
variable{s:S}{p m k:Nat}{hs:List (Str×Nat)}{l:List Rw}
theorem zrj(h:PA s p m k hs l):zls s (.ref p) "Program" "functions"=true:=zhk h.at_ rfl
theorem zri(h:PA s p m k hs l):zls s (.ref p) "Program" "calls"=true:=zhk h.at_ rfl
end
open P64 (Nm)
section
variable{s s0:S}{g F C:Nat}{x:Str}{hs h1 h2:List (Str×Nat)}{l:List Rw}
structure Dn(s:S)(F C:Nat)(hs:List (Str×Nat))(l:List Rw):Prop where
 hF:s[F]?=some (.lst (hs.map hD))
 hC:s[C]?=some (.lst (l.map rwD))
 ha:Arcs s l
 gd:Gd hs l
 nm:Nm hs l
 ne:hs≠[]
 hl:hs.length<=5
 ll:l.length<=10
theorem zpB{B most cc mt h e:Nat}(pt:PW.Pt s0 g B h e most cc mt hs l s)(h1:most<=5)(h2:cc<=10)(h3:mt<=3):Dn s h e hs l :=
 have gd:=pt.gd h1 h2 h3
 ⟨pt.sd.hh,pt.sd.he,λq hq=>(pt.sd.rows q hq).1.at_,gd,⟨λx hx=>qN (by rw[← pt.hn];exact sJ hx),λq hq=>qN (by rw[← pt.ln];exact sJ hq)⟩,λz=>by have:=pt.hl.1;rw[z]at this;simp at this,sW pt.hl.2 h1,sW pt.ll h2⟩
end
end P83
namespace P81
open PySem Fc
noncomputable section
def b_law_renamed:C :=
 (zG (zR (eN ju (za (eLc [4,5] (yd .seq (zg 1)) (gTup 2 (gCons (gName 4) (gCons (gName 5) gNil))) tYes (eN ye (za (zg 4) (za (zg 4) zj)))) zj)) (gName 3))
 (zG (xf (yd .seq (zg 1)) (gTup 2 (gCons (gName 4) (gCons (gName 5) gNil)))
 (cIf (tB (e2 oEq (zE PW.d_law_draw [] (za (zg 0) (za (eC (.int 4)) zj))) (eC (.int 0))))
 (zaf (zg 3) (zg 4) (e2 yq (e2 oAt (eN zQ (za (eC (.str "fun")) (za (eC (.str "call")) (za (eC (.str "abcdefghijkl")) (za (eC (.str "f")) zj))))) (zE PW.d_law_draw [] (za (zg 0) (za (eC (.int 4)) zj)))) (zg 4)))
 yL))
 (zG (xf (yd .seq (eN zQ (za (eC (.str "fun")) (za (eC (.str "call")) zj)))) (gName 6)
 (cIf (tAnd (tB (e2 oNe (zg 1) (eN zQ zj))) (tAnd (tB (e2 oEq (zE PW.d_law_draw [] (za (zg 0) (za (eC (.int 3)) zj))) (eC (.int 0)))) (tB (e2 yU (zg 6) (eLc [4] (yd .seq (zg 3)) (gName 4) tYes (e2 oAt (zg 3) (zg 4)))))))
 (zaf (zg 3) (e2 oAt (e2 oAt (zg 1) (e2 oMod (eM zbp (eN zQ (za (eC (.str "fun")) (za (eC (.str "call")) zj))) (za (zg 6) zj)) (eN wW (za (zg 1) zj)))) (eC (.int 0))) (zg 6))
 yL))
 (zG (zR (eN ju (za (eLc [4] (yd .seq (zg 3)) (gName 4) tYes (eN ye (za (zg 4) (za (zaU (e2 oAt (zg 3) (zg 4)) pNo (jH (eC (.int 12)))) zj)))) zj)) (gName 3))
 (zG (cIf (tB (e2 oLt (eN vf (za (eLc [4] (yd .seq (zg 3)) (gName 4) tYes (e2 oAt (zg 3) (zg 4))) zj)) (eN wW (za (zg 3) zj))))
 (zY (eN ye (za (zg 1) (za (zg 2) zj))))
 yL)
 (zG (zR (eLc [4,8,9,10] (yd .seq (zg 2)) (gTup 4 (gCons (gName 4) (gCons (gName 8) (gCons (gName 9) (gCons (gName 10) gNil))))) tYes (eN ye (za (zg 4) (za (e2 oAt (zg 3) (zg 8)) (za (e2 oAt (zg 3) (zg 9)) (za (zg 10) zj)))))) (gName 7))
 (zY (eN ye (za (eLc [4,5] (yd .seq (zg 1)) (gTup 2 (gCons (gName 4) (gCons (gName 5) gNil))) tYes (eN ye (za (e2 oAt (zg 3) (zg 4)) (za (zg 5) zj)))) (za (zg 7) zj))))))))))
def d_law_renamed:F:=yt 3 11 b_law_renamed
def b_law_arc_tokens:C :=
 (zG (zR (eN zQ zj) (gName 1))
 (zG (xf (yd .seq (zg 0)) (gTup 3 (gCons (gName 2) (gCons (gName 3) (gCons (gName 4) gNil))))
 (zR (e2 yq (zg 1) (eN zQ (za (eN zaI (za (zg 2) zj)) (za (e2 oAt (eN zQ (za (eC (.str ">=")) (za (eC (.str ">")) zj))) (eN zdm (za (zg 4) zj))) (za (eN zaI (za (zg 3) zj)) (za (eC (.str ",")) zj)))))) (gName 1)))
 (zY (zaU (zg 1) pNo (jH (e1 zay (eC (.int 1))))))))
def d_law_arc_tokens:F:=yt 1 5 b_law_arc_tokens
def b_law_statements:C :=
 (zG (zR (eLc [4,5] (yd .seq (zg 1)) (gTup 2 (gCons (gName 4) (gCons (gName 5) gNil))) tYes (eN zQ (za (eC (.str "fun")) (za (zg 4) (za (eN zaI (za (zg 5) zj)) zj))))) (gName 3))
 (zG (zR (eLc [4,7,8,9] (yd .seq (zg 2)) (gTup 4 (gCons (gName 4) (gCons (gName 7) (gCons (gName 8) (gCons (gName 9) gNil))))) tYes (e2 yq (e2 yq (eN zQ (za (eC (.str "call")) (za (zg 4) (za (zg 7) (za (zg 8) (za (eC (.str "[")) zj)))))) (zE d_law_arc_tokens [] (za (zg 9) zj))) (eN zQ (za (eC (.str "]")) zj)))) (gName 6))
 (zG (zR (eN zQ zj) (gName 10))
 (zG (wM (tOr (tB (e2 oNe (zg 3) (eN zQ zj))) (tB (e2 oNe (zg 6) (eN zQ zj))))
 (zG (zR (eLc [12] (yd .seq (eN zQ (za (zg 3) (za (zg 6) zj)))) (gName 12) (tB (e2 oNe (zg 12) (eN zQ zj))) (zg 12)) (gName 11))
 (yE (eM yc (zg 10) (za (eM zej (e2 oAt (zg 11) (zE PW.d_law_draw [] (za (zg 0) (za (eN wW (za (zg 11) zj)) zj)))) (za (eC (.int 0)) zj)) zj)))))
 (zY (zg 10))))))
def d_law_statements:F:=yt 3 13 b_law_statements
def b_law_rowed:C :=
 (zG (zR (eN zQ zj) (gName 1))
 (zG (xf (yd .seq (zg 0)) (gName 2)
 (zR (e2 yq (e2 yq (zg 1) (zg 2)) (eN zQ (za (eC (.str ";")) zj))) (gName 1)))
 (zY (zaU (zg 1) pNo (jH (e1 zay (eC (.int 1))))))))
def d_law_rowed:F:=yt 1 3 b_law_rowed
def b_law_spaced:C :=
 (zG (zR (eN zQ (za (eC (.str "")) (za (eC (.str " ")) (za (eC (.str "  ")) (za (eC (.str "\n")) (za (eC (.str " \n ")) (za (eC (.str "\n\n")) zj))))))) (gName 2))
 (zG (zda 3 4 (za (e2 oAt (zg 2) (zE PW.d_law_draw [] (za (zg 0) (za (eC (.int 6)) zj)))) (za (eC (.str "")) zj)))
 (zG (xf (yd .seq (zg 1)) (gName 5)
 (zG (zR (uH (e2 oNe (zg 4) (eC (.str ""))) (uH (e2 yU (zg 4) (eC (.str "[],;>="))) (e2 yU (zg 5) (eC (.str "[],;>="))))) (gName 6))
 (zG (zR (e2 yq (e2 yq (zg 3) (e2 oAt (zg 2) (e2 yq (eN zdm (za (zg 6) zj)) (zE PW.d_law_draw [] (za (zg 0) (za (e2 zlK (eC (.int 6)) (eN zdm (za (zg 6) zj))) zj)))))) (zg 5)) (gName 3))
 (zR (zg 5) (gName 4)))))
 (zY (e2 yq (zg 3) (e2 oAt (zg 2) (zE PW.d_law_draw [] (za (zg 0) (za (eC (.int 6)) zj)))))))))
def d_law_spaced:F:=yt 2 7 b_law_spaced
def b_read_program:C :=
 (zG (zR (eIf (tE (e1 (oIs .str) (zg 0))) (zE P83.d_tokens_of [] (za (zg 0) zj)) (eC .non)) (gName 1))
 (zG (cIf (tB (e1 zhR (zg 1)))
 (wy "InvalidText" "value" (zg 0))
 yL)
 (zG (zR (eLc [3] (yd .seq (zE P83.d_parts_of [] (za (zg 1) (za (eC (.str ";")) zj)))) (gName 3) tYes (zE P83.d_statement_in [] (za (zg 3) zj))) (gName 2))
 (zG (cIf (tB (e2 oIn (eC .non) (zg 2)))
 (wy "InvalidText" "value" (zg 0))
 yL)
 (zdQ ["CallsError","InvalidList","InvalidFunction","InvalidCall","InvalidProgram","InvalidText"] 5
 (zY (vD "Program" P85.d_Program_init [] (za (eLc [4] (yd .seq (zg 2)) (gName 4) (tB (e2 oEq (eN wW (za (zg 4) zj)) (eC (.int 2)))) (zg 4)) (za (eLc [4] (yd .seq (zg 2)) (gName 4) (tB (e2 oEq (eN wW (za (zg 4) zj)) (eC (.int 4)))) (zg 4)) zj))))
 zcZ)))))
def d_read_program:F:=yt 1 6 b_read_program
def b_law:C :=
 (zG (xf (xm (eC (.int 0)) (eC (.int 4))) (gName 1)
 (zG (zR (zE PW.d_law_purse [] (za (zg 0) (za (zg 1) zj))) (gName 2))
 (zG (zR (zE PW.d_law_parts [] (za (zg 2) (za (eC (.int 5)) (za (eC (.int 10)) (za (eC (.int 3)) zj))))) (gTup 2 (gCons (gName 3) (gCons (gName 4) gNil))))
 (zG (zR (zE d_law_renamed [] (za (zg 2) (za (zg 3) (za (zg 4) zj)))) (gTup 2 (gCons (gName 3) (gCons (gName 4) gNil))))
 (zG (xf (xm (eC (.int 0)) (eC (.int 3))) (gName 5)
 (zG (zR (zE d_law_rowed [] (za (zE d_law_statements [] (za (zg 2) (za (zg 3) (za (zg 4) zj)))) zj)) (gName 6))
 (xf (yd .seq (eN zQ (za (zaw (eC (.str " ")) (zg 6)) (za (zE d_law_spaced [] (za (zg 2) (za (zg 6) zj))) zj)))) (gName 7)
 (zG (zR (zE d_read_program [] (za (zg 7) zj)) (gName 8))
 (zG (cIf (tOr (tNot (tE (e1 (zhQ ["Program"]) (zg 8)))) (tOr (tB (e2 oNe (uC "Program" "functions" PW.d_Program_functions [] (zg 8) zj) (zg 3))) (tB (e2 oNe (uC "Program" "calls" PW.d_Program_calls [] (zg 8) zj) (zg 4)))))
 (zY (eC (.bl false)))
 yL)
 (cIf (tOr (tB (e2 (zgi "Program" PL.d_Program_eq) (zE d_read_program [] (za (zE PW.d_text_of [] (za (zg 8) zj)) zj)) (zg 8))) (tB (e2 (zgi "Program" PL.d_Program_eq) (zg 8) (vD "Program" P85.d_Program_init [] (za (zg 3) (za (zg 4) zj))))))
 (zY (eC (.bl false)))
 yL))))))
 (xf (yd .seq (eN zQ (za (eC (.str "")) (za (eC (.str " ")) (za (eC (.str "\n")) (za (eC (.str " \n\n ")) zj)))))) (gName 7)
 (cIf (tB (e2 (zgi "Program" PL.d_Program_eq) (zE d_read_program [] (za (zg 7) zj)) (vD "Program" P85.d_Program_init [] (za (eN zQ zj) (za (eN zQ zj) zj)))))
 (zY (eC (.bl false)))
 yL)))))))
 (zG (zR (eLc [5] (xm (eC (.int 0)) (eC (.int 1600))) (gName 5) tYes (eN ye (za (e2 oMod (zg 5) (eC (.int 3))) (za (e2 oMod (e2 oDiv (zg 5) (eC (.int 3))) (eC (.int 3))) (za (e2 oEq (e2 oMod (zg 5) (eC (.int 2))) (eC (.int 0))) zj))))) (gName 9))
 (zG (zR (vD "Program" P85.d_Program_init [] (za (eN zQ (za (eN ye (za (eC (.str "f")) (za (eC (.int 3)) zj))) zj)) (za (eN zQ (za (eN ye (za (eC (.str "c")) (za (eC (.str "f")) (za (eC (.str "f")) (za (zg 9) zj))))) zj)) zj))) (gName 10))
 (zG (cIf (tB (e2 oNe (uC "Program" "calls" PW.d_Program_calls [] (zE d_read_program [] (za (zE PW.d_text_of [] (za (zg 10) zj)) zj)) zj) (eN zQ (za (eN ye (za (eC (.str "c")) (za (eC (.str "f")) (za (eC (.str "f")) (za (zg 9) zj))))) zj))))
 (zY (eC (.bl false)))
 yL)
 (zG (zR (e2 yq (eLc [12] (yd .seq (eC (.str "abcdef"))) (gName 12) tYes (e2 yq (e2 yq (eC (.str "fun ")) (zg 12)) (eC (.str " 0")))) (eLc [12] (yd .seq (eC (.str "abcdefghijk"))) (gName 12) tYes (e2 yq (e2 yq (eC (.str "call c")) (zg 12)) (eC (.str " a b []"))))) (gName 11))
 (zG (zR (eC (.bl false)) (gName 13))
 (zG (zjZ ["CallsError","InvalidList","InvalidFunction","InvalidCall","InvalidProgram","InvalidText"]
 (yE (zE d_read_program [] (za (zaw (eC (.str "; ")) (zg 11)) zj)))
 (zR (eC (.bl true)) (gName 13)))
 (zY (uH (zax (tE (zg 13))) (e2 oEq (uC "Program" "functions" PW.d_Program_functions [] (zE d_read_program [] (za (e2 yq (e2 zeo (eC (.str " ")) (eC (.int 19993))) (eC (.str "fun f 1"))) zj)) zj) (eN zQ (za (eN ye (za (eC (.str "f")) (za (eC (.int 1)) zj))) zj))))))))))))
def d_law:F:=yt 1 14 b_law
end
end P81
namespace P81
open PySem Fc P1 P85 PB PC P83
open PW (dg)
def KW(t:Str):Prop:=(∃ kk:Kd,(kk=.word\/kk=.number)/\∀ c∈t.cps.toList,kdO c=some kk)/\1<=t.length
def KS(t:Str):Prop:=t="["\/t="]"\/t=","\/t=";"
def KM(t:Str):Prop:=t=">"\/t=">="
def Tkn(t:Str):Prop:=KW t\/KS t\/KM t
def Bl(b:Str):Prop:=∀ c∈b.cps.toList,kdO c=some .blank
def Kl(last:Str)(k:Kd):Prop:=(k=.word\/k=.number->KW last)/\(k=.more->KM last)
section
variable{s:S}{F:List Str}{k:Kd}{t u b x last:Str}
theorem kZ(hx:Ltr x)(h1:1<=x.length):KW x:=⟨⟨.word,.inl rfl,λc hc=>zkt (hx c hc).1 (hx c hc).2⟩,h1⟩
theorem zgf{n:Nat}(h:n<4):KW (dg n):=⟨⟨.number,.inr rfl,λc hc=>zks ((zag h).1 c hc).1 ((zag h).1 c hc).2⟩,(zag h).2⟩
theorem len_list(x:Str):x.length=x.cps.toList.length:=by simp[Str.length]
theorem zhj(h:KW t):isIn s (.str t) (.str "[],;>=")=some false:=by
 show some (!(Builtin.Str.occurrences "[],;>=" t 0 _ 1).isEmpty)=_;congr 1;refine qY.mpr λz=>?_;obtain⟨i,hi,hs⟩:=(StrLaws.found_iff _ _).mp z;rw[StrLaws.subAt_eq]at hs;have e:=beq_iff_eq.mp hs;obtain⟨⟨kk,hk,hc⟩,h1⟩:=h;rw[len_list]at h1
 cases hx:t.cps.toList with
 | nil=>rw[hx]at h1;simp at h1
 | cons c cs =>
  have m:c∈t.cps.toList:=by rw[hx];exact tH
  have hcc:=hc c m;rw[← e]at m;have m2:=List.mem_of_mem_drop (qN m)
  have al:∀ c∈(Str.ofString "[],;>=").cps.toList,kdO c=some .sign\/kdO c=some .more:=by decide +kernel
  rcases al c m2 with a | a <;> rw[a]at hcc <;> rcases hk with rfl | rfl <;> cases hcc
theorem zhi(h:KS t\/KM t):isIn s (.str t) (.str "[],;>=")=some true:=by
 rcases h with (rfl | rfl | rfl | rfl) | (rfl | rfl) <;> (show some _=some true;congr 1;decide +kernel)
theorem znA(h:KW t):¬ (KS t\/KM t):=λz=>by
 have a:=zhj (s:=[]) h;rw[zhi z]at a;cases a
theorem zly(h:KW t):t≠"":=λe=>by
 have:=h.2;rw[e]at this;exact absurd this (by decide +kernel)
theorem zbJ:∀{cs:List Nat}{k:Kd},(∀ c∈cs,kdO c=some .blank)->tokF cs F k=some (F,if cs=[]then k else .blank)
 | [],_,_=>rfl
 | c::cs,k,h=>by
  rw[wA (h c (tH)),zbJ λd hd=>h d (tQ _ hd)];simp
theorem zgD{a b c:Str}:a++b++c=a++(b++c):=by
 show(⟨(a.cps++b.cps)++c.cps⟩:Str)=⟨a.cps++(b.cps++c.cps)⟩
 rw[Array.append_assoc]
theorem zeI(h:tokF u.cps.toList [] .blank=some (F,k))(kl:Kl last k)(ht:Tkn t)(hb:Bl b)(need:KW last->KW t->1<=b.length)(mm:¬ (KM last/\KM t)) :
   ∃ k',tokF (u++b++t).cps.toList [] .blank=some (F++[t],k')/\Kl t k':=by
 have key:∃ k1,tokF (u++b).cps.toList [] .blank=some (F,k1)/\(k1=.word\/k1=.number->¬ KW t)/\(k1=.more->¬ KM t):=by
   rw[km,yZ h,zbJ hb];refine⟨_,rfl,?_⟩;split
   . rename_i e
     have l0:b.length=0:=by rw[len_list,e];rfl
     exact⟨λz w=>by have:=need (kl.1 z) w;omega,λz w=>mm ⟨kl.2 z,w⟩⟩
   . exact⟨λz=>(by rcases z with z | z <;> cases z),λz=>by cases z⟩
 obtain⟨k1,e1,a1,a2⟩:=key;rw[km,yZ e1]
 rcases ht with hw | hs | hm
 . obtain⟨⟨kk,hk,hc⟩,h1⟩:=id hw;refine⟨kk,zeK hk hc h1 (λz=>a1 (.inl z) hw) (λz=>a1 (.inr z) hw),λ_=>hw,λz=>?_⟩;subst z
   rcases hk with z | z <;> cases z
 . refine⟨.sign,?_,λz=>(by rcases z with z | z <;> cases z),λz=>by cases z⟩
   rcases hs with rfl | rfl | rfl | rfl
   . exact(vo (c:=91) (cs:=[]) (by decide +kernel)).trans (by show some _=_;rw[show one 91=(Str.ofString "[") by decide +kernel])
   . exact(vo (c:=93) (cs:=[]) (by decide +kernel)).trans (by show some _=_;rw[show one 93=(Str.ofString "]") by decide +kernel])
   . exact(vo (c:=44) (cs:=[]) (by decide +kernel)).trans (by show some _=_;rw[show one 44=(Str.ofString ",") by decide +kernel])
   . exact(vo (c:=59) (cs:=[]) (by decide +kernel)).trans (by show some _=_;rw[show one 59=(Str.ofString ";") by decide +kernel])
 . refine⟨.more,?_,λz=>(by rcases z with z | z <;> cases z),λ_=>hm⟩;have n1:k1≠.more:=λz=>a2 z hm
   rcases hm with rfl | rfl
   . exact(ziD (cs:=[]) n1).trans (by show some _=_;rw[show one 62=(Str.ofString ">") by decide +kernel])
   . exact zkQ (cs:=[]) n1
theorem zoM(h:tokF u.cps.toList [] .blank=some (F,k))(hb:Bl b):∃ k',tokF (u++b).cps.toList [] .blank=some (F,k'):=by
 rw[km,yZ h,zbJ hb];exact⟨_,rfl⟩
theorem zpQ:Kl "" .blank:=⟨λz=>(by rcases z with z | z <;> cases z),λz=>by cases z⟩
def NoMM:Str->List Str->Prop
 | _,[]=>True
 | a,t::r=>¬ (KM a/\KM t)/\NoMM t r
theorem zfQ:∀{ts:List Str}{t:Str}{F:List Str}{u:Str},tokF u.cps.toList [] .blank=some (F,.blank)->(∀ x∈t::ts,Tkn x)->∃ k',tokF (u++Str.join " " (t::ts)).cps.toList [] .blank=some (F++t::ts,k')
 | [],t,F,u,h,ht=>by
  obtain⟨k1,e1,_⟩:=zeI (b:="") (t:=t) h zpQ (ht t (tH)) (by unfold Bl;decide +kernel) (λz=>absurd rfl (zly z)) (λz=>(by rcases z.1 with e | e <;> exact absurd e (by decide +kernel)));refine⟨k1,?_⟩;rw[km,km]at e1;rw[km];rw[← e1];congr 1;show _=_++[]++_;rw[sE];rfl
 | t'::ts,t,F,u,h,ht=>by
  obtain⟨k1,e1,kl1⟩:=zeI (b:="") (t:=t) h zpQ (ht t (tH)) (by unfold Bl;decide +kernel) (λz=>absurd rfl (zly z)) (λz=>(by rcases z.1 with e | e <;> exact absurd e (by decide +kernel)))
  have e2:tokF (u++t++" ").cps.toList [] .blank=some (F++[t],.blank):=by
   rw[km,km]at e1;rw[km,km];rw[show(Str.ofString "").cps.toList=[]from rfl,sE]at e1;rw[yZ e1];exact zbJ (cs:=[32]) (by decide +kernel)
  obtain⟨k2,e3⟩:=zfQ (ts:=ts) (t:=t') e2 λx hx=>ht x (tQ _ hx);refine⟨k2,?_⟩;rw[← show F++([t]++t'::ts)=F++t::t'::ts from rfl,← rR,← e3]
  have e4:u++Str.join " " (t::t'::ts)=u++t++" "++Str.join " " (t'::ts):=by
   show u++(t++" "++Str.join " " (t'::ts))=_;rw[zgD,zgD,zgD]
  rw[e4]
end
def NM(ts:List Str):Prop:=∀ a,NoMM a ts
section
variable{xs ys:List Str}{t a:Str}
theorem zhN:∀{xs:List Str}{a:Str},NoMM a xs->NM ys->NoMM a (xs++ys)
 | [],a,_,h=>h a
 | x::xs,a,h,g=>⟨h.1,zhN h.2 g⟩
theorem znH(h:NM xs)(g:NM ys):NM (xs++ys):=λa=>zhN (h a) g
theorem zhM(h:¬ KM t)(g:NM ys):NM (t::ys):=λa=>⟨λz=>h z.2,g t⟩
theorem zjr(h:KW t):¬ KM t:=λz=>znA h (.inr z)
theorem zpV(h:KS t):¬ KM t:=λz=>by
 rcases h with rfl | rfl | rfl | rfl <;> rcases z with e | e <;> exact absurd e (by decide +kernel)
structure Gr(ts:List Str):Prop where
 tk:∀ t∈ts,Tkn t/\t.length<=12
 nm:NM ts
theorem zhh(h:Gr xs)(g:Gr ys):Gr (xs++ys):=⟨λt ht=>(tZ.mp ht).elim (h.tk t) (g.tk t),znH h.nm g.nm⟩
theorem zfg:Gr []:=⟨λ_ h=>(su h).elim,λ_=>trivial⟩
theorem jE(h:KW t)(hl:t.length<=12)(g:Gr ys):Gr (t::ys):=⟨λx hx=>by rcases tU.mp hx with rfl | hx;exact⟨.inl h,hl⟩;exact g.tk x hx,zhM (zjr h) g.nm⟩
theorem zec(h:KS t)(g:Gr ys):Gr (t::ys):=⟨λx hx=>by
 rcases tU.mp hx with rfl | hx
 . exact⟨.inr (.inl h),by rcases h with rfl | rfl | rfl | rfl <;> decide +kernel⟩
 . exact g.tk x hx,zhM (zpV h) g.nm⟩
theorem wY{n:Nat}(h:n<4):(dg n).length<=12:=by
 match n,h with
 | 0,_=>decide +kernel
 | 1,_=>decide +kernel
 | 2,_=>decide +kernel
 | 3,_=>decide +kernel
theorem znm{a:Arc}(h1:a.1<4)(h2:a.2.1<4):Gr (yw a):=by
 refine⟨λx hx=>?_,λy=>⟨λz=>zjr (zgf h1) z.2,λz=>zjr (zgf h1) z.1,λz=>zjr (zgf h2) z.2,trivial⟩⟩;simp only[yw,tU,su,or_false]at hx
 rcases hx with rfl | rfl | rfl
 . exact⟨.inl (zgf h1),wY h1⟩
 . refine⟨.inr (.inr ?_),?_⟩
   . unfold uf KM;cases a.2.2
     . exact .inr rfl
     . exact .inl rfl
   . unfold uf;cases a.2.2 <;> decide +kernel
 . exact⟨.inl (zgf h2),wY h2⟩
theorem zlp{m:Str}(hm:KS m):∀{as:List (List Str)},(∀ a∈as,Gr a)->Gr (jn m as)
 | [],_=>zfg
 | [a],h=>h a (tH)
 | a::b::r,h=>zhh (h a (tH)) (zec hm (zlp hm λx hx=>h x (tQ _ hx)))
theorem znn{z:Sm}(h:SmOk z)(hb:SmB z):Gr (xG z):=by
 cases z with
 | inl x=>exact jE (kZ (by unfold Ltr;decide +kernel) (by decide +kernel)) (by decide +kernel) (jE (kZ h.1 h.2.1) hb (jE (zgf h.2.2) (wY h.2.2) zfg))
 | inr r =>
  obtain⟨⟨a1,a2⟩,⟨b1,b2⟩,⟨c1,c2⟩,hA⟩:=h;refine zhh (zhh (jE (kZ (by unfold Ltr;decide +kernel) (by decide +kernel)) (by decide +kernel) (jE (kZ a1 a2) hb.1 (jE (kZ b1 b2) hb.2.1 (jE (kZ c1 c2) hb.2.2.1 (zec (.inl rfl) zfg))))) (zlp (.inr (.inr (.inl rfl))) λy hy=>?_)) (zec (.inr (.inl rfl)) zfg);obtain⟨a,ha,rfl⟩:=tK.mp hy;exact znm (hA a ha).1 (hA a ha).2
theorem zno{zs:List Sm}(h:∀ z∈zs,SmOk z)(hb:∀ z∈zs,SmB z):Gr (jn ";" (zs.map xG)):=zlp (.inr (.inr (.inr rfl))) λy hy=>by
 obtain⟨z,hz,rfl⟩:=tK.mp hy;exact znn (h z hz) (hb z hz)
theorem zfk(m:Str){B:Nat}:∀{as:List (List Str)},(∀ a∈as,a.length<=B)->(jn m as).length<=as.length*(B+1)
 | [],_=>by simp[jn]
 | [a],h=>by have:=h a (tH);simp[jn];omega
 | a::b::r,h=>by
  have h1:=h a (tH);have h2:=zfk m (as:=b::r) λx hx=>h x (tQ _ hx);show(a++m::jn m (b::r)).length<=_;simp only[sY,sS]at h2 ⊢;rw[qK];omega
theorem zdB{z:Sm}(hb:SmB z):(xG z).length<=166:=by
 cases z with
 | inl x=>simp[xG]
 | inr r =>
  have h1:=zfk "," (B:=3) (as:=r.A.map yw) λa ha=>by
   obtain⟨x,_,rfl⟩:=tK.mp ha;simp[yw]
  have:=hb.2.2.2;simp[xG]at h1 ⊢;omega
theorem zgq{zs:List Sm}(hb:∀ z∈zs,SmB z):(jn ";" (zs.map xG)).length<=zs.length*167:=by
 have h:=zfk ";" (B:=166) (as:=zs.map xG) λa ha=>by
  obtain⟨z,hz,rfl⟩:=tK.mp ha;exact zdB (hb z hz)
 simpa using h
end
open P20 (zX)
noncomputable section
def SpN:C:=(zR (uH (e2 oNe (zg 4) (eC (.str ""))) (uH (e2 yU (zg 4) (eC (.str "[],;>="))) (e2 yU (zg 5) (eC (.str "[],;>="))))) (gName 6))
def SpA:C:=(zG (zR (e2 yq (e2 yq (zg 3) (e2 oAt (zg 2) (e2 yq (eN zdm (za (zg 6) zj)) (zE PW.d_law_draw [] (za (zg 0) (za (e2 zlK (eC (.int 6)) (eN zdm (za (zg 6) zj))) zj)))))) (zg 5)) (gName 3))
 (zR (zg 5) (gName 4)))
def SpB:C:=zG SpN SpA
def SpE:C:=(zY (e2 yq (zg 3) (e2 oAt (zg 2) (zE PW.d_law_draw [] (za (zg 0) (za (eC (.int 6)) zj))))))
theorem ziv:b_law_spaced=(zG (zR (eN zQ (za (eC (.str "")) (za (eC (.str " ")) (za (eC (.str "  ")) (za (eC (.str "\n")) (za (eC (.str " \n ")) (za (eC (.str "\n\n")) zj))))))) (gName 2))
 (zG (zda 3 4 (za (e2 oAt (zg 2) (zE PW.d_law_draw [] (za (zg 0) (za (eC (.int 6)) zj)))) (za (eC (.str "")) zj)))
 (zG (xf (yd .seq (zg 1)) (gName 5) SpB) SpE))):=rfl
end
def blks:List Str:=[""," ","  ","\n"," \n ","\n\n"]
section
variable{s s':S}{P:Pst}{n g w B:Nat}{t u last b:Str}{k:Kd}{v0 v1 v2 v3 v6:Option D}
theorem zcY:∀ b∈blks,Bl b/\b.length<=3/\okS b:=by
 intro b hb;simp only[blks,tU,su,or_false]at hb
 rcases hb with rfl | rfl | rfl | rfl | rfl | rfl <;> exact⟨by unfold Bl;decide +kernel,by decide +kernel,yf⟩
theorem zgI(h:s[w]?=some (.lst (blks.map .str))){i:Nat}(hi:i<6):∃ b∈blks,atD s (.ref w) (.int (i:Int))=some (.str b)/\(1<=i->1<=b.length):=by
 have key:∀(j:Nat) (b:Str),blks[j]?=some b->atD s (.ref w) (.int (j:Int))=some (.str b):=λj b e=>by
  rw[yM h,atI_nat,sX,e];rfl
 match i,hi with
 | 0,_=>exact⟨"",by simp[blks],key 0 _ rfl,λz=>by omega⟩
 | 1,_=>exact⟨" ",by simp[blks],key 1 _ rfl,λ_=>by decide +kernel⟩
 | 2,_=>exact⟨"  ",by simp[blks],key 2 _ rfl,λ_=>by decide +kernel⟩
 | 3,_=>exact⟨"\n",by simp[blks],key 3 _ rfl,λ_=>by decide +kernel⟩
 | 4,_=>exact⟨" \n ",by simp[blks],key 4 _ rfl,λ_=>by decide +kernel⟩
 | 5,_=>exact⟨"\n\n",by simp[blks],key 5 _ rfl,λ_=>by decide +kernel⟩
theorem zpP{c:Nat}{k:Kd}(h:kdO c=some k):c<128:=by
 have key:∀ y:Str,(∀ c∈y.cps.toList,c<128)->c∈y.cps.toList->c<128:=λy a b=>a c b;unfold kdO at h;by_cases h1:c∈(Str.ofString "abcdefghijklmnopqrstuvwxyz").cps.toList
 . exact key _ (by decide +kernel) h1
 . by_cases h2:c∈(Str.ofString "0123456789").cps.toList
   . exact key _ (by decide +kernel) h2
   . by_cases h3:c∈(Str.ofString " \n").cps.toList
     . exact key _ (by decide +kernel) h3
     . by_cases h4:c∈(Str.ofString "[],;").cps.toList
       . exact key _ (by decide +kernel) h4
       . by_cases h5:c∈(Str.ofString ">=").cps.toList
         . exact key _ (by decide +kernel) h5
         . simp only[h1,h2,h3,h4,h5,if_false]at h;cases h
theorem zjv(h:Tkn t):okS t:=by
 rcases h with ⟨⟨kk,_,hc⟩,_⟩ | (rfl | rfl | rfl | rfl) | (rfl | rfl)
 . exact λc m=>by have:=zpP (hc c m);omega
 all_goals exact yf
theorem zox(hl:last=""\/Tkn last)(ht:Tkn t)(hQ:∀ nd:Bool,(nd=true↔KW last/\KW t)->P.nx [v0,v1,v2,v3,some (.str last),some (.str t),some (.bl nd)] s) :
   wC (SpN [v0,v1,v2,v3,some (.str last),some (.str t),v6] s) P:=by
 unfold SpN;simp
 have tk:∀{x:Str},Tkn x->(KW x/\isIn s (.str x) (.str "[],;>=")=some false)\/(¬ KW x/\isIn s (.str x) (.str "[],;>=")=some true):=λh=>by
   rcases h with h | h
   . exact .inl ⟨h,zhj h⟩
   . exact .inr ⟨λz=>znA z h,zhi h⟩
 by_cases h0:last=""
 . subst h0
   have e0:eqD s (.str "") (.str "")=some true:=by rw[P85.wk yf yf,decide_eq_true rfl]
   simp[e0];exact hQ false ⟨λz=>(by cases z),λz=>absurd rfl (zly z.1)⟩
 . have hl:=hl.resolve_left h0
   have e0:eqD s (.str last) (.str "")=some false:=by rw[P85.wk (zjv hl) yf,decide_eq_false h0]
   simp[e0]
   rcases tk hl with ⟨a1,a2⟩ | ⟨a1,a2⟩
   . rcases tk ht with ⟨b1,b2⟩ | ⟨b1,b2⟩
     . simp[a2,b2];exact hQ true ⟨λ_=>⟨a1,b1⟩,λ_=>rfl⟩
     . simp[a2,b2];exact hQ false ⟨λz=>(by cases z),λz=>absurd z.2 b1⟩
   . simp[a2];exact hQ false ⟨λz=>(by cases z),λz=>absurd z.1 a1⟩
theorem zow{nd:Bool}{F:List Str}(hg:Gen s g (B+40))(hw:s[w]?=some (.lst (blks.map .str)))(hu:tokF u.cps.toList [] .blank=some (F,k))(kl:Kl last k)(ht:Tkn t)(tl:t.length<=12)(ul:u.length<=800000)(uo:okS u)(nd':nd=true↔KW last/\KW t)(mm:¬ (KM last/\KM t))
  (hQ:∀ s' u' k' z,Fr g s s'->Gen s' g B->tokF u'.cps.toList [] .blank=some (F++[t],k')->Kl t k'->u'.length<=u.length+15->okS u'->P.nx [some (.ref g),v1,some (.ref w),some (.str u'),some (.str t),some (.str t),z] s') :
  wC (SpA [some (.ref g),v1,some (.ref w),some (.str u),some (.str last),some (.str t),some (.bl nd)] s) P:=by
 unfold SpA;simp
 have key:∀(i:Nat) (o:O),i<6->(nd=true->1<=i)->Gen (s.set g o) g B->∃ b∈blks,atD (s.set g o) (.ref w) (.int (i:Int))=some (.str b)/\((KW last->KW t->1<=b.length)):=by
  intro i o hi hn hg'
  have gw:g≠w:=λe=>by
   obtain⟨a,b,c,e2,_⟩:=hg;rw[e,hw]at e2;cases e2
  obtain⟨b,hb,e,l⟩:=zgI (s:=s.set g o) (w:=w) (by rw[zP gw];exact hw) hi;exact⟨b,hb,e,λa c=>l (hn (nd'.mpr ⟨a,c⟩))⟩
 have fin:∀(o:O) (b:Str),b∈blks->(KW last->KW t->1<=b.length)->Gen (s.set g o) g B->∀ z,P.nx [some (.ref g),v1,some (.ref w),some (.str (u++b++t)),some (.str t),some (.str t),z] (s.set g o):=by
  intro o b hb need hg' z;obtain⟨b1,b2,b3⟩:=zcY b hb;obtain⟨k',e1,e2⟩:=zeI hu kl ht b1 need mm;exact hQ _ _ k' z Fr.set hg' e1 e2 (by rw[len_app,len_app];omega) (yg (yg uo b3) (zjv ht))
 cases nd with
 | true =>
  simp;refine PW.xM hg (by omega) (by omega) λz o z1 z2 g2=>?_;obtain⟨z,rfl⟩:=rQ z1;obtain⟨b,hb,e,need⟩:=key (z+1) o (by omega) (λ_=>by omega) g2;obtain⟨b1,b2,b3⟩:=zcY b hb;simp;rw[show(1+(z:Int))=((z+1:Nat):Int) by omega,e];simp[show sz (u.length+b.length)=true from xY (by omega),show sz ((u++b).length+t.length)=true from xY (by rw[len_app];omega)];exact fin o b hb need g2 _
 | false =>
  simp;refine PW.xM hg (by omega) (by omega) λz o z1 z2 g2=>?_;obtain⟨z,rfl⟩:=rQ z1;obtain⟨b,hb,e,need⟩:=key z o (by omega) (λz=>by cases z) g2;obtain⟨b1,b2,b3⟩:=zcY b hb;simp;rw[e];simp[show sz (u.length+b.length)=true from xY (by omega),show sz ((u++b).length+t.length)=true from xY (by rw[len_app];omega)];exact fin o b hb need g2 _
end
section
variable{s s':S}{X:Xc}{Q:D->S->Prop}{n g w B:Nat}{t u last b:Str}{ts:List Str}{k:Kd}
def ISp(s2:S)(ts:List Str)(g n w B:Nat)(r:List D)(σ:Fc.Env)(s':S):Prop:=∃(dn rs:List Str) (u last:Str) (k:Kd) (z:Option D) (z2:Option D),r=rs.map .str/\ts=dn++rs/\σ=[some (.ref g),some (.ref n),some (.ref w),some (.str u),some (.str last),z,z2]/\Fr g s2 s'/\Gen s' g (B+40*rs.length+40)/\tokF u.cps.toList [] .blank=some (dn,k)/\Kl last k/\(last=""\/Tkn last)/\NoMM last rs/\u.length<=3+15*dn.length/\okS u
theorem zit(hg:Gen s g (B+40*ts.length+80))(hn:s[n]?=some (.lst (ts.map .str)))(gr:Gr ts)(lt:ts.length<=50000)
   (hQ:∀ s' t k,Fr g s s'->Gen s' g B->tokF t.cps.toList [] .blank=some (ts,k)->t.length<=15*ts.length+6->okS t->Q (.str t) s'):wE (d_law_spaced [.ref g,.ref n] s) Q X:=by
 unfold d_law_spaced;refine(yW (by rfl)).mpr ?_;rw[ziv];generalize hB:SpB=Bd;generalize hE:SpE=En
 have gn:g≠n:=λe=>by
   obtain⟨a,b,c,e2,_⟩:=hg;rw[e,hn]at e2
   have e3:ts.map D.str=[.int a,.int b,.int c]:=by simpa using e2
   cases ts with
   | nil=>cases e3
   | cons x xs=>cases e3
 have lg:g<s.length:=by
   obtain⟨a,b,c,e2,_⟩:=hg;exact zq e2
 simp;have p1:Pf s (s++[O.lst (blks.map .str)]):=Pf.app;have g1:=zJ (s:=s) (o:=O.lst (blks.map .str));show wE (PW.d_law_draw [.ref g,.int 6] (s++[O.lst (blks.map .str)])) _ _
 have lw:s.length≠g:=by omega
 have lw2:s.length<=s.length:=tX _;generalize hw:s.length=w at g1 lw lw2 ⊢;generalize s++[O.lst (blks.map .str)]=s1 at *
 have hg1:Gen s1 g (B+40*ts.length+40+40):=by
   obtain⟨a,b,c,e,r⟩:=hg;exact⟨a,b,c,p1 _ _ e,r⟩
 refine PW.xM hg1 (by omega) (by omega) λz o z1 z2 g2=>?_;obtain⟨z,rfl⟩:=rQ z1
 have w2:(s1.set g o)[w]?=some (.lst (blks.map .str)):=by rw[zP lw.symm];exact g1
 obtain⟨b,hb,eb,_⟩:=zgI w2 (i:=z) (by omega);obtain⟨b1,b2,b3⟩:=zcY b hb;have f2:Fr g s (s1.set g o):=p1.fr.trans Fr.set;have n2:=f2.2 n gn.symm _ hn;generalize s1.set g o=s2 at *;simp[eb];rw[zX n2,zB];dsimp only
 have e0:tokF b.cps.toList [] .blank=some ([],.blank):=by
   rw[zbJ b1];split <;> rfl
 refine xF (n:=n) (ds:=ts.map .str) (ISp s2 ts g n w B)
   (λr σ s' ⟨_,_,_,_,_,_,_,_,_,_,f3,_⟩=>f3.2 n gn.symm _ n2) ?_ ?_ _ 0 (by simp) ⟨[],ts,b,"",.blank,_,_,rfl,rfl,rfl,Fr.refl,g2,e0,zpQ,.inl rfl,gr.nm _,by simp;omega,b3⟩
 . rintro d r σ s3 ⟨dn,rs,u,last,k,z1,z2,er,et,rfl,f3,g3,hu,kl,hl,mm,ul,uo⟩
   cases rs with
   | nil=>cases er
   | cons t rs =>
    rw[tM,List.cons.injEq]at er;obtain⟨rfl,rfl⟩:=er;refine⟨_,rfl,?_⟩;have mt:=gr.tk t (by rw[et];simp)
    have ll:ts.length=dn.length+(rs.length+1):=by rw[et];simp
    rw[← hB];unfold SpB;generalize hA:SpA=An;simp;refine zox hl mt.1 λnd hnd=>?_
    try simp
    rw[← hA];have w3:=f3.2 w lw _ w2;rw[show B+40*(t::rs).length+40=B+40*rs.length+40+40 by rw[sS];omega]at g3;refine zow g3 w3 hu kl mt.1 mt.2 (by omega) uo hnd mm.1 λs4 u' k' z f4 g4 e1 kl' ul' uo'=>?_;exact⟨dn++[t],rs,u',t,k',_,_,rfl,by rw[et];simp,rfl,f3.trans f4,g4,e1,kl',.inr mt.1,mm.2,by rw[sY,pA];omega,uo'⟩
 . rintro σ s3 ⟨dn,rs,u,last,k,z1,z2,er,et,rfl,f3,g3,hu,kl,hl,mm,ul,uo⟩
   cases rs with
   | cons t rs=>cases er
   | nil =>
    rw[sE]at et;subst et
    try simp
    rw[← hE];unfold SpE;simp;refine PW.xM g3 (by omega) (by omega) λz o z1 z2 g4=>?_;obtain⟨z,rfl⟩:=rQ z1
    have w4:(s3.set g o)[w]?=some (.lst (blks.map .str)):=by rw[zP lw.symm];exact f3.2 w lw _ w2
    obtain⟨c,hc,ec,_⟩:=zgI w4 (i:=z) (by omega);obtain⟨c1,c2,c3⟩:=zcY c hc;simp[ec,show sz (u.length+c.length)=true from xY (by omega)];obtain⟨k',ek⟩:=zoM hu c1;exact hQ _ _ k' (f2.trans (f3.trans Fr.set)) g4 ek (by rw[len_app];omega) (yg uo c3)
end
noncomputable section
def AtB:C:=(zR (e2 yq (zg 1) (eN zQ (za (eN zaI (za (zg 2) zj)) (za (e2 oAt (eN zQ (za (eC (.str ">=")) (za (eC (.str ">")) zj))) (eN zdm (za (zg 4) zj))) (za (eN zaI (za (zg 3) zj)) (za (eC (.str ",")) zj)))))) (gName 1))
def AtE:C:=(zY (zaU (zg 1) pNo (jH (e1 zay (eC (.int 1))))))
theorem zpw:b_law_arc_tokens=(zG (zR (eN zQ zj) (gName 1)) (zG (xf (yd .seq (zg 0)) (gTup 3 (gCons (gName 2) (gCons (gName 3) (gCons (gName 4) gNil)))) AtB) AtE)):=rfl
def RoB:C:=(zR (e2 yq (e2 yq (zg 1) (zg 2)) (eN zQ (za (eC (.str ";")) zj))) (gName 1))
theorem zqy:b_law_rowed=(zG (zR (eN zQ zj) (gName 1)) (zG (xf (yd .seq (zg 0)) (gName 2) RoB) AtE)):=rfl
end
def mk(m:Str)(as:List (List Str)):List Str:=as.flatMap λa=>a++[m]
section
variable{s s':S}{P:Pst}{n g f:Nat}{b m:Str}{v0 v2 v3 v4:Option D}{a:Arc}{F:List Str}{as:List (List Str)}
theorem zek(m:Str):∀{as:List (List Str)},(mk m as).dropLast=jn m as
 | []=>rfl
 | [a]=>by simp[mk,jn]
 | a::b::r=>by
  have h:=zek m (as:=b::r)
  have ne:mk m (b::r)≠[]:=by simp[mk]
  show(a++[m]++mk m (b::r)).dropLast=a++m::jn m (b::r);rw[List.dropLast_append_of_ne_nil ne,h];simp
theorem zhG{a:List Str}:mk m (as++[a])=mk m as++(a++[m]):=by simp[mk]
theorem zkX{s:S}{n:Nat}{b:Bool}(h:s[n]?=some (.lst [.str ">=",.str ">"])):atD s (.ref n) (.int (if b then 1 else 0))=some (.str (uf b)):=by
 rw[yM h];cases b <;> rfl
theorem zof(hf:s[f]?=some (.lst (F.map .str)))(fl:F.length<=1000)(h1:a.1<4)(h2:a.2.1<4)
  (hQ:∀ s' f',Pf s s'->s'[f']?=some (.lst ((F++(yw a++[(",":Str)])).map .str))->P.nx [v0,some (.ref f'),some (.int a.1),some (.int a.2.1),some (.bl a.2.2)] s') :
  wC (AtB [v0,some (.ref f),some (.int a.1),some (.int a.2.1),some (.bl a.2.2)] s) P:=by
 unfold AtB
 have l1:a.1.log2<1920:=by have:=Nat.log2_le_self a.1;omega
 have l2:a.2.1.log2<1920:=by have:=Nat.log2_le_self a.2.1;omega
 have g:=zJ (s:=s) (o:=O.lst [.str ">=",.str ">"]);have p:Pf s (s++[O.lst [.str ">=",.str ">"]]):=Pf.app;have e:=zkX (b:=a.2.2) g;have e2:atD (s++[O.lst [.str ">=",.str ">"]]) (.ref s.length) (.int (if a.2.2=true then 1 else 0))=some (.str (uf a.2.2)):=e;simp[l1,l2,e2];show wE (yq (.ref f) (.ref (s.length+1)) (s++[O.lst [.str ">=",.str ">"],O.lst [.str (dg a.1),.str (uf a.2.2),.str (dg a.2.1),.str ","]])) _ _
 have g2:(s++[O.lst [.str ">=",.str ">"],O.lst [.str (dg a.1),.str (uf a.2.2),.str (dg a.2.1),.str ","]])[s.length+1]?=some (O.lst [.str (dg a.1),.str (uf a.2.2),.str (dg a.2.1),.str ","]):=by
  rw[rW (by omega),show s.length+1 - s.length=1 by omega];rfl
 have p2:Pf s (s++[O.lst [.str ">=",.str ">"],O.lst [.str (dg a.1),.str (uf a.2.2),.str (dg a.2.1),.str ","]]):=Pf.app;generalize (s++[O.lst [.str ">=",.str ">"],O.lst [.str (dg a.1),.str (uf a.2.2),.str (dg a.2.1),.str ","]])=s2 at *;have hf2:=p2 _ _ hf;rw[zaa hf2 g2 (by simp;omega)];refine hQ _ _ (p2.trans Pf.app) ?_;rw[zJ,sG];rfl
theorem zlv(hf:s[f]?=some (.lst (F.map .str)))(hQ:P.rt (.ref s.length) (s++[O.lst (F.dropLast.map .str)])):wC (AtE [v0,some (.ref f),v2,v3,v4] s) P:=by
 unfold AtE;simp;rw[zcz hf]
 have e:kE (F.map D.str) none (some (-1))=F.dropLast.map D.str:=by rw[PW.zcq,List.map_dropLast]
 rw[e];exact hQ
end
section
variable{s s':S}{X:Xc}{Q:D->S->Prop}{P:Pst}{n B f:Nat}{m:Str}{v0:Option D}{A:List Arc}{a:Arc}{F:List Str}{as:List (List Str)}
def IAt(s:S)(A:List Arc)(v0:Option D)(r:List D)(σ:Fc.Env)(s':S):Prop:=∃(pre post:List Arc) (f:Nat) (z2 z3 z4:Option D),A=pre++post/\r=post.map aD/\Pf s s'/\s'[f]?=some (.lst ((mk "," (pre.map yw)).map .str))/\σ=[v0,some (.ref f),z2,z3,z4]
theorem zhD(m:Str){B:Nat}:∀{as:List (List Str)},(∀ a∈as,a.length<=B)->(mk m as).length<=as.length*(B+1)
 | [],_=>by simp[mk]
 | a::as,h=>by
  have h1:=h a (tH);have h2:=zhD m (as:=as) λx hx=>h x (tQ _ hx);show(a++[m]++mk m as).length<=_;simp only[sY,sS,qm]at h2 ⊢;rw[qK];omega
theorem zcL(hn:s[n]?=some (.lst (A.map aD)))(hA:∀ a∈A,a.1<4/\a.2.1<4)(la:A.length<=40)
   (hQ:∀ s' f,Pf s s'->s'[f]?=some (.lst ((jn "," (A.map yw)).map .str))->Q (.ref f) s'):wE (d_law_arc_tokens [.ref n] s) Q X:=by
 unfold d_law_arc_tokens;refine(yW (by rfl)).mpr ?_;rw[zpw];generalize hB:AtB=Bd;generalize hE:AtE=En;simp;have p1:Pf s (s++[O.lst []]):=Pf.app;have g1:=zJ (s:=s) (o:=O.lst []);generalize hs1:s++[O.lst []]=s1 at *;have n1:=p1 _ _ hn;rw[zX n1,zB];dsimp only;refine xF (n:=n) (ds:=A.map aD) (IAt s1 A (some (.ref n))) (λr σ s' ⟨_,_,_,_,_,_,_,_,p,_⟩=>p _ _ n1) ?_ ?_ _ 0 (by simp) ⟨[],A,s.length,none,none,none,rfl,rfl,Pf.refl,g1,rfl⟩
 . rintro d r σ s2 ⟨pre,post,f,z2,z3,z4,eA,er,p2,hf,rfl⟩
   cases post with
   | nil=>cases er
   | cons a post =>
    rw[tM,List.cons.injEq]at er;obtain⟨rfl,rfl⟩:=er
    have ma:a∈A:=by rw[eA];simp
    refine⟨[some (.ref n),some (.ref f),some (.int a.1),some (.int a.2.1),some (.bl a.2.2)],rfl,?_⟩;rw[← hB]
    have lf:=zhD "," (B:=3) (as:=pre.map yw) λx hx=>by
     obtain⟨y,_,rfl⟩:=tK.mp hx;simp[yw]
    have lA:A.length=pre.length+(post.length+1):=by rw[eA];simp
    rw[tR]at lf;refine zof hf (by omega) (hA a ma).1 (hA a ma).2 λs3 f' p3 h3=>?_;rw[← zhG,show pre.map yw++[yw a]=(pre++[a]).map yw by simp]at h3;exact⟨pre++[a],post,f',_,_,_,by rw[eA];simp,rfl,p2.trans p3,h3,rfl⟩
 . rintro σ s2 ⟨pre,post,f,z2,z3,z4,eA,er,p2,hf,rfl⟩
   cases post with
   | cons a post=>cases er
   | nil =>
    rw[sE]at eA;subst eA
    try simp
    rw[← hE];refine zlv hf ?_;rw[zek];exact hQ _ _ (p1.trans (p2.trans Pf.app)) zJ
abbrev lkD:Nat×List Str->D:=P61.lD
def IRo(s:S)(L:List (Nat×List Str))(v0:Option D)(r:List D)(σ:Fc.Env)(s':S):Prop:=∃(pre post:List (Nat×List Str)) (f:Nat) (z2:Option D),L=pre++post/\r=post.map lkD/\Pf s s'/\s'[f]?=some (.lst ((mk ";" (pre.map (·.2))).map .str))/\σ=[v0,some (.ref f),z2]
theorem zov{y:List Str}{p:Nat}(hf:s[f]?=some (.lst (F.map .str)))(hp:s[p]?=some (.lst (y.map .str)))(fl:F.length+y.length<=1000000)
  (hQ:∀ s' f',Pf s s'->s'[f']?=some (.lst ((F++(y++[(";":Str)])).map .str))->P.nx [v0,some (.ref f'),some (.ref p)] s') :
  wC (RoB [v0,some (.ref f),some (.ref p)] s) P:=by
 unfold RoB;simp;rw[zaa hf hp (by simp;omega)];have p1:Pf s (s++[O.lst (F.map .str++y.map .str)]):=Pf.app;have g1:=zJ (s:=s) (o:=O.lst (F.map .str++y.map .str));generalize s++[O.lst (F.map D.str++y.map D.str)]=s1 at *
 try simp
 have p2:Pf s1 (s1++[O.lst [.str ";"]]):=Pf.app;have g2:=zJ (s:=s1) (o:=O.lst [.str ";"]);have g12:=p2 _ _ g1;generalize s1++[O.lst [D.str ";"]]=s2 at *;rw[zaa g12 g2 (by simp;omega)];refine hQ _ _ (p1.trans (p2.trans Pf.app)) ?_;rw[zJ];simp
theorem zjR{L:List (Nat×List Str)}(hn:s[n]?=some (.lst (L.map lkD)))(hL:∀ x∈L,s[x.1]?=some (.lst (x.2.map .str))/\x.2.length<=200)(ll:L.length<=100)
   (hQ:∀ s' f,Pf s s'->s'[f]?=some (.lst ((jn ";" (L.map (·.2))).map .str))->Q (.ref f) s'):wE (d_law_rowed [.ref n] s) Q X:=by
 unfold d_law_rowed;refine(yW (by rfl)).mpr ?_;rw[zqy];generalize hB:RoB=Bd;generalize hE:AtE=En;simp;have p1:Pf s (s++[O.lst []]):=Pf.app;have g1:=zJ (s:=s) (o:=O.lst []);generalize hs1:s++[O.lst []]=s1 at *;have n1:=p1 _ _ hn;rw[zX n1,zB];dsimp only;refine xF (n:=n) (ds:=L.map lkD) (IRo s1 L (some (.ref n))) (λr σ s' ⟨_,_,_,_,_,_,p,_⟩=>p _ _ n1) ?_ ?_ _ 0 (by simp) ⟨[],L,s.length,none,rfl,rfl,Pf.refl,g1,rfl⟩
 . rintro d r σ s2 ⟨pre,post,f,z2,eA,er,p2,hf,rfl⟩
   cases post with
   | nil=>cases er
   | cons a post =>
    rw[tM,List.cons.injEq]at er;obtain⟨rfl,rfl⟩:=er
    have ma:a∈L:=by rw[eA];simp
    refine⟨_,rfl,?_⟩;rw[← hB]
    have lf:=zhD ";" (B:=200) (as:=pre.map (·.2)) λx hx=>by
     obtain⟨y,hy,rfl⟩:=tK.mp hx;exact(hL y (by rw[eA];exact rH _ hy)).2
    have lA:L.length=pre.length+(post.length+1):=by rw[eA];simp
    rw[tR]at lf;have l2:=(hL a ma).2;refine zov hf (p2 _ _ (p1 _ _ (hL a ma).1)) (by omega) λs3 f' p3 h3=>?_;rw[← zhG,show pre.map (·.2)++[a.2]=(pre++[a]).map (·.2) by simp]at h3;exact⟨pre++[a],post,f',_,by rw[eA];simp,rfl,p2.trans p3,h3,rfl⟩
 . rintro σ s2 ⟨pre,post,f,z2,eA,er,p2,hf,rfl⟩
   cases post with
   | cons a post=>cases er
   | nil =>
    rw[sE]at eA;subst eA
    try simp
    rw[← hE]
    have key:wC (AtE [some (.ref n),some (.ref f),z2] s2) { nx:=λx s'=>Q D.non s',rt:=Q,xc:=X }:=by
     unfold AtE;simp;rw[zcz hf]
     have e:kE ((mk ";" (L.map (·.2))).map D.str) none (some (-1))=(jn ";" (L.map (·.2))).map D.str:=by rw[PW.zcq,← List.map_dropLast,zek]
     rw[e];exact hQ _ _ (p1.trans (p2.trans Pf.app)) zJ
    exact key
end
open P61 (Lot lD Lo LoK zbe)
noncomputable section
def StT:T:=(tOr (tB (e2 oNe (zg 3) (eN zQ zj))) (tB (e2 oNe (zg 6) (eN zQ zj))))
def StX:C:=(yE (eM yc (zg 10) (za (eM zej (e2 oAt (zg 11) (zE PW.d_law_draw [] (za (zg 0) (za (eN wW (za (zg 11) zj)) zj)))) (za (eC (.int 0)) zj)) zj)))
def StW:C:=(zG (zR (eLc [12] (yd .seq (eN zQ (za (zg 3) (za (zg 6) zj)))) (gName 12) (tB (e2 oNe (zg 12) (eN zQ zj))) (zg 12)) (gName 11)) StX)
end
abbrev Qr:=Nat×Sm
def ql(x:Qr):Lot:=(x.1,xG x.2)
def qD(x:Qr):D:=.ref x.1
structure Ql(s:S)(n:Nat)(xs:List Qr):Prop where
 at_:s[n]?=some (.lst (xs.map qD))
 lo:∀ x∈xs,s[x.1]?=some (.lst ((xG x.2).map .str))
 ok:∀ x∈xs,SmOk x.2/\SmB x.2
section
variable{s s':S}{X:Xc}{Q:D->S->Prop}{n g f e d m:Nat}{xs ps qs ds:List Qr}{v0 v1 v2 v4 v5 v7 v8 v9 v10 v11 v12:Option D}
theorem Ql.pf(h:Ql s n xs)(p:Pf s s'):Ql s' n xs:=⟨p _ _ h.at_,λx hx=>p _ _ (h.lo x hx),h.ok⟩
theorem Ql.at2(h:Ql s n xs):s[n]?=some (.lst ((xs.map ql).map lD)):=by
 rw[tW];exact h.at_
theorem Ql.nil(h:Ql s n xs)(hm:s[m]?=some (.lst [])):eqD s (.ref n) (.ref m)=some (decide (xs=[])):=by
 rw[zbe h.at2 (λz hz=>?_) (λz hz=>?_) hm]
 . congr 1;rw[decide_eq_decide];simp
 . obtain⟨x,hx,rfl⟩:=tK.mp hz;exact h.lo x hx
 . obtain⟨x,hx,rfl⟩:=tK.mp hz;intro t ht;have:=(znn (h.ok x hx).1 (h.ok x hx).2).tk t ht;exact⟨zjv this.1,this.2⟩
structure Pl(s:S)(g f e d:Nat)(ps qs ds:List Qr):Prop where
 hp:Ql s f ps
 hq:Ql s e qs
 hd:Ql s d ds
 ne:g≠f/\g≠e/\g≠d/\f≠e/\f≠d/\e≠d
 av:∀ x,x∈ps\/x∈qs\/x∈ds->x.1≠g/\x.1≠f/\x.1≠e/\x.1≠d
theorem Pl.pf(h:Pl s g f e d ps qs ds)(p:Pf s s'):Pl s' g f e d ps qs ds:=⟨h.hp.pf p,h.hq.pf p,h.hd.pf p,h.ne,h.av⟩
theorem Ql.set(h:Ql s n xs){o:O}(hn:n≠m)(hx:∀ x∈xs,x.1≠m):Ql (s.set m o) n xs:=⟨by rw[zP hn.symm];exact h.at_,λx m=>by rw[zP (hx x m).symm];exact h.lo x m,h.ok⟩
theorem Pl.setg(h:Pl s g f e d ps qs ds){o:O}:Pl (s.set g o) g f e d ps qs ds :=
 ⟨h.hp.set h.ne.1.symm λx m=>(h.av x (.inl m)).1,h.hq.set h.ne.2.1.symm λx m=>(h.av x (.inr (.inl m))).1,h.hd.set h.ne.2.2.1.symm λx m=>(h.av x (.inr (.inr m))).1,h.ne,h.av⟩
theorem zoy(h:Pl s g f e d ps qs ds){Q:Bool->S->Prop}(hQ:∀ s',Pf s s'->Q (decide (ps≠[]\/qs≠[])) s'):wE (StT [v0,v1,v2,some (.ref f),v4,v5,some (.ref e),v7,v8,v9,v10,v11,v12] s) Q X:=by
 unfold StT;simp;have p1:Pf s (s++[O.lst []]):=Pf.app;rw[(h.hp.pf p1).nil zJ]
 by_cases hp:ps=[]
 . simp[hp];have p2:Pf s (s++[O.lst [],O.lst []]):=Pf.app
   have g2:(s++[O.lst [],O.lst []])[s.length+1]?=some (O.lst []):=by
    rw[rW (by omega),show s.length+1 - s.length=1 by omega];rfl
   rw[(h.hq.pf p2).nil g2];have:=hQ _ p2;by_cases hq:qs=[] <;> simp[hp,hq]at this ⊢ <;> exact this
 . have:=hQ _ p1;simp[hp]at this ⊢;exact this
end
def Kq(g f e d:Nat)(s s':S):Prop:=s.length<=s'.length/\∀ n:Nat,n≠g->n≠f->n≠e->n≠d->∀ o,s[n]?=some o->s'[n]?=some o
section
variable{s s' s2:S}{P:Pst}{n g B f e d m:Nat}{xs ps qs ds:List Qr}{x:Qr}{v1 v2 v4 v5 v7 v8 v9 v12:Option D}
theorem Kq.pf(p:Pf s s'):Kq g f e d s s':=⟨p.len,λn _ _ _ _ o h=>p n o h⟩
theorem Kq.trans(a:Kq g f e d s s')(b:Kq g f e d s' s2):Kq g f e d s s2:=⟨sW a.1 b.1,λn h1 h2 h3 h4 o h=>b.2 n h1 h2 h3 h4 o (a.2 n h1 h2 h3 h4 o h)⟩
theorem Kq.set{o:O}(h:m=g\/m=f\/m=e\/m=d):Kq g f e d s (s.set m o):=⟨by simp,λn h1 h2 h3 h4 o' e'=>by
 rw[zP (by rcases h with rfl | rfl | rfl | rfl <;> exact sH (by assumption))]
 exact e'⟩
theorem Ql.tail(h:Ql s n (x::xs))(hx:∀ y∈x::xs,y.1≠n):Ql (s.set n (.lst (xs.map qD))) n xs:=⟨yD (zq h.at_),λy m=>by rw[zP (hx y (tQ _ m)).symm];exact h.lo y (tQ _ m),λy m=>h.ok y (tQ _ m)⟩
theorem Ql.snoc(h:Ql s n xs)(hx:∀ y∈xs++[x],y.1≠n)(hl:s[x.1]?=some (.lst ((xG x.2).map .str)))(ok:SmOk x.2/\SmB x.2):Ql (s.set n (.lst ((xs++[x]).map qD))) n (xs++[x]):=⟨yD (zq h.at_),λy m=>by
 rw[zP (hx y m).symm]
 rcases tZ.mp m with m | m
 . exact h.lo y m
 . rw[tV.mp m]
   exact hl,λy m=>(tZ.mp m).elim (h.ok y) λm=>by rw[tV.mp m];exact ok⟩
theorem Pl.zoI(h:Pl s g f e d (x::ps) qs ds):Pl ((s.set f (.lst (ps.map qD))).set d (.lst ((ds++[x]).map qD))) g f e d ps qs (ds++[x]):=by
 obtain⟨n1,n2,n3,n4,n5,n6⟩:=h.ne;have ax:=h.av x (.inl (tH));have af:∀ y∈x::ps,y.1≠f:=λy m=>(h.av y (.inl m)).2.1;have h1:=h.hp.tail af;have h2:=h.hq.set (o:=.lst (ps.map qD)) n4.symm λy m=>(h.av y (.inr (.inl m))).2.1;have h3:=h.hd.set (o:=.lst (ps.map qD)) n5.symm λy m=>(h.av y (.inr (.inr m))).2.1
 have lx:(s.set f (.lst (ps.map qD)))[x.1]?=some (.lst ((xG x.2).map .str)):=by rw[zP ax.2.1.symm];exact h.hp.lo x (tH)
 have ad:∀ y∈ds++[x],y.1≠d:=λy m=>(tZ.mp m).elim (λm=>(h.av y (.inr (.inr m))).2.2.2) λm=>by rw[tV.mp m];exact ax.2.2.2
 exact⟨h1.set n5 λy m=>(h.av y (.inl (tQ _ m))).2.2.2,h2.set n6 λy m=>(h.av y (.inr (.inl m))).2.2.2,h3.snoc ad lx (h.hp.ok x (tH)),h.ne,λy m=>by
  rcases m with m | m | m
  . exact h.av y (.inl (tQ _ m))
  . exact h.av y (.inr (.inl m))
  . rcases tZ.mp m with m | m
    . exact h.av y (.inr (.inr m))
    . rw[tV.mp m]
      exact ax⟩
theorem Pl.swap(h:Pl s g f e d ps qs ds):Pl s g e f d qs ps ds:=⟨h.hq,h.hp,h.hd,⟨h.ne.2.1,h.ne.1,h.ne.2.2.1,h.ne.2.2.2.1.symm,h.ne.2.2.2.2.2,h.ne.2.2.2.2.1⟩,λx m=>by
 have:=h.av x (by rcases m with m | m | m;exact .inr (.inl m);exact .inl m;exact .inr (.inr m))
 exact⟨this.1,this.2.2.1,this.2.1,this.2.2.2⟩⟩
theorem Pl.stepQ(h:Pl s g f e d ps (x::qs) ds):Pl ((s.set e (.lst (qs.map qD))).set d (.lst ((ds++[x]).map qD))) g f e d ps qs (ds++[x]):=h.swap.zoI.swap
def lots(f e:Nat)(ps qs:List Qr):List D:=([(f,decide (ps≠[])),(e,decide (qs≠[]))]:List (Nat×Bool)).filterMap λx=>if x.2=true then some (.ref x.1)else none
theorem zjn:(lots f e ps qs).length<=2/\(ps≠[]\/qs≠[]->1<=(lots f e ps qs).length):=by
 unfold lots;by_cases h1:ps=[] <;> by_cases h2:qs=[] <;> simp[h1,h2]
theorem zjo{y:D}(h:y∈lots f e ps qs):(y=.ref f/\ps≠[])\/(y=.ref e/\qs≠[]):=by
 unfold lots at h;obtain⟨x,hx,ex⟩:=qw.mp h
 rcases tU.mp hx with rfl | hx
 . by_cases c:ps=[]
   . simp[c]at ex
   . simp[c]at ex;exact .inl ⟨ex.symm,c⟩
 . rw[tV.mp hx]at ex
   by_cases c:qs=[]
   . simp[c]at ex
   . simp[c]at ex;exact .inr ⟨ex.symm,c⟩
theorem zoA(h:Pl s g f e d ps qs ds)(hg:Gen s g (B+40))(hm:s[m]?=some (.lst (lots f e ps qs)))(mg:m≠g)(ne:ps≠[]\/qs≠[])(ld:ds.length<10000)
   (hQ:∀ s' ps' qs' x,(ps=x::ps'/\qs'=qs)\/(ps'=ps/\qs=x::qs')->Pl s' g f e d ps' qs' (ds++[x])->Gen s' g B->Kq g f e d s s'->P.nx [some (.ref g),v1,v2,some (.ref f),v4,v5,some (.ref e),v7,v8,v9,some (.ref d),some (.ref m),v12] s') :
   wC (StX [some (.ref g),v1,v2,some (.ref f),v4,v5,some (.ref e),v7,v8,v9,some (.ref d),some (.ref m),v12] s) P:=by
 unfold StX;obtain⟨l1,l2⟩:=zjn (f:=f) (e:=e) (ps:=ps) (qs:=qs);have l2:=l2 ne;have hmem:∀ y∈lots f e ps qs,(y=.ref f/\ps≠[])\/(y=.ref e/\qs≠[]):=λy=>zjo;generalize lots f e ps qs=LL at *;have hlen:zbk s (.ref m)=some LL.length:=vY hm;simp[hlen,show uD s (.ref d)=true from isl h.hd.at_];refine PW.xM hg (by omega) (by omega) λz o z1 z2 g2=>?_;obtain⟨z,rfl⟩:=rQ z1
 have zl:z<LL.length:=by omega
 have m2:(s.set g o)[m]?=some (.lst LL):=by rw[zP mg.symm];exact hm
 have ea:atD (s.set g o) (.ref m) (.int (z:Int))=some (LL[z]):=by
   rw[yM m2,atI_nat,rE zl]
 have k1:Kq g f e d s (s.set g o):=.set (.inl rfl);have h2:=h.setg (o:=o);obtain⟨n1,n2,n3,n4,n5,n6⟩:=h.ne;generalize s.set g o=s1 at *;simp[ea]
 have key:∀(s2:S) (a:Nat) (t:List D),a≠g->Gen (s1.set a (.lst t)) g B:=λs2 a t ha=>by
   obtain⟨x,y,z,e',r⟩:=g2;exact⟨x,y,z,by rw[zP ha];exact e',r⟩
 rcases hmem _ (qM zl)with ⟨ey,c⟩ | ⟨ey,c⟩
 . rw[ey]
   cases ps with
   | nil=>exact absurd rfl c
   | cons x ps =>
    rw[show uD s1 (.ref f)=true from isl h2.hp.at_,yj,zkC h2.hp.at_]
    have gd:(s1.set f (.lst (ps.map qD)))[d]?=some (.lst (ds.map qD)):=by rw[zP n5];exact h2.hd.at_
    simp[yr gd,ld];rw[decide_eq_true (by omega),yj];have hn:=h2.zoI;rw[sG]at hn;refine hQ _ ps qs x (.inl ⟨rfl,rfl⟩) hn ?_ (k1.trans ((Kq.set (.inr (.inl rfl))).trans (Kq.set (.inr (.inr (.inr rfl))))));obtain⟨x',y',z',e',r⟩:=g2;exact⟨x',y',z',by rw[zP n3.symm,zP n1.symm];exact e',r⟩
 . rw[ey]
   cases qs with
   | nil=>exact absurd rfl c
   | cons x qs =>
    rw[show uD s1 (.ref e)=true from isl h2.hq.at_,yj,zkC h2.hq.at_]
    have gd:(s1.set e (.lst (qs.map qD)))[d]?=some (.lst (ds.map qD)):=by rw[zP n6];exact h2.hd.at_
    simp[yr gd,ld];rw[decide_eq_true (by omega),yj];have hn:=h2.stepQ;rw[sG]at hn;refine hQ _ ps qs x (.inr ⟨rfl,rfl⟩) hn ?_ (k1.trans ((Kq.set (.inr (.inr (.inl rfl)))).trans (Kq.set (.inr (.inr (.inr rfl))))));obtain⟨x',y',z',e',r⟩:=g2;exact⟨x',y',z',by rw[zP n3.symm,zP n2.symm];exact e',r⟩
end
end P81
namespace P81
open PySem Fc P1 P85 PB PC P83
open P20 (zX)
open P61 (Lot lD Lo LoK zbe)
open PW (dg wj)
noncomputable section
def StE:C:=(zY (zg 10))
def StL:C:=(zG (zR (eN zQ zj) (gName 10)) (zG (wM StT StW) StE))
def StS:C:=(zG (zR (eLc [4,7,8,9] (yd .seq (zg 2)) (gTup 4 (gCons (gName 4) (gCons (gName 7) (gCons (gName 8) (gCons (gName 9) gNil))))) tYes (e2 yq (e2 yq (eN zQ (za (eC (.str "call")) (za (zg 4) (za (zg 7) (za (zg 8) (za (eC (.str "[")) zj)))))) (zE d_law_arc_tokens [] (za (zg 9) zj))) (eN zQ (za (eC (.str "]")) zj)))) (gName 6)) StL)
theorem zoJ:b_law_statements=(zG (zR (eLc [4,5] (yd .seq (zg 1)) (gTup 2 (gCons (gName 4) (gCons (gName 5) gNil))) tYes (eN zQ (za (eC (.str "fun")) (za (zg 4) (za (eN zaI (za (zg 5) zj)) zj))))) (gName 3)) StS):=rfl
end
section
variable{s s' s2:S}{P:Pst}{g B f e d:Nat}{ps qs ds:List Qr}{x:Qr}{v1 v2 v4 v5 v7 v8 v9 v11 v12:Option D}{hs:List (Str×Nat)}{l:List Rw}
theorem zoz(h:Pl s g f e d ps qs ds)(hg:Gen s g (B+40))(ne:ps≠[]\/qs≠[])(ld:ds.length<10000)
   (hQ:∀ s' ps' qs' x v11 v12,(ps=x::ps'/\qs'=qs)\/(ps'=ps/\qs=x::qs')->Pl s' g f e d ps' qs' (ds++[x])->Gen s' g B->Kq g f e d s s'->P.nx [some (.ref g),v1,v2,some (.ref f),v4,v5,some (.ref e),v7,v8,v9,some (.ref d),v11,v12] s') :
   wC (StW [some (.ref g),v1,v2,some (.ref f),v4,v5,some (.ref e),v7,v8,v9,some (.ref d),v11,v12] s) P:=by
 unfold StW;generalize hE:StX=En
 have lg:g<s.length:=by
   obtain⟨a,b,c,e2,_⟩:=hg;exact zq e2
 simp;have p1:Pf s (s++[O.lst [.ref f,.ref e]]):=Pf.app;have g1:(s++[O.lst [.ref f,.ref e]])[s.length]?=some (.lst ([(f,decide (ps≠[])),(e,decide (qs≠[]))].map λx:Nat×Bool=>D.ref x.1)):=zJ;rw[zX g1,zB];dsimp only
 have hg1:Gen (s++[O.lst [.ref f,.ref e]]) g (B+40):=by
   obtain⟨a,b,c,e2,r⟩:=hg;exact⟨a,b,c,p1 _ _ e2,r⟩
 have lg1:g<(s++[O.lst [.ref f,.ref e]]).length:=by simp;omega
 have h1:=h.pf p1;generalize s++[O.lst [D.ref f,D.ref e]]=s1 at *;refine zcm (fx:=λx:Nat×Bool=>D.ref x.1) (λx:Nat×Bool=>if x.2=true then some (.ref x.1)else none) g1 (by simp) (λz hz s2 p2=>⟨_,rfl,?_⟩) λs2 p2 g2=>?_
 . have h2:=h1.pf p2
   rcases tU.mp hz with rfl | hz
   . simp[wipe];have p3:Pf s2 (s2++[O.lst []]):=Pf.app;rw[(h2.hp.pf p3).nil zJ]
     by_cases c:ps=[]
     . simp[c];exact p3
     . simp[c];exact⟨p3,Pf.refl⟩
   . rw[tV.mp hz];simp[wipe];have p3:Pf s2 (s2++[O.lst []]):=Pf.app;rw[(h2.hq.pf p3).nil zJ]
     by_cases c:qs=[]
     . simp[c];exact p3
     . simp[c];exact⟨p3,Pf.refl⟩
 . try simp
   rw[← hE]
   have hg2:Gen s2 g (B+40):=by
     obtain⟨a,b,c,e2,r⟩:=hg1;exact⟨a,b,c,p2 _ _ e2,r⟩
   have g3:s2[s1.length]?=some (.lst (lots f e ps qs)):=g2;refine zoA (h1.pf p2) hg2 g3 (by omega) ne ld λs3 ps' qs' x c pl g4 k=>?_;exact hQ s3 ps' qs' x _ _ c pl g4 ((Kq.pf (p1.trans p2)).trans k)
structure Rest(hs:List (Str×Nat))(l:List Rw)(ps qs ds:List Qr):Prop where
 c1:∃ h2,ps.map (·.2)=h2.map Sum.inl/\ltS (ds.map (·.2))++h2=hs
 c2:∃ l2,qs.map (·.2)=l2.map Sum.inr/\rtS (ds.map (·.2))++l2=l
theorem Rest.step{ps' qs':List Qr}(h:Rest hs l ps qs ds)(c:(ps=x::ps'/\qs'=qs)\/(ps'=ps/\qs=x::qs')):Rest hs l ps' qs' (ds++[x]):=by
 obtain⟨⟨h2,a1,a2⟩,⟨l2,b1,b2⟩⟩:=h
 rcases c with ⟨rfl,rfl⟩ | ⟨rfl,rfl⟩
 . cases h2 with
   | nil=>cases a1
   | cons y h2 =>
    rw[tM,tM,List.cons.injEq]at a1;obtain⟨e1,e2⟩:=a1;refine⟨⟨h2,e2,?_⟩,⟨l2,b1,?_⟩⟩
    . rw[sG,zhz,pC,e1,← a2,rR];rfl
    . rw[sG,ziq,pC,e1,← b2];show rtS _++[]++l2=_;rw[sE]
 . cases l2 with
   | nil=>cases b1
   | cons y l2 =>
    rw[tM,tM,List.cons.injEq]at b1;obtain⟨e1,e2⟩:=b1;refine⟨⟨h2,a1,?_⟩,⟨l2,e2,?_⟩⟩
    . rw[sG,zhz,pC,e1,← a2];show ltS _++[]++h2=_;rw[sE]
    . rw[sG,ziq,pC,e1,← b2,rR];rfl
theorem zdF(h:Pl s g f e d ps qs [])(hg:Gen s g (B+40*(ps.length+qs.length)))(hr:Rest hs l ps qs [])(lp:ps.length+qs.length<=100)
   (hQ:∀ s' ds v11 v12,Ql s' d ds->ltS (ds.map (·.2))=hs->rtS (ds.map (·.2))=l->ds.length=ps.length+qs.length->Gen s' g B->Kq g f e d s s'->P.nx [some (.ref g),v1,v2,some (.ref f),v4,v5,some (.ref e),v7,v8,v9,some (.ref d),v11,v12] s') :
   wC (wM StT StW [some (.ref g),v1,v2,some (.ref f),v4,v5,some (.ref e),v7,v8,v9,some (.ref d),v11,v12] s) P:=by
 refine zcT (λk σ s'=>∃ ps' qs' ds' v11 v12,σ=[some (.ref g),v1,v2,some (.ref f),v4,v5,some (.ref e),v7,v8,v9,some (.ref d),v11,v12]/\Pl s' g f e d ps' qs' ds'/\Gen s' g (B+40*(ps'.length+qs'.length))/\Rest hs l ps' qs' ds'/\k=ps'.length+qs'.length/\ds'.length+k=ps.length+qs.length/\Kq g f e d s s') _
   ⟨ps,qs,[],v11,v12,rfl,h,hg,hr,rfl,by simp,Kq.pf Pf.refl⟩ ?_
 rintro k σ s1 ⟨ps',qs',ds',v11,v12,rfl,h1,hg1,hr1,rfl,ek,k1⟩;refine zoy h1 λs2 p2=>?_
 have hg2:Gen s2 g (B+40*(ps'.length+qs'.length)):=by
   obtain⟨a,b,c,e2,r⟩:=hg1;exact⟨a,b,c,p2 _ _ e2,r⟩
 have k2:=k1.trans (Kq.pf p2);by_cases c:ps'≠[]\/qs'≠[]
 . rw[if_pos (decide_eq_true c)]
   have pos:1<=ps'.length+qs'.length:=by
    rcases c with c | c
    . have:=pU.mpr c;omega
    . have:=pU.mpr c;omega
   refine⟨ps'.length+qs'.length - 1,by omega,?_⟩;refine zoz (h1.pf p2) (B:=B+40*(ps'.length+qs'.length - 1)) (by rw[show B+40*(ps'.length+qs'.length - 1)+40=B+40*(ps'.length+qs'.length) by omega];exact hg2) c (by omega) λs3 ps2 qs2 x v11 v12 cc pl g3 k3=>?_
   have el:ps2.length+qs2.length=ps'.length+qs'.length - 1:=by
    rcases cc with ⟨rfl,rfl⟩ | ⟨rfl,rfl⟩
    . simp
    . simp
   exact⟨ps2,qs2,ds'++[x],_,_,rfl,pl,by rw[el];exact g3,hr1.step cc,el.symm,by rw[sY,pA];omega,k2.trans k3⟩
 . rw[if_neg (by simpa using c)];have c1:ps'=[]:=Classical.byContradiction λz=>c (.inl z);have c2:qs'=[]:=Classical.byContradiction λz=>c (.inr z);subst c1;subst c2;obtain⟨⟨h2,a1,a2⟩,⟨l2,b1,b2⟩⟩:=hr1
   have e1:h2=[]:=by simpa using a1.symm
   have e2:l2=[]:=by simpa using b1.symm
   subst e1;subst e2;rw[sE]at a2 b2;exact hQ s2 ds' v11 v12 (h1.pf p2).hd a2 b2 (by simpa using ek) (by simpa using hg2) k2
end
end P81
namespace P81
open PySem Fc P1 P85 PB PC P83
open P20 (zX)
open P61 (Lot lD Lo LoK zbe)
open PW (dg wj Arcs)
section
variable{s s' s2:S}{X:Xc}{Q:D->S->Prop}{n g B f e d F C:Nat}{xs ps qs ds:List Qr}{x:Qr}{v0 v1 v2 v3 v5 v6 v7 v8 v9 v10 v11 v12:Option D}{hs:List (Str×Nat)}{l:List Rw}
def Rq(b:Nat)(z:Sm)(y:D)(s:S):Prop:=∃ q,y=.ref q/\b<q/\s[q]?=some (.lst ((xG z).map .str))
theorem zio{α:Type}{b:Nat}{s:S}{G:α->Sm}:∀{xs:List α}{acc:List D},wj (λx y=>Rq b (G x) y s) xs acc->∃ ps:List Qr,acc=ps.map qD/\ps.map (·.2)=xs.map G/\∀ p∈ps,b<p.1/\s[p.1]?=some (.lst ((xG p.2).map .str))
 | [],[],_=>⟨[],rfl,rfl,λ_ h=>(su h).elim⟩
 | [],_::_,h=>h.elim
 | _::_,[],h=>h.elim
 | x::xs,y::acc,⟨⟨q,e1,e2,e3⟩,h⟩=>by
  obtain⟨ps,a1,a2,a3⟩:=zio h;refine⟨(q,G x)::ps,by rw[e1,a1];rfl,by rw[tM,a2];rfl,λp hp=>?_⟩
  rcases tU.mp hp with rfl | hp
  . exact⟨e2,e3⟩
  . exact a3 p hp
theorem zpM{x:Str×Nat}(h:x.2<4){b:Nat}(hb:b<s.length) :
  wE (eN zQ (za (eC (.str "fun")) (za (zg 4) (za (eN zaI (za (zg 5) zj)) zj))) [v0,v1,v2,v3,some (.str x.1),some (.int x.2),v6,v7,v8,v9,v10,v11,v12] s) (λy s2=>Pf s s2/\Rq b (.inl x) y s2) X:=by
 have l1:x.2.log2<1920:=by have:=Nat.log2_le_self x.2;omega
 simp[l1];exact⟨Pf.app,s.length,rfl,hb,by rw[zJ];rfl⟩
theorem znu{r:Rw}(hr:s[r.a]?=some (.lst (r.A.map aD)))(hA:∀ a∈r.A,a.1<4/\a.2.1<4)(la:r.A.length<=40){b:Nat}(hb:b<s.length) :
   wE (e2 yq (e2 yq (eN zQ (za (eC (.str "call")) (za (zg 4) (za (zg 7) (za (zg 8) (za (eC (.str "[")) zj)))))) (zE d_law_arc_tokens [] (za (zg 9) zj))) (eN zQ (za (eC (.str "]")) zj)) [v0,v1,v2,v3,some (.str r.nm),v5,v6,some (.str r.src.1),some (.str r.tgt.1),some (.ref r.a),v10,v11,v12] s) (λy s2=>Pf s s2/\Rq b (.inr r) y s2) X:=by
 simp;have p1:Pf s (s++[O.lst [.str "call",.str r.nm,.str r.src.1,.str r.tgt.1,.str "["]]):=Pf.app;have g1:=zJ (s:=s) (o:=O.lst [.str "call",.str r.nm,.str r.src.1,.str r.tgt.1,.str "["]);generalize s++[O.lst [.str "call",.str r.nm,.str r.src.1,.str r.tgt.1,.str "["]]=s1 at *;refine zcL (p1 _ _ hr) hA la λs2 f p2 g2=>?_;have g12:=p2 _ _ g1
 have ll:=zfk "," (B:=3) (as:=r.A.map yw) λa ha=>by
   obtain⟨x,_,rfl⟩:=tK.mp ha;simp[yw]
 rw[tR]at ll;rw[zaa g12 g2 (by simp;omega)];have p3:Pf s2 (s2++[O.lst ([.str "call",.str r.nm,.str r.src.1,.str r.tgt.1,.str "["]++(jn "," (r.A.map yw)).map .str)]):=Pf.app;have g3:=zJ (s:=s2) (o:=O.lst ([.str "call",.str r.nm,.str r.src.1,.str r.tgt.1,.str "["]++(jn "," (r.A.map yw)).map .str));generalize s2++[O.lst ([D.str "call",.str r.nm,.str r.src.1,.str r.tgt.1,.str "["]++(jn "," (r.A.map yw)).map .str)]=s3 at *;have p4:Pf s3 (s3++[O.lst [.str "]"]]):=Pf.app;have g4:=zJ (s:=s3) (o:=O.lst [.str "]"]);have g34:=p4 _ _ g3
 try simp
 generalize s3++[O.lst [.str "]"]]=s4 at *;rw[zaa g34 g4 (by simp;omega)];have p13:=p1.trans (p2.trans (p3.trans p4));refine⟨p13.trans Pf.app,s4.length,rfl,?_,?_⟩
 . have:=p13.len;omega
 . rw[zJ];simp[xG]
theorem zcQ(hg:Gen s g (B+40*(hs.length+l.length)))(hF:s[F]?=some (.lst (hs.map hD)))(hC:s[C]?=some (.lst (l.map rwD)))(ha:Arcs s l)
   (o1:∀ x∈hs,SmOk (.inl x)/\SmB (.inl x)) (o2:∀ r∈l,SmOk (.inr r)/\SmB (.inr r)) (lp:hs.length+l.length<=100)
   (hQ:∀ s' d ds,Ql s' d ds->ltS (ds.map (·.2))=hs->rtS (ds.map (·.2))=l->ds.length=hs.length+l.length->Gen s' g B->Fr g s s'->Q (.ref d) s'):wE (d_law_statements [.ref g,.ref F,.ref C] s) Q X:=by
 unfold d_law_statements;refine(yW (by rfl)).mpr ?_;rw[zoJ];generalize hE:StS=En
 have lg:g<s.length:=by
   obtain⟨a,b,c,e2,_⟩:=hg;exact zq e2
 simp;rw[zX hF,zB];dsimp only;rw[tR];refine P37.zfW (xs:=hs) (fx:=hD) (λx y s'=>Rq s.length (.inl x) y s') hF (by omega) (λx y s2 s3 ⟨q,h1,h2,h3⟩ hk=>⟨q,h1,h2,hk _ (by omega) _ h3⟩) (λx hx s2 p2 ⟨acc,hD⟩=>⟨_,rfl,?_⟩) λs2 acc p2 g2 al=>?_
 . exact zpM (o1 x hx).1.2.2 (zq hD)
 . obtain⟨ps,rfl,ep,hp⟩:=zio al
   try simp
   rw[← hE];unfold StS;generalize hE:StL=En;simp;have ls2:=zq g2;rw[zX (p2 _ _ hC),zB];dsimp only;rw[tR];refine P37.zfW (xs:=l) (fx:=rwD) (λx y s'=>Rq s2.length (.inr x) y s') (p2 _ _ hC) (by omega) (λx y s2 s3 ⟨q,h1,h2,h3⟩ hk=>⟨q,h1,h2,hk _ (by omega) _ h3⟩) (λx hx s3 p3 ⟨acc,hD⟩=>⟨_,rfl,?_⟩) λs3 acc p3 g3 al=>?_
   . exact znu (p3 _ _ (p2 _ _ (ha x hx))) (o2 x hx).1.2.2.2 (o2 x hx).2.2.2.2 (zq hD)
   . obtain⟨qs,rfl,eq,hq⟩:=zio al
     try simp
     rw[← hE];unfold StL;generalize hE:StE=En;simp;have ls3:=zq g3;have p4:Pf s3 (s3++[O.lst []]):=Pf.app
     have pl:Pl (s3++[O.lst []]) g s.length s2.length s3.length ps qs []:=by
      refine⟨⟨p4 _ _ (p3 _ _ g2),λx hx=>p4 _ _ (p3 _ _ (hp x hx).2),λx hx=>?_⟩,⟨p4 _ _ g3,λx hx=>p4 _ _ (hq x hx).2,λx hx=>?_⟩,⟨zJ,λx hx=>(su hx).elim,λx hx=>(su hx).elim⟩,⟨by omega,by omega,by omega,by omega,by omega,by omega⟩,λx hx=>?_⟩
      . have:x.2∈hs.map Sum.inl:=by rw[← ep];exact sJ hx
        obtain⟨y,hy,e⟩:=tK.mp this;rw[← e];exact o1 y hy
      . have:x.2∈l.map Sum.inr:=by rw[← eq];exact sJ hx
        obtain⟨y,hy,e⟩:=tK.mp this;rw[← e];exact o2 y hy
      . rcases hx with hx | hx | hx
        . have a1:=(hp x hx).1;have a2:=zq (hp x hx).2;exact⟨by omega,by omega,by omega,by omega⟩
        . have a1:=(hq x hx).1;have a2:=zq (hq x hx).2;exact⟨by omega,by omega,by omega,by omega⟩
        . exact(su hx).elim
     have lps:ps.length=hs.length:=by simpa using congrArg List.length ep
     have lqs:qs.length=l.length:=by simpa using congrArg List.length eq
     have p24:=p2.trans (p3.trans p4)
     have hg4:Gen (s3++[O.lst []]) g (B+40*(ps.length+qs.length)):=by
      rw[lps,lqs];obtain⟨a,b,c,e2,r⟩:=hg;exact⟨a,b,c,p24 _ _ e2,r⟩
     generalize s3++[O.lst []]=s4 at *;refine zdF pl hg4 (hs:=hs) (l:=l) ⟨⟨hs,ep,rfl⟩,⟨l,eq,rfl⟩⟩ (by omega) λs5 ds v11 v12 hd e1 e2 ld g5 k5=>?_
     try simp
     rw[← hE];unfold StE;simp;refine hQ s5 _ ds hd e1 e2 (by omega) g5 ⟨sW p24.len k5.1,λn hn o hno=>?_⟩;have:=zq hno;exact k5.2 n hn (by omega) (by omega) (by omega) o (p24 _ _ hno)
end
end P81
namespace P81
open PySem Fc P1 P85 PB PC P83
open P20 (zX)
open PW (dg wj Arcs)
noncomputable section
def RnF:C:=(zG (zR (eLc [4,8,9,10] (yd .seq (zg 2)) (gTup 4 (gCons (gName 4) (gCons (gName 8) (gCons (gName 9) (gCons (gName 10) gNil))))) tYes (eN ye (za (zg 4) (za (e2 oAt (zg 3) (zg 8)) (za (e2 oAt (zg 3) (zg 9)) (za (zg 10) zj)))))) (gName 7))
 (zY (eN ye (za (eLc [4,5] (yd .seq (zg 1)) (gTup 2 (gCons (gName 4) (gCons (gName 5) gNil))) tYes (eN ye (za (e2 oAt (zg 3) (zg 4)) (za (zg 5) zj)))) (za (zg 7) zj)))))
def RnE:C:=(zG (cIf (tB (e2 oLt (eN vf (za (eLc [4] (yd .seq (zg 3)) (gName 4) tYes (e2 oAt (zg 3) (zg 4))) zj)) (eN wW (za (zg 3) zj))))
 (zY (eN ye (za (zg 1) (za (zg 2) zj))))
 yL) RnF)
def RnD:C:=(zG (zR (eN ju (za (eLc [4] (yd .seq (zg 3)) (gName 4) tYes (eN ye (za (zg 4) (za (zaU (e2 oAt (zg 3) (zg 4)) pNo (jH (eC (.int 12)))) zj)))) zj)) (gName 3)) RnE)
def RnCb:C:=(cIf (tAnd (tB (e2 oNe (zg 1) (eN zQ zj))) (tAnd (tB (e2 oEq (zE PW.d_law_draw [] (za (zg 0) (za (eC (.int 3)) zj))) (eC (.int 0)))) (tB (e2 yU (zg 6) (eLc [4] (yd .seq (zg 3)) (gName 4) tYes (e2 oAt (zg 3) (zg 4)))))))
 (zaf (zg 3) (e2 oAt (e2 oAt (zg 1) (e2 oMod (eM zbp (eN zQ (za (eC (.str "fun")) (za (eC (.str "call")) zj))) (za (zg 6) zj)) (eN wW (za (zg 1) zj)))) (eC (.int 0))) (zg 6))
 yL)
def RnC:C:=(zG (xf (yd .seq (eN zQ (za (eC (.str "fun")) (za (eC (.str "call")) zj)))) (gName 6) RnCb) RnD)
def RnBb:C:=(cIf (tB (e2 oEq (zE PW.d_law_draw [] (za (zg 0) (za (eC (.int 4)) zj))) (eC (.int 0))))
 (zaf (zg 3) (zg 4) (e2 yq (e2 oAt (eN zQ (za (eC (.str "fun")) (za (eC (.str "call")) (za (eC (.str "abcdefghijkl")) (za (eC (.str "f")) zj))))) (zE PW.d_law_draw [] (za (zg 0) (za (eC (.int 4)) zj)))) (zg 4)))
 yL)
def RnB:C:=(zG (xf (yd .seq (zg 1)) (gTup 2 (gCons (gName 4) (gCons (gName 5) gNil))) RnBb) RnC)
theorem zqx:b_law_renamed=(zG (zR (eN ju (za (eLc [4,5] (yd .seq (zg 1)) (gTup 2 (gCons (gName 4) (gCons (gName 5) gNil))) tYes (eN ye (za (zg 4) (za (zg 4) zj)))) zj)) (gName 3)) RnB):=rfl
end
def Kvs(φ:Str->Str)(ks:List Str):List (L2.Key×D):=ks.map λy=>(.inr y,.str (φ y))
def upS(φ:Str->Str)(y v:Str):Str->Str:=λx=>if x=y then v else φ x
def Nmk(φ:Str->Str)(ks:List Str):Prop:=∀ y∈ks,Ltr (φ y)/\1<=(φ y).length/\(φ y).length<=30
section
variable{s s' s2:S}{P:Pst}{n g w B f e m:Nat}{x y v:Str}{φ:Str->Str}{ks:List Str}{v1 v2 v5 v6 v7 v8 v9 v10:Option D}{l:List Rw}
theorem zkp(h:¬ x=y):¬ ((Sum.inr x:_root_.L2.Key)=Sum.inr y):=λz=>h (by injection z)
theorem kv_get:∀{ks:List Str},y∈ks->kget (Kvs φ ks) (.inr y)=some (.str (φ y))
 | k::ks,h=>by
  unfold kget Kvs;rw[tM,qj];by_cases e:k=y
  . subst e;simp
  . have ih:=kv_get (ks:=ks) ((tU.mp h).resolve_left λz=>e z.symm);unfold kget Kvs at ih;simp only[zkp e,decide_false];exact ih
theorem znz(h:y∈ks):kput (Kvs φ ks) (.inr y) (.str v)=Kvs (upS φ y v) ks:=by
 unfold kput;rw[if_pos]
 . unfold Kvs upS;rw[tW];refine qI λz _=>?_;by_cases e:z=y
   . simp[e]
   . simp[e,zkp e]
 . refine ph.mpr ⟨(.inr y,.str (φ y)),tK.mpr ⟨y,h,rfl⟩,by simp⟩
theorem zht(hw:s[w]?=some (.dK (Kvs φ ks))\/s[w]?=some (.lck (.dK (Kvs φ ks))))(h:y∈ks):atD s (.ref w) (.str y)=some (.str (φ y)):=by
 rcases hw with hw | hw <;> (simp only[atD,hw,unl,dget,keyOf,rA,kv_get h];rfl)
theorem zfo(hw:s[w]?=some (.dK (Kvs φ ks)))(h:y∈ks)(hl:ks.length<1000):putAt s (.ref w) (.str y) (.str v)=some (s.set w (.dK (Kvs (upS φ y v) ks))):=by
 simp only[Fc.putAt,hw,dput];rw[if_pos (by unfold Kvs;simp;omega)];simp only[keyOf,rA,znz h]
def prS(φ:Str->Str)(y:Str):D:=.tup [.str y,.str (φ y)]
theorem zeq(φ:Str->Str):∀ ks:List Str,jA (ks.map (prS φ))=some (Kvs φ ks)
 | []=>rfl
 | q::l=>by
  have r:=zeq φ l;show jA (.tup [.str q,.str (φ q)]::l.map (prS φ))=_;unfold jA;rw[r];rfl
theorem zkf(nd:ks.Nodup):uM [] (Kvs φ ks)=Kvs φ ks:=by
 have e:(Kvs φ ks).map (·.1)=ks.map Sum.inr:=by simp[Kvs]
 have z:((Kvs φ ks).map (·.1)).Nodup:=by
  rw[e];exact List.Pairwise.map _ (λa b h e=>h (by injection e)) nd
 have:=zbr (kvs:=Kvs φ ks) (a:=[]) (by simpa using z);simpa using this
def K2(g w:Nat)(s s':S):Prop:=s.length<=s'.length/\∀ n:Nat,n≠g->n≠w->∀ o,s[n]?=some o->s'[n]?=some o
theorem K2.pf(p:Pf s s'):K2 g w s s':=⟨p.len,λn _ _ o h=>p n o h⟩
theorem K2.trans(a:K2 g w s s')(b:K2 g w s' s2):K2 g w s s2:=⟨sW a.1 b.1,λn h1 h2 o h=>b.2 n h1 h2 o (a.2 n h1 h2 o h)⟩
theorem K2.set{o:O}(h:m=g\/m=w):K2 g w s (s.set m o):=⟨by simp,λn h1 h2 o' e'=>by
 rw[zP (by rcases h with rfl | rfl <;> exact sH (by assumption))]
 exact e'⟩
theorem uK(p:Pf s s')(h:Gen s g B):Gen s' g B:=by
 obtain⟨a,b,c,e2,r⟩:=h;exact⟨a,b,c,p _ _ e2,r⟩
theorem zbh{o:O}(h:Gen s g B)(ne:m≠g):Gen (s.set m o) g B:=by
 obtain⟨a,b,c,e2,r⟩:=h;exact⟨a,b,c,by rw[zP ne];exact e2,r⟩
def pfx:List Str:=["fun","call","abcdefghijkl","f"]
theorem znO:∀ p∈pfx,Ltr p/\p.length<=12:=by
 intro p hp;simp only[pfx,tU,su,or_false]at hp
 rcases hp with rfl | rfl | rfl | rfl <;> exact⟨by unfold Ltr;decide +kernel,by decide +kernel⟩
theorem zmR(h:s[m]?=some (.lst (pfx.map .str))){i:Nat}(hi:i<4):∃ p∈pfx,atD s (.ref m) (.int (i:Int))=some (.str p):=by
 have hi':i<pfx.length:=hi;refine⟨pfx[i],qM hi',?_⟩;rw[yM h,atI_nat,sX,rE hi'];rfl
theorem zkB(h:Nmk φ ks)(hv:Ltr v/\1<=v.length/\v.length<=30):Nmk (upS φ y v) ks:=λz hz=>by
 unfold upS;split
 . exact hv
 . exact h z hz
theorem zlE{a b:Str}(h1:Ltr a)(h2:Ltr b):Ltr (a++b):=λc hc=>by
 rw[km]at hc;exact(tZ.mp hc).elim (h1 c) (h2 c)
theorem zmr(hg:Gen s g (B+80))(hw:s[w]?=some (.dK (Kvs φ ks)))(gw:g≠w)(hx:x∈ks)(ll:Ltr x/\1<=x.length/\x.length<=12)(kl:ks.length<1000)(hn:Nmk φ ks)
   (hQ:∀ s' φ',K2 g w s s'->Gen s' g B->s'[w]?=some (.dK (Kvs φ' ks))->Nmk φ' ks->P.nx [some (.ref g),v1,v2,some (.ref w),some (.str x),v5,v6,v7,v8,v9,v10] s') :
   wC (RnBb [some (.ref g),v1,v2,some (.ref w),some (.str x),v5,v6,v7,v8,v9,v10] s) P:=by
 unfold RnBb;simp;refine PW.xM (B:=B+40) hg (by omega) (by omega) λz o z1 z2 g2=>?_
 have w2:(s.set g o)[w]?=some (.dK (Kvs φ ks)):=by rw[zP gw];exact hw
 have k2:K2 g w s (s.set g o):=K2.set (.inl rfl);generalize s.set g o=s1 at *
 try simp[yN]
 by_cases hz:z=0
 . simp[hz,yN];have p3:Pf s1 (s1++[O.lst (pfx.map .str)]):=Pf.app;have g3:=zJ (s:=s1) (o:=O.lst (pfx.map .str));have lg:=zq w2
   have lg2:g<s1.length:=by
    obtain⟨a,b,c,e2,_⟩:=g2;exact zq e2
   show wE (PW.d_law_draw [.ref g,.int 4] (s1++[O.lst (pfx.map .str)])) _ _;have w3:=p3 _ _ w2;refine PW.xM (B:=B) (uK p3 g2) (by omega) (by omega) λz o z1 z2 g4=>?_;obtain⟨z,rfl⟩:=rQ z1
   have w4:((s1++[O.lst (pfx.map .str)]).set g o)[w]?=some (.dK (Kvs φ ks)):=by rw[zP gw];exact w3
   have h4:((s1++[O.lst (pfx.map .str)]).set g o)[s1.length]?=some (.lst (pfx.map .str)):=by rw[zP (by omega)];exact g3
   obtain⟨p,hp,ep⟩:=zmR h4 (i:=z) (by omega);obtain⟨a1,a2⟩:=znO p hp;have k4:K2 g w s ((s1++[O.lst (pfx.map .str)]).set g o):=k2.trans ((K2.pf p3).trans (K2.set (.inl rfl)));generalize (s1++[O.lst (pfx.map .str)]).set g o=s4 at *;simp[ep,show sz (p.length+x.length)=true from xY (by omega),zfo w4 hx kl];exact hQ _ (upS φ x (p++x)) (k4.trans (K2.set (.inr rfl))) (zbh g4 gw.symm) (yD (zq w4)) (zkB hn ⟨zlE a1 ll.1,by rw[len_app];omega,by rw[len_app];omega⟩)
 . rw[show(z == 0)=false from beq_false_of_ne hz,zbz];exact hQ _ φ k2 (g2.mono (by omega)) w2 hn
end
def nmO(φ:Str->Str):D->Option D
 | .str y=>some (.str (φ y))
 | _=>none
section
variable{s s':S}{X:Xc}{Q:D->S->Prop}{n w d m:Nat}{x y:Str}{φ:Str->Str}{ks:List Str}{v0 v1 v2 v4 v5 v6 v7 v8 v9 v10:Option D}{hs:List (Str×Nat)}
theorem zqJ(hx:okS x)(n:Nat):Te (.tup [.str x,.int (n:Nat)]):=⟨rfl,.tuple [.str x,.int n],λs k=>by
 rw[wF,zL yR (zL vU yF)]
 rfl,by simp only[PyData.canLay0,PyData.canLayAll0,yH.mpr hx,rJ],by simp[PyData.depth,PyData.depthAll]⟩
theorem zle(h:s[n]?=some (.lst (hs.map hD)))(ho:∀ x∈hs,okS x.1)(h2:s[m]?=some (.lst [])):eqD s (.ref n) (.ref m)=some (hs.map hD).isEmpty:=P85.zlf (λd hd=>by
 obtain⟨a,ha,rfl⟩:=tK.mp hd
 exact zqJ (ho a ha) a.2) h h2
theorem zkr{R:D->S->Prop}(hw:s[w]?=some (.dK (Kvs φ ks)))(kl:ks.length<1000)(hR:∀ s' m,Pf s s'->s'[m]?=some (.lst ((ks.map φ).map .str))->s.length<=m->Q (.ref m) s') :
   wE (eLc [4] (yd .seq (zg 3)) (gName 4) tYes (e2 oAt (zg 3) (zg 4)) [v0,v1,v2,some (.ref w),v4,v5,v6,v7,v8,v9,v10] s) Q X:=by
 simp[srcOf,hw,zcU,unl];refine jY hw (λ_=>by simp) ?_;refine zaB (nmO φ) (by unfold Kvs;simp;omega) (λd hd s3 p3=>?_) λs3 p3 h3=>?_
 . obtain⟨kv,hkv,rfl⟩:=tK.mp hd;obtain⟨y,hy,rfl⟩:=tK.mp hkv;refine⟨_,rfl,?_⟩;have hl:s3[w]?=some (.lck (.dK (Kvs φ ks))):=p3 _ _ (yD (zq hw));simp[Fc.wipe,dOf,zht (.inr hl) hy,Pf.refl,nmO]
 . have e1:((Kvs φ ks).map λkv=>dOf kv.1).filterMap (nmO φ)=(ks.map φ).map .str:=by
    unfold Kvs;rw[tW,qO,tW,← qP];rfl
   have es:(s.set w (.lck (.dK (Kvs φ ks)))).length=s.length:=by simp
   rw[e1,es]at h3;have q2:Pf s (s3.set w (.dK (Kvs φ ks))):=Pf.unlock hw p3;rw[es];refine hR _ _ q2 ?_ (tX _);rw[zP (by have:=zq hw;omega)];exact h3
end
section
variable{s s':S}{P:Pst}{g w B m F:Nat}{x y wd:Str}{φ:Str->Str}{v2 v4 v5 v7 v8 v9 v10:Option D}{hs:List (Str×Nat)}
theorem zpI(h:wd="fun"\/wd="call"):∃ i:Nat,i<2/\zmJ [.str "fun",.str "call"] (.str wd)=some i:=by
 rcases h with rfl | rfl
 . exact⟨0,by omega,by decide +kernel⟩
 . exact⟨1,by omega,by decide +kernel⟩
theorem zqW(h:wd="fun"\/wd="call"):Ltr wd/\1<=wd.length/\wd.length<=30/\okS wd:=by
 rcases h with rfl | rfl <;> exact⟨by unfold Ltr;decide +kernel,by decide +kernel,by decide +kernel,yf⟩
theorem zkv(h:Ltr x):okS x:=λc hc=>by have:=(h c hc).2;omega
theorem zms(hg:Gen s g (B+40))(hw:s[w]?=some (.dK (Kvs φ (hs.map (·.1)))))(gw:g≠w)(hF:s[F]?=some (.lst (hs.map hD)))(fg:F≠g)(ho:∀ x∈hs,okS x.1)(ne:hs≠[])(kl:hs.length<900)(hn:Nmk φ (hs.map (·.1)))(hwd:wd="fun"\/wd="call")
   (hQ:∀ s' φ' u4,K2 g w s s'->Gen s' g B->s'[w]?=some (.dK (Kvs φ' (hs.map (·.1))))->Nmk φ' (hs.map (·.1))->P.nx [some (.ref g),some (.ref F),v2,some (.ref w),u4,v5,some (.str wd),v7,v8,v9,v10] s') :
   wC (RnCb [some (.ref g),some (.ref F),v2,some (.ref w),v4,v5,some (.str wd),v7,v8,v9,v10] s) P:=by
 unfold RnCb;obtain⟨w1,w2,w3,w4⟩:=zqW hwd;generalize hE:zaf _ _ _=En;generalize hL:eLc _ _ _ _ _=Lc;simp;have p1:Pf s (s++[O.lst []]):=Pf.app;rw[zle (p1 _ _ hF) ho zJ];rw[show(hs.map hD).isEmpty=false by cases hs with | nil=>exact absurd rfl ne | cons a b=>rfl];simp;have lw:=zq hw;have lF:=zq hF;refine PW.xM (uK p1 hg) (by omega) (by omega) λz o z1 z2 g2=>?_;have k2:K2 g w s ((s++[O.lst []]).set g o):=(K2.pf p1).trans (K2.set (.inl rfl))
 have hw2:((s++[O.lst []]).set g o)[w]?=some (.dK (Kvs φ (hs.map (·.1)))):=by rw[zP gw];exact p1 _ _ hw
 have hF2:((s++[O.lst []]).set g o)[F]?=some (.lst (hs.map hD)):=by rw[zP fg.symm];exact p1 _ _ hF
 generalize (s++[O.lst []]).set g o=s1 at *
 try simp[yN]
 by_cases hz:z=0
 . simp[hz,yN];rw[← hL];refine zkr (R:=λ_ _=>True) hw2 (by simpa using by omega) λs3 m p3 h3 lm=>?_
   have hi:isIn s3 (.str wd) (.ref m)=some (decide (wd∈(hs.map (·.1)).map φ)):=P85.zlq h3 (λx hx=>by
     obtain⟨y,hy,rfl⟩:=tK.mp hx
     exact zkv (hn y hy).1) w4
   rw[hi];by_cases c:wd∈(hs.map (·.1)).map φ
   . rw[decide_eq_true c];simp;exact hQ _ φ _ (k2.trans (K2.pf p3)) (uK p3 g2) (p3 _ _ hw2) hn
   . rw[decide_eq_false c];simp;rw[← hE];simp;obtain⟨i,hi2,ei⟩:=zpI hwd;have p4:Pf s3 (s3++[O.lst [.str "fun",.str "call"]]):=Pf.app;have g4:=zJ (s:=s3) (o:=O.lst [.str "fun",.str "call"]);rw[P85.isl g4,yj];refine zmB g4 ei ?_;have hF4:=p4 _ _ (p3 _ _ hF2);have hw4:=p4 _ _ (p3 _ _ hw2);have hg4:=uK p4 (uK p3 g2);have k4:=(k2.trans (K2.pf p3)).trans (K2.pf (g:=g) (w:=w) p4);generalize s3++[O.lst [.str "fun",.str "call"]]=s4 at *
     have hl:zbk s4 (.ref F)=some hs.length:=by rw[P85.vY hF4,tR]
     have pos:0<hs.length:=pU.mpr ne;simp[hl]
     have ej:(i:Int)%(hs.length:Int)=((i%hs.length:Nat):Int):=by simp
     have lj:i%hs.length<hs.length:=Nat.mod_lt _ pos;rw[ej];generalize i%hs.length=j at *
     have ea:atD s4 (.ref F) (.int (j:Int))=some (hD hs[j]):=by
      rw[yM hF4,atI_nat,sX,rE lj];rfl
     have e0:atD s4 (hD hs[j]) (.int 0)=some (.str hs[j].1):=rfl;have hm:hs[j].1∈hs.map (·.1):=sJ (qM lj);simp[ea,e0,zfo hw4 hm (show(hs.map (·.1)).length<1000 by simp;omega)];rw[decide_eq_true pos,yj];exact hQ _ (upS φ hs[j].1 wd) _ (k4.trans (K2.set (.inr rfl))) (zbh hg4 gw.symm) (yD (zq hw4)) (zkB hn ⟨w1,w2,w3⟩)
 . rw[show(z == 0)=false from beq_false_of_ne hz];simp;exact hQ _ φ _ k2 g2 hw2 hn
end
end P81
namespace P81
open PySem Fc P1 P85 PB PC P83
open P20 (zX)
open PW (dg wj Arcs Gd Wd)
def c12(φ:Str->Str):Str->Str:=λx=>_root_.L2.cutS (φ x) none (some 12)
def ctO(φ:Str->Str):D->Option D
 | .str y=>some (prS (c12 φ) y)
 | _=>none
def rnR(φ:Str->Str)(q:Rw):Rw:={ q with src:=(φ q.src.1,q.src.2),tgt:=(φ q.tgt.1,q.tgt.2) }
def rnH(φ:Str->Str)(x:Str×Nat):Str×Nat:=(φ x.1,x.2)
section
variable{s s':S}{P:Pst}{w f e d F C:Nat}{x y wd:Str}{φ:Str->Str}{ks:List Str}{v0 v4 v5 v6 v7 v8 v9 v10:Option D}{hs:List (Str×Nat)}{l:List Rw}
theorem ziY{z:Str}:(_root_.L2.cutS z none (some 12)).cps.toList=z.cps.toList.take 12:=by
 unfold _root_.L2.cutS HT.sIx;simp[len_list]
theorem zmX(h:Nmk φ ks):∀ y∈ks,Ltr (c12 φ y)/\1<=(c12 φ y).length/\(c12 φ y).length<=12:=λy hy=>by
 obtain⟨h1,h2,h3⟩:=h y hy;have e:(c12 φ y).cps.toList=(φ y).cps.toList.take 12:=ziY;refine⟨λc hc=>h1 c ?_,?_,?_⟩
 . rw[e]at hc;exact qN hc
 . rw[len_list,e,List.length_take];rw[len_list]at h2;omega
 . rw[len_list,e,List.length_take];omega
theorem zhb:∀{xs es:List Str},(xs.foldl SL.zdN es).length=es.length+xs.length->es.Nodup->(es++xs).Nodup
 | [],es,_,h=>by rw[sE];exact h
 | x::xs,es,h,nd=>by
  have le:∀(xs es:List Str),(xs.foldl SL.zdN es).length<=es.length+xs.length:=by
    intro xs
    induction xs with
    | nil=>intro es;simp
    | cons x xs ih =>
     intro es;have h:=ih (SL.zdN es x);have l:=SL.zaC (es:=es) (x:=x);rw[rP,sS];split at l <;> omega
  rw[rP,sS]at h;have h1:=le xs (SL.zdN es x);have h2:=SL.zaC (es:=es) (x:=x);split at h2
  . omega
  . rename_i c
    have ea:SL.zdN es x=es++[x]:=by
     unfold SL.zdN;rw[if_neg c]
    rw[ea]at h
    have nd2:(es++[x]).Nodup:=by
     refine rK.mpr ⟨nd,by simp,λa ha b hb e2=>?_⟩;rw[tV]at hb;subst hb;subst e2;exact c (ph.mpr ⟨_,ha,by simp⟩)
    have:=zhb (xs:=xs) (es:=es++[x]) (by rw[h,sY,pA];omega) nd2
    rwa [rR]at this
theorem zna{xs:List Str}(h:(SL.zeW xs).length=xs.length):xs.Nodup:=by
 have:=zhb (xs:=xs) (es:=[]) (by rw[qm,Nat.zero_add];exact h) qH;simpa using this
structure Pg(s:S)(F C:Nat)(hs:List (Str×Nat))(l:List Rw):Prop where
 hF:s[F]?=some (.lst (hs.map hD))
 hC:s[C]?=some (.lst (l.map rwD))
 ha:Arcs s l
 gd:Gd hs l
 ne:hs≠[]
 hl:hs.length<=5
 ll:l.length<=10
theorem zpG{ψ:Str->Str}(gd:Gd hs l)(hψ:∀ y∈hs.map (·.1),Ltr (ψ y)/\1<=(ψ y).length/\(ψ y).length<=12)(nd:((hs.map (·.1)).map ψ).Nodup):Gd (hs.map (rnH ψ)) (l.map (rnR ψ)) where
 wd:={
  hn:=λx hx=>by
   obtain⟨y,hy,rfl⟩:=tK.mp hx;obtain⟨a,b,c⟩:=hψ y.1 (sJ hy);exact⟨a,c,(gd.wd.hn y hy).2.2⟩
  hl:=by rw[tR];exact gd.wd.hl
  ln:=λr hr=>by
   obtain⟨q,hq,rfl⟩:=tK.mp hr;obtain⟨a,b,c,d,e,f⟩:=gd.wd.ln q hq;exact⟨a,b,tK.mpr ⟨q.src,c,rfl⟩,tK.mpr ⟨q.tgt,d,rfl⟩,e,f⟩
  ll:=by rw[tR];exact gd.wd.ll }
 n1:=λx hx=>by
  obtain⟨y,hy,rfl⟩:=tK.mp hx;exact(hψ y.1 (sJ hy)).2.1
 m1:=λr hr=>by
  obtain⟨q,hq,rfl⟩:=tK.mp hr;exact gd.m1 q hq
 nd:=by
  rw[tW]at nd ⊢;exact nd
 nl:=by
  rw[tW];exact gd.nl
theorem zou{ψ:Str->Str}(pg:Pg s F C hs l)(hw:s[w]?=some (.dK (Kvs ψ (hs.map (·.1)))))(hψ:∀ y∈hs.map (·.1),Ltr (ψ y)/\1<=(ψ y).length/\(ψ y).length<=12)(nd:((hs.map (·.1)).map ψ).Nodup)
   (hQ:∀ s' F' C' hs' l',Pf s s'->Pg s' F' C' hs' l'->s.length<=F'->s.length<=C'->P.rt (.tup [.ref F',.ref C']) s') :
   wC (RnF [v0,some (.ref F),some (.ref C),some (.ref w),v4,v5,v6,v7,v8,v9,v10] s) P:=by
 unfold RnF;generalize hE:zY _=En;have c1:=pg.hl;have b1:=pg.ll;have gd:=pg.gd;simp;rw[zX pg.hC,zB];dsimp only;refine P41.zif (mk:=rwD) (as:=l) (λ_=>true) (λq=>rwD (rnR ψ q)) pg.hC (by omega) (λq hq s4 f4=>⟨_,rfl,?_,λ_=>?_⟩) ?_
 . simp[Fc.wipe]
 . obtain⟨w1,w2,w3,w4,_⟩:=gd.wd.ln q hq;simp[Fc.wipe,zht (.inl (f4 _ _ hw)) (sJ (f:=(·.1)) w3),zht (.inl (f4 _ _ hw)) (sJ (f:=(·.1)) w4)];rfl
 . rw[show(l.filter λ_=>true)=l from pW.mpr λ_ _=>rfl];have p3:Pf s (s++[O.lst (l.map λq=>rwD (rnR ψ q))]):=Pf.app;have g3:=zJ (s:=s) (o:=O.lst (l.map λq=>rwD (rnR ψ q)));have lC:s.length<=s.length:=tX _
   have lC2:(s++[O.lst (l.map λq=>rwD (rnR ψ q))]).length=s.length+1:=by simp
   generalize hC1:s.length=C1 at lC lC2 g3 ⊢;generalize s++[O.lst (l.map λq=>rwD (rnR ψ q))]=s3 at *
   try simp
   rw[← hE];simp;rw[zX (p3 _ _ pg.hF),zB];dsimp only;refine P41.zif (mk:=hD) (as:=hs) (λ_=>true) (λx=>hD (rnH ψ x)) (p3 _ _ pg.hF) (by omega) (λx hx s4 f4=>⟨_,rfl,?_,λ_=>?_⟩) ?_
   . simp[Fc.wipe]
   . simp[Fc.wipe,zht (.inl (f4 _ _ (p3 _ _ hw))) (sJ (f:=(·.1)) hx)];rfl
   . rw[show(hs.filter λ_=>true)=hs from pW.mpr λ_ _=>rfl];have p4:Pf s3 (s3++[O.lst (hs.map λx=>hD (rnH ψ x))]):=Pf.app;have g4:=zJ (s:=s3) (o:=O.lst (hs.map λx=>hD (rnH ψ x)));have g34:=p4 _ _ g3;generalize hF1:s3.length=F1 at *;generalize s3++[O.lst (hs.map λx=>hD (rnH ψ x))]=s4 at *
     try simp
     refine hQ s4 _ _ (hs.map (rnH ψ)) (l.map (rnR ψ)) (p3.trans p4) ⟨by rw[tW];exact g4,by rw[tW];exact g34,λr hr=>?_,zpG gd hψ nd,λz=>pg.ne (by simpa using z),by rw[tR];exact c1,by rw[tR];exact b1⟩ (by omega) (by omega);obtain⟨q,hq,rfl⟩:=tK.mp hr;exact p4 _ _ (p3 _ _ (pg.ha q hq))
end
section
variable{s s' s2:S}{X:Xc}{Q:D->S->Prop}{P:Pst}{n g w B f e d m F C:Nat}{x y wd:Str}{φ:Str->Str}{ks:List Str}{v0 v4 v5 v6 v7 v8 v9 v10:Option D}{hs:List (Str×Nat)}{l:List Rw}
theorem Pg.pf(pg:Pg s F C hs l)(p:Pf s s'):Pg s' F C hs l:={ pg with hF:=p _ _ pg.hF,hC:=p _ _ pg.hC,ha:=pg.ha.pf p }
theorem zhf{ds:List D}(h:Gen s g B)(hn:s[n]?=some (.lst ds))(hd:ds=[]\/∃(x:List D) (r:List D),ds=.tup x::r):n≠g:=λe=>by
 obtain⟨a,b,c,e2,_⟩:=h;rw[e,e2]at hn
 injection hn with hn
 injection hn with hn
 rcases hd with rfl | ⟨x,r,rfl⟩ <;> cases hn
theorem Pg.ne1(pg:Pg s F C hs l)(h:Gen s g B):F≠g/\C≠g/\∀ r∈l,r.a≠g:=by
 refine⟨zhf h pg.hF ?_,zhf h pg.hC ?_,λr hr=>zhf h (pg.ha r hr) ?_⟩
 . cases hs with
   | nil=>exact .inl rfl
   | cons x hs=>exact .inr ⟨_,_,rfl⟩
 . cases l with
   | nil=>exact .inl rfl
   | cons x hs=>exact .inr ⟨_,_,rfl⟩
 . cases r.A with
   | nil=>exact .inl rfl
   | cons x hs=>exact .inr ⟨_,_,rfl⟩
theorem Pg.fr(pg:Pg s F C hs l)(h:Gen s g B)(f:Fr g s s'):Pg s' F C hs l:=by
 obtain⟨a,b,c⟩:=pg.ne1 h;exact{ pg with hF:=f.2 _ a _ pg.hF,hC:=f.2 _ b _ pg.hC,ha:=λr hr=>f.2 _ (c r hr) _ (pg.ha r hr) }
theorem zja{kvs:List (_root_.L2.Key×D)}{ds:List D}(hw:s[w]?=some (.dK kvs))(hn:s[n]?=some (.lst ds)):n≠w:=λe=>by
 rw[e,hw]at hn;cases hn
theorem Pg.k2{kvs:List (_root_.L2.Key×D)}(pg:Pg s F C hs l)(h:Gen s g B)(hw:s[w]?=some (.dK kvs))(k:K2 g w s s'):Pg s' F C hs l:=by
 obtain⟨a,b,c⟩:=pg.ne1 h;exact{ pg with hF:=k.2 _ a (zja hw pg.hF) _ pg.hF,hC:=k.2 _ b (zja hw pg.hC) _ pg.hC,ha:=λr hr=>k.2 _ (c r hr) (zja hw (pg.ha r hr)) _ (pg.ha r hr) }
theorem zot{ψ:Str->Str}(pg:Pg s F C hs l)(hw:s[w]?=some (.dK (Kvs ψ (hs.map (·.1)))))(hψ:∀ y∈hs.map (·.1),Ltr (ψ y)/\1<=(ψ y).length/\(ψ y).length<=12)
   (hQ:∀ s' F' C' hs' l',Pf s s'->Pg s' F' C' hs' l'->P.rt (.tup [.ref F',.ref C']) s') :
   wC (RnE [v0,some (.ref F),some (.ref C),some (.ref w),v4,v5,v6,v7,v8,v9,v10] s) P:=by
 unfold RnE;generalize hE:RnF=En;generalize hL:eLc _ _ _ _ _=Lc;have c1:=pg.hl;simp;rw[← hL];refine zkr (R:=λ_ _=>True) hw (by rw[tR];omega) λs3 m p3 h3 lm=>?_;refine ziI h3 (by rw[tR,tR];omega) ?_;have hw3:=p3 _ _ hw
 have el:zbk s3 (.ref w)=some hs.length:=by
   simp only[zbk,hw3,unl,Kvs,tR]
 simp[el];by_cases c:(SL.zeW ((hs.map (·.1)).map ψ)).length<hs.length
 . rw[tW]at c;rw[decide_eq_true (by simpa using c)];simp;exact hQ s3 F C hs l p3 (pg.pf p3)
 . have nd:((hs.map (·.1)).map ψ).Nodup:=zna (by
    have:=SL.zdX ((hs.map (·.1)).map ψ);rw[tR,tR]at this ⊢
    omega)
   rw[tW]at c;rw[decide_eq_false (by simpa using c)];simp;rw[← hE];refine zou (pg.pf p3) hw3 hψ nd λs' F' C' hs' l' p pg' a b=>?_;exact hQ s' F' C' hs' l' (p3.trans p) pg'
theorem zmW(φ:Str->Str)(ks:List Str):((Kvs φ ks).map λkv=>dOf kv.1).filterMap (ctO φ)=ks.map (prS (c12 φ)):=by
 unfold Kvs;rw[tW,qO,← qP];rfl
theorem zos(pg:Pg s F C hs l)(hw:s[w]?=some (.dK (Kvs φ (hs.map (·.1)))))(hn:Nmk φ (hs.map (·.1)))
   (hQ:∀ s' F' C' hs' l',Pf s s'->Pg s' F' C' hs' l'->P.rt (.tup [.ref F',.ref C']) s') :
   wC (RnD [v0,some (.ref F),some (.ref C),some (.ref w),v4,v5,v6,v7,v8,v9,v10] s) P:=by
 unfold RnD;generalize hE:RnE=En;have c1:=pg.hl;simp[srcOf,hw,zcU,unl];refine jY hw (λ_=>by simp) ?_;refine zaB (ctO φ) (by unfold Kvs;simp;omega) (λd hd s3 p3=>?_) λs3 p3 h3=>?_
 . obtain⟨kv,hkv,rfl⟩:=tK.mp hd;obtain⟨y,hy,rfl⟩:=tK.mp hkv;refine⟨_,rfl,?_⟩;have hl:s3[w]?=some (.lck (.dK (Kvs φ (hs.map (·.1))))):=p3 _ _ (yD (zq hw));simp[Fc.wipe,dOf,zht (.inr hl) hy,Pf.refl];rw[xY (by have:=(hn y hy).2.2;omega),yj];rfl
 . have e1:=zmW φ (hs.map (·.1))
   have es:(s.set w (.lck (.dK (Kvs φ (hs.map (·.1)))))).length=s.length:=by simp
   rw[e1,es]at h3;have q2:Pf s (s3.set w (.dK (Kvs φ (hs.map (·.1))))):=Pf.unlock hw p3;rw[es]
   have g4:(s3.set w (.dK (Kvs φ (hs.map (·.1)))))[s.length]?=some (.lst ((hs.map (·.1)).map (prS (c12 φ)))):=by
    rw[zP (by have:=zq hw;omega)];exact h3
   generalize s3.set w (.dK (Kvs φ (hs.map (·.1))))=s4 at *
   try simp
   rw[yr g4,zB,zeq,zB,zkf pg.gd.nd];have p5:Pf s4 (s4++[O.dK (Kvs (c12 φ) (hs.map (·.1)))]):=Pf.app;have g5:=zJ (s:=s4) (o:=O.dK (Kvs (c12 φ) (hs.map (·.1))));generalize s4.length=w' at *;generalize s4++[O.dK (Kvs (c12 φ) (hs.map (·.1)))]=s5 at *
   try simp
   rw[← hE];exact zot (pg.pf (q2.trans p5)) g5 (zmX hn) λs' F' C' hs' l' p pg'=>hQ s' F' C' hs' l' ((q2.trans p5).trans p) pg'
theorem zlw(pg:Pg s F C hs l):∀ x∈hs,Ltr x.1/\1<=x.1.length/\x.1.length<=12:=λx hx=>⟨(pg.gd.wd.hn x hx).1,pg.gd.n1 x hx,(pg.gd.wd.hn x hx).2.1⟩
theorem zpL(p:Pf s s')(k:K2 g w s' s2)(hw:s.length<=w):Fr g s s2:=⟨sW p.len k.1,λn hn o e=>by
 have:=zq e
 exact k.2 n hn (by omega) o (p _ _ e)⟩
def IwC(s:S)(g w F C B:Nat)(hs:List (Str×Nat))(r:List D)(σ:Fc.Env)(s':S):Prop:=∃(post:List Str) (φ:Str->Str) (v4 v5 v6 v7 v8 v9 v10:Option D),r=post.map .str/\(∀ x∈post,x="fun"\/x="call")/\σ=[some (.ref g),some (.ref F),some (.ref C),some (.ref w),v4,v5,v6,v7,v8,v9,v10]/\K2 g w s s'/\Gen s' g (B+40*post.length)/\s'[w]?=some (.dK (Kvs φ (hs.map (·.1))))/\Nmk φ (hs.map (·.1))
theorem zor(pg:Pg s F C hs l)(hg:Gen s g (B+80))(gw:g≠w)(hw:s[w]?=some (.dK (Kvs φ (hs.map (·.1)))))(hn:Nmk φ (hs.map (·.1)))
   (hQ:∀ s' F' C' hs' l',K2 g w s s'->Gen s' g B->Pg s' F' C' hs' l'->P.rt (.tup [.ref F',.ref C']) s') :
   wC (RnC [some (.ref g),some (.ref F),some (.ref C),some (.ref w),v4,v5,v6,v7,v8,v9,v10] s) P:=by
 unfold RnC;generalize hE:RnD=En;generalize hB:RnCb=Bd;have c1:=pg.hl;have lw:=zq hw;simp;have p1:Pf s (s++[O.lst [.str "fun",.str "call"]]):=Pf.app;have g1:(s++[O.lst [.str "fun",.str "call"]])[s.length]?=some (.lst ((["fun","call"]:List Str).map .str)):=zJ
 have lg:g<s.length:=by
   obtain⟨a,b,c,e2,_⟩:=hg;exact zq e2
 have hg1:=uK p1 hg;have hw1:=p1 _ _ hw;have pg1:=pg.pf p1
 have lm:s.length≠g/\s.length≠w:=by omega
 generalize s.length=m at g1 lm ⊢;generalize s++[O.lst [D.str "fun",D.str "call"]]=s1 at *;rw[zX g1,zB];dsimp only;refine xF (n:=m) (ds:=(["fun","call"]:List Str).map .str) (IwC s1 g w F C B hs) (λr σ s' ⟨_,_,_,_,_,_,_,_,_,_,_,_,k,_⟩=>k.2 _ lm.1 lm.2 _ g1) ?_ ?_ _ 0 (by simp) ⟨["fun","call"],φ,_,_,_,_,_,_,_,rfl,λx hx=>by simpa using hx,rfl,K2.pf Pf.refl,hg1,hw1,hn⟩
 . rintro d r σ s2 ⟨post,φ2,u4,u5,u6,u7,u8,u9,u10,er,hp,rfl,k2,g2,w2,n2⟩
   cases post with
   | nil=>cases er
   | cons wd post =>
    rw[tM,List.cons.injEq]at er;obtain⟨rfl,rfl⟩:=er;refine⟨_,rfl,?_⟩;rw[← hB];have pg2:=pg1.k2 hg1 hw1 k2;refine zms (B:=B+40*post.length) (by rw[sS]at g2;exact g2.mono (by omega)) w2 gw pg2.hF (pg2.ne1 g2).1 (λx hx=>zkv (zlw pg x hx).1) pg.ne (by omega) n2 (hp wd (tH)) λs3 φ3 z k3 g3 w3 n3=>?_;exact⟨post,φ3,_,_,_,_,_,_,_,rfl,λx hx=>hp x (tQ _ hx),rfl,k2.trans k3,g3,w3,n3⟩
 . rintro σ s2 ⟨post,φ2,u4,u5,u6,u7,u8,u9,u10,er,hp,rfl,k2,g2,w2,n2⟩
   cases post with
   | cons a post=>cases er
   | nil =>
    try simp
    rw[← hE];refine zos (pg1.k2 hg1 hw1 k2) w2 n2 λs' F' C' hs' l' p pg'=>?_;exact hQ s' F' C' hs' l' (((K2.pf p1).trans k2).trans (K2.pf p)) (uK p g2) pg'
def IwB(s:S)(g w F C B:Nat)(hs:List (Str×Nat))(r:List D)(σ:Fc.Env)(s':S):Prop:=∃(pre post:List (Str×Nat)) (φ:Str->Str) (v4 v5 v6 v7 v8 v9 v10:Option D),hs=pre++post/\r=post.map hD/\σ=[some (.ref g),some (.ref F),some (.ref C),some (.ref w),v4,v5,v6,v7,v8,v9,v10]/\K2 g w s s'/\Gen s' g (B+80*post.length)/\s'[w]?=some (.dK (Kvs φ (hs.map (·.1))))/\Nmk φ (hs.map (·.1))
theorem zoq(pg:Pg s F C hs l)(hg:Gen s g (B+80*hs.length+80))(gw:g≠w)(hw:s[w]?=some (.dK (Kvs φ (hs.map (·.1)))))(hn:Nmk φ (hs.map (·.1)))
   (hQ:∀ s' F' C' hs' l',K2 g w s s'->Gen s' g B->Pg s' F' C' hs' l'->P.rt (.tup [.ref F',.ref C']) s') :
   wC (RnB [some (.ref g),some (.ref F),some (.ref C),some (.ref w),v4,v5,v6,v7,v8,v9,v10] s) P:=by
 unfold RnB;generalize hE:RnC=En;generalize hB:RnBb=Bd;have c1:=pg.hl;simp;rw[zX pg.hF,zB];dsimp only;have hne:=pg.ne1 hg;refine xF (n:=F) (ds:=hs.map hD) (IwB s g w F C (B+80) hs) (λr σ s' ⟨_,_,_,_,_,_,_,_,_,_,_,_,_,k,_⟩=>k.2 _ hne.1 (zja hw pg.hF) _ pg.hF) ?_ ?_ _ 0 (by simp) ⟨[],hs,φ,_,_,_,_,_,_,_,rfl,rfl,rfl,K2.pf Pf.refl,hg.mono (by omega),hw,hn⟩
 . rintro d r σ s2 ⟨pre,post,φ2,u4,u5,u6,u7,u8,u9,u10,eh,er,rfl,k2,g2,w2,n2⟩
   cases post with
   | nil=>cases er
   | cons x post =>
    rw[tM,List.cons.injEq]at er;obtain⟨rfl,rfl⟩:=er
    have mx:x∈hs:=by rw[eh];simp
    refine⟨[some (.ref g),some (.ref F),some (.ref C),some (.ref w),some (.str x.1),some (.int x.2),u6,u7,u8,u9,u10],rfl,?_⟩;rw[← hB];refine zmr (B:=(B+80)+80*post.length) (by rw[sS]at g2;exact g2.mono (by omega)) w2 gw (sJ mx) (zlw pg x mx) (by rw[tR];omega) n2 λs3 φ3 k3 g3 w3 n3=>?_;exact⟨pre++[x],post,φ3,_,_,_,_,_,_,_,by rw[eh];simp,rfl,rfl,k2.trans k3,g3,w3,n3⟩
 . rintro σ s2 ⟨pre,post,φ2,u4,u5,u6,u7,u8,u9,u10,eh,er,rfl,k2,g2,w2,n2⟩
   cases post with
   | cons a post=>cases er
   | nil =>
    try simp
    rw[← hE];exact zor (pg.k2 hg hw k2) (g2.mono (by simp)) gw w2 n2 λs' F' C' hs' l' k g3 pg'=>hQ s' F' C' hs' l' (k2.trans k) g3 pg'
theorem zgu(pg:Pg s F C hs l)(hg:Gen s g (B+480))
   (hQ:∀ s' F' C' hs' l',Fr g s s'->Gen s' g B->Pg s' F' C' hs' l'->Q (.tup [.ref F',.ref C']) s'):wE (d_law_renamed [.ref g,.ref F,.ref C] s) Q X:=by
 unfold d_law_renamed;refine(yW (by rfl)).mpr ?_;rw[zqx];generalize hE:RnB=En;have c1:=pg.hl
 have lg:g<s.length:=by
   obtain⟨a,b,c,e2,_⟩:=hg;exact zq e2
 simp;rw[zX pg.hF,zB];dsimp only;refine P41.zif (mk:=hD) (as:=hs) (λ_=>true) (λx=>prS id x.1) pg.hF (by omega) (λx hx s4 f4=>⟨_,rfl,?_,λ_=>?_⟩) ?_
 . simp[Fc.wipe]
 . simp[Fc.wipe];rfl
 . rw[show(hs.filter λ_=>true)=hs from pW.mpr λ_ _=>rfl];have p3:Pf s (s++[O.lst (hs.map λx=>prS id x.1)]):=Pf.app;have g3:=zJ (s:=s) (o:=O.lst (hs.map λx=>prS id x.1))
   have l3:(s++[O.lst (hs.map λx=>prS id x.1)]).length=s.length+1:=by simp
   generalize s++[O.lst (hs.map λx=>prS id x.1)]=s3 at *
   try simp
   rw[yr g3,zB,show(hs.map λx=>prS id x.1)=(hs.map (·.1)).map (prS id) by rw[tW];rfl,zeq,zB,zkf pg.gd.nd];have p5:Pf s3 (s3++[O.dK (Kvs id (hs.map (·.1)))]):=Pf.app;have g5:=zJ (s:=s3) (o:=O.dK (Kvs id (hs.map (·.1))))
   have lw:s.length<=s3.length/\g≠s3.length:=by omega
   generalize s3.length=w at g5 lw ⊢;generalize s3++[O.dK (Kvs id (hs.map (·.1)))]=s5 at *
   try simp
   rw[← hE];have p35:=p3.trans p5
   exact zoq (B:=B) (pg.pf p35) (uK p35 (hg.mono (by omega))) lw.2 g5 (λy hy=>by
    obtain⟨x,hx,rfl⟩:=tK.mp hy;obtain⟨a,b,c⟩:=zlw pg x hx
    exact⟨a,b,by show x.1.length<=30;omega⟩) λs' F' C' hs' l' k g6 pg'=>hQ s' F' C' hs' l' (zpL p35 k lw.1) g6 pg'
end
end P81
namespace P81
open PySem Fc P1 P85 PB PC P83
open P20 (zX)
open P61 (Lot lD Lo)
open PW (wr vW xO ct Arcs wj Gd Wd uF)
noncomputable section
def RdC:C:=(zdQ ["CallsError","InvalidList","InvalidFunction","InvalidCall","InvalidProgram","InvalidText"] 5
 (zY (vD "Program" P85.d_Program_init [] (za (eLc [4] (yd .seq (zg 2)) (gName 4) (tB (e2 oEq (eN wW (za (zg 4) zj)) (eC (.int 2)))) (zg 4)) (za (eLc [4] (yd .seq (zg 2)) (gName 4) (tB (e2 oEq (eN wW (za (zg 4) zj)) (eC (.int 4)))) (zg 4)) zj))))
 zcZ)
def RdB:C:=(zG (cIf (tB (e2 oIn (eC .non) (zg 2)))
 (wy "InvalidText" "value" (zg 0))
 yL) RdC)
def RdA:C:=(zG (zR (eLc [3] (yd .seq (zE P83.d_parts_of [] (za (zg 1) (za (eC (.str ";")) zj)))) (gName 3) tYes (zE P83.d_statement_in [] (za (zg 3) zj))) (gName 2)) RdB)
theorem znW:b_read_program=(zG (zR (eIf (tE (e1 (oIs .str) (zg 0))) (zE P83.d_tokens_of [] (za (zg 0) zj)) (eC .non)) (gName 1))
 (zG (cIf (tB (e1 zhR (zg 1)))
 (wy "InvalidText" "value" (zg 0))
 yL) RdA)):=rfl
end
section
variable{s s':S}{X:Xc}{Q:D->S->Prop}{P:Pst}{n f:Nat}{t x y m:Str}{zs zs':List Sm}{hs h1 h2:List (Str×Nat)}{l l1 l2:List Rw}{F:List Str}{k:Kd}{v0 v1 v2 v3 v4 v5:Option D}
theorem zop(h:s[n]?=some (.lst (zs.map smD)))(ln:zs.length<=100000)(ha:∀ r,Sum.inr r∈zs->s[r.a]?=some (.lst (r.A.map aD)))(gd:Gd (ltS zs) (rtS zs))
   (hQ:∀ s' p m k,Pf s s'->s.length<=p->PA s' p m k (ltS zs) (rtS zs)->P.rt (.ref p) s') :
   wC (RdC [v0,v1,some (.ref n),v3,v4,v5] s) P:=by
 unfold RdC;simp;rw[zX h,zB];dsimp only;rw[tR];have l2:∀(s:S) (x:Str×Nat),zbk s (smD (.inl x))=some 2:=λs x=>rfl;have l4:∀(s:S) (r:Rw),zbk s (smD (.inr r))=some 4:=λs x=>rfl;refine zcm (fx:=smD) (λz:Sm=>z.getLeft?.map hD) h (by omega) (λz hz s2 p2=>⟨_,rfl,?_⟩) λs2 p2 g2=>?_
 . cases z with
   | inl x =>
     simp[l2,wipe,yN];exact⟨λn w o=>o,rfl⟩
   | inr r =>
     simp[l4,wipe,yN];exact λn w o=>o
 . have e1:(zs.filterMap λz:Sm=>z.getLeft?.map hD)=(ltS zs).map hD:=(pD ..).symm;rw[e1]at g2
   try simp
   rw[zX (p2 _ _ h),zB];dsimp only;rw[tR];refine zcm (fx:=smD) (λz:Sm=>z.getRight?.map rwD) (p2 _ _ h) (by omega) (λz hz s3 p3=>⟨_,rfl,?_⟩) λs3 p3 g3=>?_
   . cases z with
     | inl x =>
       simp[l2,wipe,yN];exact λn w o=>o
     | inr r =>
       simp[l4,wipe,yN];exact⟨λn w o=>o,rfl⟩
   . have e2:(zs.filterMap λz:Sm=>z.getRight?.map rwD)=(rtS zs).map rwD:=(pD ..).symm;rw[e2]at g3
     try simp
     have p23:=p2.trans p3;refine PW.zjO (p3 _ _ g2) g3 (λr hr=>?_) gd λs4 m k p4 pa=>?_
     . refine p23 _ _ (ha r ?_);obtain⟨z,hz,e⟩:=qw.mp hr
       cases z with
       | inl x=>cases e
       | inr q=>cases e;exact hz
     . exact hQ s4 _ m k (p23.trans p4) p23.len pa
theorem zoo(hn:s[n]?=some (.lst ((jn ";" (zs.map xG)).map .str)))(ok:∀ t∈jn ";" (zs.map xG),okS t)(lt:(jn ";" (zs.map xG)).length<900000)(lz:zs.length<=100000)
   (hz:∀ z∈zs,SmOk z) (hb:∀ z∈zs,SmB z) (gd:Gd (ltS zs) (rtS zs))
   (hQ:∀ s' p m k,Pf s s'->s.length<=p->PA s' p m k (ltS zs) (rtS zs)->P.rt (.ref p) s') :
   wC (RdA [v0,some (.ref n),v2,v3,v4,v5] s) P:=by
 unfold RdA;generalize hE:RdB=En;simp;refine P83.jf (m:=";") hn ok yf lt λs1 r as p1 hr g1 lo nd new e=>?_;rw[zfF hz]at e;obtain⟨xs,e1,e2,e3⟩:=zipped e;subst e1
 have lx:xs.length<=100000:=by rw[e2,tR]at lz;exact lz
 rw[zX g1,zB];dsimp only;rw[tR,tR];rw[tW]at g1;refine P37.zfW (xs:=xs) (fx:=lD ∘ Prod.fst) (λp y s'=>SmV s1.length p.2 y s') g1 (by omega) (λp y s2 s3 ⟨z,h1,h2,h3⟩ hk=>⟨z,h1,h2,λr er=>⟨(h3 r er).1,hk _ (by have:=(h3 r er).1;omega) _ (h3 r er).2⟩⟩) (λp hp s2 p2 ⟨acc,hD⟩=>⟨_,rfl,?_⟩) λs2 acc p2 g2 al=>?_
 . have ld:=zq hD
   have gp:s2[p.1.1]?=some (.lst ((xG p.2).map .str)):=by
    rw[← e3 p hp];exact p2 _ _ (lo _ (sJ hp))
   have hm:p.2∈zs:=by rw[e2];exact sJ hp
   simp[wipe,lD];generalize p.2=z at gp hm ⊢;have mj:=zhC ";" (sJ (f:=xG) hm);have oz:=hz z hm;have bz:=hb z hm
   cases z with
   | inl x=>exact zdD gp oz bz λs3 p3=>⟨p3,.inl x,rfl,rfl,λr er=>nomatch er⟩
   | inr r =>
    have sub:∀ t∈jn "," (r.A.map yw),t∈xG (.inr r):=λt ht=>rH _ (qd _ ht)
    refine zgv gp oz bz.1 bz.2.1 bz.2.2.1 bz.2.2.2 (λt ht=>ok t (mj.1 t (sub t ht))) ?_ λs3 f p3 lf g3=>⟨p3,.inr { r with a:=f },rfl,rfl,λq er=>by cases er;exact⟨by show s1.length<f;omega,g3⟩⟩
    have h1:=mj.2
    have h2:(jn "," (r.A.map yw)).length<=(xG (.inr r)).length:=by simp[xG];omega
    omega
 . obtain⟨zs',f1,f2,f3⟩:=zeA al;rw[← e2]at f2;subst f1;obtain⟨c1,c2⟩:=zlD f2
   have ln:zs'.length=zs.length:=by simpa using congrArg List.length f2
   try simp
   rw[← hE];unfold RdB;generalize hE:RdC=En;simp
   have hz':∀ z∈zs',SmOk z:=λz h=>by
    have:smct z∈zs.map smct:=by rw[← f2];exact sJ h
    obtain⟨z0,m0,e0⟩:=tK.mp this;have o0:=hz z0 m0;cases z0 <;> cases z
    . cases e0;exact o0
    . cases e0
    . cases e0
    . rename_i q r;have e4:=PW.zbR (Sum.inr.inj e0);have key:SmOk (.inr q):=o0;show(Ltr r.nm/\1<=r.nm.length)/\(Ltr r.src.1/\1<=r.src.1.length)/\(Ltr r.tgt.1/\1<=r.tgt.1.length)/\∀ a∈r.A,a.1<4/\a.2.1<4;rw[← e4.1,← e4.2.1,← e4.2.2.1,← e4.2.2.2];exact key
   rw[zhP g2 hz' λr hr=>(f3 r hr).2,zB];simp;rw[← hE];have p12:=p1.trans p2;refine zop g2 (by omega) (λr hr=>(f3 r hr).2) (by rw[c1];exact gd.ct c2) λs3 p m k p3 lp pa=>?_;rw[c1]at pa;exact hQ s3 p m k (p12.trans p3) (sW p12.len lp) (PW.PA.cts pa c2.symm)
theorem zcP{k:Kd}(ht:tokF t.cps.toList [] .blank=some (jn ";" (zs.map xG),k))(lt:t.length<900000)(oc:okS t)(lz:zs.length<=100000)
   (hz:∀ z∈zs,SmOk z) (hb:∀ z∈zs,SmB z) (gd:Gd (ltS zs) (rtS zs))
   (hQ:∀ s' p m k,Pf s s'->s.length<=p->PA s' p m k (ltS zs) (rtS zs)->Q (.ref p) s'):wE (d_read_program [.str t] s) Q X:=by
 unfold d_read_program;refine(yW (by rfl)).mpr ?_;rw[znW];generalize hE:RdA=En;simp;refine zdE lt (λc hc=>?_) (λh=>by rw[ht]at h;cases h) λF k' h1 ti s1 p1 g1=>?_
 . intro d hd
   have:d=c:=by
    have e:(one c).cps.toList=[c]:=rfl;rw[e]at hd;exact tV.mp hd
   rw[this];exact oc c hc
 . rw[ht,Option.some.injEq,Prod.mk.injEq]at h1;rw[← h1.1]at g1 ti;have l1:=ti.len
   try simp
   rw[← hE];exact zoo g1 (λt ht=>(ti.tk t ht).2) (by omega) lz hz hb gd λs2 p m k p2 lp pa=>hQ s2 p m k (p1.trans p2) (sW p1.len lp) pa
theorem zck(gd:Gd hs l)(hQ:∀ s' p m k,Pf s s'->s.length<=p->PA s' p m k hs l->Q (.ref p) s'):wE (d_read_program [.str (wr hs l)] s) Q X:=by
 obtain⟨k,e⟩:=zkP (zs:=zac hs l) (λz hz=>(zfG gd z hz).1) [] .blank ⟨by simp,by simp⟩;rw[← zkU,qu]at e;have h:=zqX gd;have hl:=zmk gd;refine zcP e (by omega) gd.wd.ok (by omega) (λz hz=>(zfG gd z hz).1) (λz hz=>(zfG gd z hz).2) (by rw[zal.1,zal.2];exact gd) λs' p m k f lp pa=>hQ s' p m k f lp ?_;rw[zal.1,zal.2]at pa;exact pa
end
end P81
namespace P81
open PySem Fc P1 P85 PB PC P83
open P20 (zX)
open PW (dg wj Arcs Gd Wd wr)
noncomputable section
def TmB:C:=(cIf (tOr (tB (e2 (zgi "Program" PL.d_Program_eq) (zE d_read_program [] (za (zE PW.d_text_of [] (za (zg 8) zj)) zj)) (zg 8))) (tB (e2 (zgi "Program" PL.d_Program_eq) (zg 8) (vD "Program" P85.d_Program_init [] (za (zg 3) (za (zg 4) zj))))))
 (zY (eC (.bl false)))
 yL)
def TmA:C:=(zG (cIf (tOr (tNot (tE (e1 (zhQ ["Program"]) (zg 8)))) (tOr (tB (e2 oNe (uC "Program" "functions" PW.d_Program_functions [] (zg 8) zj) (zg 3))) (tB (e2 oNe (uC "Program" "calls" PW.d_Program_calls [] (zg 8) zj) (zg 4)))))
 (zY (eC (.bl false)))
 yL) TmB)
def Tm:C:=(zG (zR (zE d_read_program [] (za (zg 7) zj)) (gName 8)) TmA)
end
section
variable{s s' s2:S}{P:Pst}{m k p F C:Nat}{t wd:Str}{v0 v1 v2 v5 v6 v7 v8 v9 v10 v11 v12 v13:Option D}{hs:List (Str×Nat)}{l:List Rw}{zs:List Sm}{kd:Kd}
theorem zoE(pg:Pg s F C hs l)(pa:PA s p m k hs l)
  (hQ:∀ s',Pf s s'->P.nx [v0,v1,v2,some (.ref F),some (.ref C),v5,v6,v7,some (.ref p),v9,v10,v11,v12,v13] s') :
  wC (TmB [v0,v1,v2,some (.ref F),some (.ref C),v5,v6,v7,some (.ref p),v9,v10,v11,v12,v13] s) P:=by
 unfold TmB;simp;refine PW.zgw pa pg.gd.wd λs1 p1=>?_
 try simp
 refine zck pg.gd λs2 p2 m2 k2 q2 l2 pa2=>?_
 try simp
 have p12:=p1.trans q2;refine PL.zem pa2 (pa.pf p12) pg.gd pg.gd rfl λs3 p3=>?_;simp;have pg3:=pg.pf (p12.trans p3);refine PW.zjO pg3.hF pg3.hC pg3.ha pg.gd λs4 m4 k4 p4 pa4=>?_
 try simp
 have p14:=(p12.trans p3).trans p4;refine PL.zem (pa.pf p14) pa4 pg.gd pg.gd rfl λs5 p5=>?_;simp;exact hQ s5 (p14.trans p5)
theorem zoD(pg:Pg s F C hs l)(pa:PA s p m k hs l)
  (hQ:∀ s',Pf s s'->P.nx [v0,v1,v2,some (.ref F),some (.ref C),v5,v6,v7,some (.ref p),v9,v10,v11,v12,v13] s') :
  wC (TmA [v0,v1,v2,some (.ref F),some (.ref C),v5,v6,v7,some (.ref p),v9,v10,v11,v12,v13] s) P:=by
 unfold TmA;generalize hE:TmB=En
 have hJ:isJ s (.ref p) ["Program"]=some true:=by
  unfold isJ;simp[pa.at_]
 simp[hJ];rw[P83.zrj pa,yj];refine PW.uW pa ?_;have p1:Pf s (s++[O.lst (hs.map hD)]):=Pf.app;have g1:=zJ (s:=s) (o:=O.lst (hs.map hD));have pg1:=pg.pf p1;have pa1:=pa.pf p1;generalize s.length=n1 at *;generalize s++[O.lst (hs.map hD)]=s1 at *
 try simp
 rw[PL.zkk pg.gd g1 pg1.hF];simp;rw[P83.zri pa1,yj];refine PW.zcN pa1 (by have:=pg.ll;omega) λs2 n2 l' p2 h2 ec ha' _=>?_;have pg2:=pg1.pf p2
 try simp
 rw[PW.zgX pg.gd.wd pg2.hC h2 pg2.ha ha' ec];simp;rw[← hE];have p12:=p1.trans p2;exact zoE pg2 (pa1.pf p2) λs3 p3=>hQ s3 (p12.trans p3)
theorem zqC(pg:Pg s F C hs l)(ht:tokF t.cps.toList [] .blank=some (jn ";" (zs.map xG),kd))(lt:t.length<900000)(oc:okS t)(lz:zs.length<=100000)
  (hz:∀ z∈zs,SmOk z/\SmB z) (e1:ltS zs=hs) (e2:rtS zs=l)
  (hQ:∀ s' v8,Pf s s'->P.nx [v0,v1,v2,some (.ref F),some (.ref C),v5,v6,some (.str t),v8,v9,v10,v11,v12,v13] s') :
  wC (Tm [v0,v1,v2,some (.ref F),some (.ref C),v5,v6,some (.str t),v8,v9,v10,v11,v12,v13] s) P:=by
 unfold Tm;generalize hE:TmA=En;simp;refine zcP ht lt oc lz (λz h=>(hz z h).1) (λz h=>(hz z h).2) (by rw[e1,e2];exact pg.gd) λs1 p m k p1 lp pa=>?_;rw[e1,e2]at pa
 try simp
 rw[← hE];exact zoD (pg.pf p1) pa λs2 p2=>hQ s2 _ (p1.trans p2)
end
noncomputable section
def TrB:C:=(xf (yd .seq (eN zQ (za (zaw (eC (.str " ")) (zg 6)) (za (zE d_law_spaced [] (za (zg 2) (za (zg 6) zj))) zj)))) (gName 7) Tm)
def Tr:C:=(zG (zR (zE d_law_rowed [] (za (zE d_law_statements [] (za (zg 2) (za (zg 3) (za (zg 4) zj)))) zj)) (gName 6)) TrB)
end
section
variable{s s' s2:S}{P:Pst}{n g B e d m p F C:Nat}{t x:Str}{v0 v1 v5 v7 v8 v9 v10 v11 v12 v13:Option D}{hs:List (Str×Nat)}{l:List Rw}{zs:List Sm}{kd:Kd}{ts:List Str}
theorem zpJ{zs:List Sm}(h:zs≠[]):∃ t ts,jn ";" (zs.map xG)=t::ts:=by
 cases zs with
 | nil=>exact absurd rfl h
 | cons z zs =>
  have:∃ t ts,xG z=t::ts:=by
   cases z with
   | inl x=>exact⟨_,_,rfl⟩
   | inr r=>exact⟨_,_,rfl⟩
  obtain⟨t,ts,e⟩:=this
  cases zs with
  | nil=>exact⟨t,ts,e⟩
  | cons z2 zs=>exact⟨t,_,by show xG z++_=_;rw[e];rfl⟩
theorem zjm(hl:∀ t∈ts,t.length<=12):(Str.join " " ts).length<=ts.length*13:=by
 have h:=StrLaws.join_length_le " " ts
 have h2:(ts.map (·.length)).sum<=ts.length*12:=by
  have:∀ ts:List Str,(∀ t∈ts,t.length<=12)->(ts.map (·.length)).sum<=ts.length*12:=by
   intro ts
   induction ts with
   | nil=>intro _;simp
   | cons t ts ih =>
    intro h;have a:=h t (tH);have b:=ih λx hx=>h x (tQ _ hx);simp only[tM,List.sum_cons,sS];omega
  exact this ts hl
 have h3:(" ":Str).length=1:=by decide +kernel
 rw[h3]at h;omega
theorem zfv:∀{ts:List Str},(∀ t∈ts,okS t)->okS (Str.join " " ts)
 | [],_=>λc hc=>by
  have:(Str.join " " []).cps.toList=[]:=rfl;rw[this]at hc;cases hc
 | [a],h=>h a (tH)
 | a::b::r,h=>by
  show okS (a++" "++Str.join " " (b::r));exact yg (yg (h a (tH)) yf) (zfv λx hx=>h x (tQ _ hx))
theorem zlI{t:Str}:("":Str)++t=t:=by
 show(⟨#[]++t.cps⟩:Str)=t;rw[Array.empty_append]
def ITr(s:S)(v0 v1 v5 v9 v10 v11 v12 v13:Option D)(g F C m:Nat)(us:List Str)(r:List D)(σ:Fc.Env)(s':S):Prop:=∃(pre post:List Str) (v7 v8:Option D),us=pre++post/\r=post.map .str/\σ=[v0,v1,some (.ref g),some (.ref F),some (.ref C),v5,some (.ref m),v7,v8,v9,v10,v11,v12,v13]/\Pf s s'
theorem zoG{us:List Str}(pg:Pg s F C hs l)(hn:s[n]?=some (.lst (us.map .str)))(lz:zs.length<=15)
   (hz:∀ z∈zs,SmOk z/\SmB z) (e1:ltS zs=hs) (e2:rtS zs=l) (tok:∀ t∈us,∃ kd,tokF t.cps.toList [] .blank=some (jn ";" (zs.map xG),kd)/\t.length<900000/\okS t)
   (hQ:∀ s' v7 v8,Pf s s'->P.nx [v0,v1,some (.ref g),some (.ref F),some (.ref C),v5,some (.ref m),v7,v8,v9,v10,v11,v12,v13] s') :
   wC (forL n (gName 7) Tm us.length 0 [v0,v1,some (.ref g),some (.ref F),some (.ref C),v5,some (.ref m),v7,v8,v9,v10,v11,v12,v13] s) P:=by
 refine xF (n:=n) (ds:=us.map .str) (ITr s v0 v1 v5 v9 v10 v11 v12 v13 g F C m us) (λr σ s' ⟨_,_,_,_,_,_,_,p⟩=>p _ _ hn) ?_ ?_ _ 0 (by simp) ⟨[],us,_,_,rfl,rfl,rfl,Pf.refl⟩
 . rintro d r σ s2 ⟨pre,post,u7,u8,eu,er,rfl,p2⟩
   cases post with
   | nil=>cases er
   | cons t post =>
    rw[tM,List.cons.injEq]at er;obtain⟨rfl,rfl⟩:=er;refine⟨_,rfl,?_⟩;obtain⟨kd,a1,a2,a3⟩:=tok t (by rw[eu];simp);refine zqC (pg.pf p2) a1 a2 a3 (by omega) hz e1 e2 λs3 u8 p3=>?_;exact⟨pre++[t],post,_,_,by rw[eu];simp,rfl,rfl,p2.trans p3⟩
 . rintro σ s2 ⟨pre,post,u7,u8,eu,er,rfl,p2⟩
   cases post with
   | cons a post=>cases er
   | nil=>exact hQ s2 _ _ p2
theorem zoF(pg:Pg s F C hs l)(hg:Gen s g (B+200000))(hm:s[m]?=some (.lst ((jn ";" (zs.map xG)).map .str)))(ne:zs≠[])(lz:zs.length<=15)
  (hz:∀ z∈zs,SmOk z/\SmB z) (e1:ltS zs=hs) (e2:rtS zs=l)
  (hQ:∀ s' v7 v8,Fr g s s'->Gen s' g B->P.nx [v0,v1,some (.ref g),some (.ref F),some (.ref C),v5,some (.ref m),v7,v8,v9,v10,v11,v12,v13] s') :
  wC (TrB [v0,v1,some (.ref g),some (.ref F),some (.ref C),v5,some (.ref m),v7,v8,v9,v10,v11,v12,v13] s) P:=by
 unfold TrB;generalize hE:Tm=En;have tl:=zgq λz h=>(hz z h).2;have gr:=zno (λz h=>(hz z h).1) (λz h=>(hz z h).2);obtain⟨t0,ts0,et⟩:=zpJ ne;obtain⟨k1,ek1⟩:=zfQ (ts:=ts0) (t:=t0) (F:=[]) (u:="") rfl (by rw[← et];exact λx hx=>(gr.tk x hx).1);have jl:=zjm λt ht=>(gr.tk t ht).2
 have lg:g<s.length:=by
  obtain⟨a,b,c,e2,_⟩:=hg;exact zq e2
 simp;rw[PW.kY (B:=12) hm (λt ht=>(gr.tk t ht).2) (by rw[show(" ":Str).length=1 by decide +kernel];omega),zB,TL.join_eq];refine zit (B:=B) (hg.mono (by omega)) hm gr (by omega) λs1 u k2 f1 g1 ek2 ul uo=>?_;rw[zlI,qu,← et]at ek1;have p2:Pf s1 (s1++[O.lst [.str (Str.join " " (jn ";" (zs.map xG))),.str u]]):=Pf.app;have h2:(s1++[O.lst [.str (Str.join " " (jn ";" (zs.map xG))),.str u]])[s1.length]?=some (.lst (([Str.join " " (jn ";" (zs.map xG)),u]:List Str).map .str)):=zJ;have f2:Fr g s (s1++[O.lst [.str (Str.join " " (jn ";" (zs.map xG))),.str u]]):=f1.trans p2.fr;have hg2:=uK p2 g1
 have lm:s1.length≠g:=by have:=f1.1;omega
 have tok:∀ t∈([Str.join " " (jn ";" (zs.map xG)),u]:List Str),∃ kd,tokF t.cps.toList [] .blank=some (jn ";" (zs.map xG),kd)/\t.length<900000/\okS t:=by
  intro t ht
  rcases tU.mp ht with rfl | ht
  . exact⟨k1,ek1,by omega,zfv λx hx=>zjv (gr.tk x hx).1⟩
  . rw[tV.mp ht];exact⟨k2,ek2,by omega,uo⟩
 generalize hus:[Str.join " " (jn ";" (zs.map xG)),u]=us at *;generalize s1++[O.lst [.str (Str.join " " (jn ";" (zs.map xG))),.str u]]=s2 at *;rw[zX h2,zB];dsimp only;rw[← hE,tR];refine zoG (pg.fr hg f2) h2 lz hz e1 e2 tok λs3 v7 v8 p3=>?_;exact hQ s3 v7 v8 (f2.trans p3.fr) (uK p3 hg2)
end
noncomputable section
def BlB:C:=(cIf (tB (e2 (zgi "Program" PL.d_Program_eq) (zE d_read_program [] (za (zg 7) zj)) (vD "Program" P85.d_Program_init [] (za (eN zQ zj) (za (eN zQ zj) zj)))))
 (zY (eC (.bl false)))
 yL)
def CeB:C:=(xf (yd .seq (eN zQ (za (eC (.str "")) (za (eC (.str " ")) (za (eC (.str "\n")) (za (eC (.str " \n\n ")) zj)))))) (gName 7) BlB)
def CeA:C:=zG (xf (xm (eC (.int 0)) (eC (.int 3))) (gName 5) Tr) CeB
end
section
variable{s s' s2:S}{P:Pst}{n g B d m k p F C:Nat}{t x y wd:Str}{v0 v1 v2 v3 v4 v5 v6 v7 v8 v9 v10 v11 v12 v13:Option D}{hs:List (Str×Nat)}{l:List Rw}{zs:List Sm}
theorem zpS{zs:List Sm}(h:ltS zs≠[]):zs≠[]:=λz=>h (by rw[z];rfl)
theorem zqD(pg:Pg s F C hs l)(hg:Gen s g (B+210000))
   (hQ:∀ s' v6 v7 v8,Fr g s s'->Gen s' g B->P.nx [v0,v1,some (.ref g),some (.ref F),some (.ref C),v5,v6,v7,v8,v9,v10,v11,v12,v13] s') :
   wC (Tr [v0,v1,some (.ref g),some (.ref F),some (.ref C),v5,v6,v7,v8,v9,v10,v11,v12,v13] s) P:=by
 unfold Tr;generalize hE:TrB=En;have hl:=pg.hl;have ll:=pg.ll;have ok:=zfG pg.gd;simp;refine zcQ (B:=B+200000) (hg.mono (by omega)) pg.hF pg.hC pg.ha (λx hx=>ok _ (rH _ (sJ hx))) (λr hr=>ok _ (qd _ (sJ hr))) (by omega) λs1 d ds ql1 e1 e2 ld g1 f1=>?_
 try simp
 refine zjR (L:=ds.map ql) ql1.at2 (λx hx=>?_) (by rw[tR];omega) λs2 m p2 h2=>?_
 . obtain⟨y,hy,rfl⟩:=tK.mp hx;have:=zdB (ql1.ok y hy).2;exact⟨ql1.lo y hy,by show(xG y.2).length<=200;omega⟩
 . try simp
   rw[← hE]
   have em:(ds.map ql).map (·.2)=(ds.map (·.2)).map xG:=by
    rw[tW,tW];rfl
   rw[em]at h2;have f2:Fr g s s2:=f1.trans p2.fr;refine zoF (B:=B) (pg.fr hg f2) (uK p2 g1) h2 (zpS (by rw[e1];exact pg.ne)) (by rw[tR];omega) (λz hz=>?_) e1 e2 λs3 u7 u8 f3 g3=>hQ s3 _ u7 u8 (f2.trans f3) g3;obtain⟨y,hy,rfl⟩:=tK.mp hz;exact ql1.ok y hy
theorem zff:Gd [] [] where
 wd:=⟨λ_ h=>(su h).elim,by decide,λ_ h=>(su h).elim,by decide⟩
 n1:=λ_ h=>(su h).elim
 m1:=λ_ h=>(su h).elim
 nd:=qH
 nl:=qH
theorem zoj(hb:Bl t)(lt:t.length<900000)(oc:okS t)(hQ:∀ s',Pf s s'->P.nx [v0,v1,v2,v3,v4,v5,v6,some (.str t),v8,v9,v10,v11,v12,v13] s') :
  wC (BlB [v0,v1,v2,v3,v4,v5,v6,some (.str t),v8,v9,v10,v11,v12,v13] s) P:=by
 unfold BlB;simp
 have et:tokF t.cps.toList [] .blank=some (jn ";" (([]:List Sm).map xG),.blank):=by
  rw[zbJ hb];split <;> rfl
 refine zcP (zs:=[]) et lt oc (by simp) (λz h=>(su h).elim) (λz h=>(su h).elim) zff λs1 p m k p1 lp pa=>?_
 try simp
 have p2:Pf s1 (s1++[O.lst [],O.lst []]):=Pf.app
 have g2:(s1++[O.lst [],O.lst []])[s1.length]?=some (.lst (([]:List (Str×Nat)).map hD)):=by
  rw[rW (tX _),Nat.sub_self];rfl
 have g3:(s1++[O.lst [],O.lst []])[s1.length+1]?=some (.lst (([]:List Rw).map rwD)):=by
  rw[rW (by omega),show s1.length+1 - s1.length=1 by omega];rfl
 have el:s1.length+2=(s1++[O.lst [],O.lst []]).length:=by simp
 have es:s1++[O.lst [],O.lst [],O.ins "Program" []]=(s1++[O.lst [],O.lst []])++[O.ins "Program" []]:=by simp
 rw[es,el];refine PW.zjO g2 g3 (λr hr=>(su hr).elim) zff λs3 m3 k3 p3 pa3=>?_
 try simp
 rw[← el]at pa3;refine PL.zem (hs:=[]) (l:=[]) (pa.pf (p2.trans p3)) pa3 zff zff rfl λs4 p4=>?_;simp;exact hQ s4 (p1.trans ((p2.trans p3).trans p4))
def blT:List Str:=[""," ","\n"," \n\n "]
theorem zmT:∀ t∈blT,Bl t/\t.length<900000/\okS t:=by
 intro t ht;simp only[blT,tU,su,or_false]at ht
 rcases ht with rfl | rfl | rfl | rfl <;> exact⟨by unfold Bl;decide +kernel,by decide +kernel,yf⟩
def IBl(s:S)(v0 v1 v2 v3 v4 v5 v6 v8 v9 v10 v11 v12 v13:Option D)(us:List Str)(r:List D)(σ:Fc.Env)(s':S):Prop:=∃(pre post:List Str) (v7:Option D),us=pre++post/\r=post.map .str/\σ=[v0,v1,v2,v3,v4,v5,v6,v7,v8,v9,v10,v11,v12,v13]/\Pf s s'
theorem zol(hQ:∀ s' v7,Pf s s'->P.nx [v0,v1,v2,v3,v4,v5,v6,v7,v8,v9,v10,v11,v12,v13] s') :
   wC (CeB [v0,v1,v2,v3,v4,v5,v6,v7,v8,v9,v10,v11,v12,v13] s) P:=by
 unfold CeB;generalize hE:BlB=En;simp;have p1:Pf s (s++[O.lst (blT.map .str)]):=Pf.app;have h1:=zJ (s:=s) (o:=O.lst (blT.map .str));have es:(s++[O.lst [D.str (Str.ofString ""),D.str (Str.ofString " "),D.str (Str.ofString "\n"),D.str (Str.ofString " \n\n ")]])=s++[O.lst (blT.map .str)]:=rfl;rw[es];generalize s.length=n at *;generalize s++[O.lst (blT.map .str)]=s1 at *;rw[zX h1,zB];dsimp only;rw[← hE];refine xF (n:=n) (ds:=blT.map .str) (IBl s1 v0 v1 v2 v3 v4 v5 v6 v8 v9 v10 v11 v12 v13 blT) (λr σ s' ⟨_,_,_,_,_,_,p⟩=>p _ _ h1) ?_ ?_ _ 0 (by simp) ⟨[],blT,_,rfl,rfl,rfl,Pf.refl⟩
 . rintro d r σ s2 ⟨pre,post,u7,eu,er,rfl,p2⟩
   cases post with
   | nil=>cases er
   | cons t post =>
    rw[tM,List.cons.injEq]at er;obtain⟨rfl,rfl⟩:=er;refine⟨_,rfl,?_⟩;obtain⟨a1,a2,a3⟩:=zmT t (by rw[eu];simp)
    exact zoj a1 a2 a3 λs3 p3=>⟨pre++[t],post,_,by rw[eu];simp,rfl,rfl,p2.trans p3⟩
 . rintro σ s2 ⟨pre,post,u7,eu,er,rfl,p2⟩
   cases post with
   | cons a post=>cases er
   | nil=>exact hQ s2 _ (p1.trans p2)
def ITu(s:S)(v0 v1 v9 v10 v11 v12 v13:Option D)(g F C B:Nat)(r:List D)(σ:Fc.Env)(s':S):Prop:=∃(post:List Nat) (v5 v6 v7 v8:Option D),r=post.map (λi:Nat=>D.int (i:Int))/\σ=[v0,v1,some (.ref g),some (.ref F),some (.ref C),v5,v6,v7,v8,v9,v10,v11,v12,v13]/\Fr g s s'/\Gen s' g (B+210000*post.length)
theorem zok(pg:Pg s F C hs l)(hg:Gen s g (B+630000))
   (hQ:∀ s' v5 v6 v7 v8,P.nx [v0,v1,some (.ref g),some (.ref F),some (.ref C),v5,v6,v7,v8,v9,v10,v11,v12,v13] s') :
   wC (CeA [v0,v1,some (.ref g),some (.ref F),some (.ref C),v5,v6,v7,v8,v9,v10,v11,v12,v13] s) P:=by
 unfold CeA;generalize hE:CeB=En;generalize hB:Tr=Bd;simp;rw[show [D.int 0,D.int 1,D.int 2]=(List.range 3).map (λi:Nat=>D.int (i:Int))from rfl];refine xZ (ITu s v0 v1 v9 v10 v11 v12 v13 g F C B) _ ⟨List.range 3,_,_,_,_,rfl,rfl,Fr.refl,hg⟩ ?_ ?_
 . rintro d r σ s2 ⟨post,u5,u6,u7,u8,er,rfl,f2,g2⟩
   cases post with
   | nil=>cases er
   | cons x post =>
    rw[tM,List.cons.injEq]at er;obtain⟨rfl,rfl⟩:=er;refine⟨_,rfl,?_⟩;rw[← hB];refine zqD (B:=B+210000*post.length) (pg.fr hg f2) (by rw[sS]at g2;exact g2.mono (by omega)) λs3 u6 u7 u8 f3 g3=>?_;exact⟨post,_,_,_,_,rfl,rfl,f2.trans f3,g3⟩
 . rintro σ s2 ⟨post,u5,u6,u7,u8,er,rfl,f2,g2⟩
   try simp
   rw[← hE];exact zol λs3 u7 p3=>hQ s3 _ _ _ _
end
noncomputable section
def CeD:C:=(zG (zR (zE d_law_renamed [] (za (zg 2) (za (zg 3) (za (zg 4) zj)))) (gTup 2 (gCons (gName 3) (gCons (gName 4) gNil)))) CeA)
def CeC:C:=(zG (zR (zE PW.d_law_parts [] (za (zg 2) (za (eC (.int 5)) (za (eC (.int 10)) (za (eC (.int 3)) zj))))) (gTup 2 (gCons (gName 3) (gCons (gName 4) gNil)))) CeD)
def Ce:C:=(zG (zR (zE PW.d_law_purse [] (za (zg 0) (za (zg 1) zj))) (gName 2)) CeC)
end
section
variable{s s' s2:S}{P:Pst}{g B F C c:Nat}{v0 v1 v2 v3 v4 v5 v6 v7 v8 v9 v10 v11 v12 v13:Option D}{hs:List (Str×Nat)}{l:List Rw}
theorem zom(pg:Pg s F C hs l)(hg:Gen s g (B+640000))
  (hQ:∀ s' v3 v4 v5 v6 v7 v8,P.nx [v0,v1,some (.ref g),v3,v4,v5,v6,v7,v8,v9,v10,v11,v12,v13] s') :
  wC (CeD [v0,v1,some (.ref g),some (.ref F),some (.ref C),v5,v6,v7,v8,v9,v10,v11,v12,v13] s) P:=by
 unfold CeD;generalize hE:CeA=En;simp;refine zgu (B:=B+630000) pg (hg.mono (by omega)) λs1 F' C' hs' l' f1 g1 pg'=>?_
 try simp
 rw[← hE];exact zok pg' g1 λs2 u5 u6 u7 u8=>hQ s2 _ _ _ _ _ _
theorem zqB{ns:List Int}(hc:c<4)
  (hQ:∀ s' v2 v3 v4 v5 v6 v7 v8,P.nx [some (.rol (ns.map .int)),some (.int (c:Int)),v2,v3,v4,v5,v6,v7,v8,v9,v10,v11,v12,v13] s') :
  wC (Ce [some (.rol (ns.map .int)),some (.int (c:Int)),v2,v3,v4,v5,v6,v7,v8,v9,v10,v11,v12,v13] s) P:=by
 unfold Ce;generalize hE:CeC=En;simp;refine PW.zjP (by omega) λg s1 p1 g1 lg=>?_
 try simp
 rw[← hE];unfold CeC;generalize hE:CeD=En;simp;rw[show(5:Int)=((5:Nat):Int)from rfl,show(10:Int)=((10:Nat):Int)from rfl,show(3:Int)=((3:Nat):Int)from rfl];refine PW.jf (B:=640000) (most:=5) (ct:=10) (mt:=3) (g1.mono (by decide)) (by decide) (by decide) (by decide) (by decide) λs3 F1 C1 h1 l1 pt1=>?_
 try simp
 have W1:=zpB pt1 (by decide) (by decide) (by omega);rw[← hE];exact zom (B:=0) ⟨W1.hF,W1.hC,W1.ha,W1.gd,W1.ne,W1.hl,W1.ll⟩ (pt1.sd.gen.mono (by omega)) λs' u3 u4 u5 u6 u7 u8=>hQ s' _ _ _ _ _ _ _
end
end P81
namespace P85
open PySem Fc P1
section
structure RwOkL(s:S)(hs:List (Str×Nat))(r:Rw):Prop where
 nm:NameOk r.nm
 src:r.src∈hs
 tgt:r.tgt∈hs
 arcs:∀ a∈r.A,a.1<r.src.2/\a.2.1<r.tgt.2
 len:r.A.length<=2000
 at_:s[r.a]?=some (.lst (r.A.map aD))
end
section
theorem zeD{s:S}{r:Rw}{m:Nat}{hs:List (Str×Nat)}{X:Xc}{Q:D->S->Prop}(hm:s[m]?=some (.dK (mvH hs)))(nd:(hs.map (·.1)).Nodup)(hn:∀ h∈hs,NameOk h.1)(hr:RwOkL s hs r)(hQ:∀ s',Pf s s'->Q (.bl true) s'):wE (d_is_call [rwD r,.ref m] s) Q X:=by
 unfold d_is_call;refine(yW (by rfl)).mpr ?_;unfold b_is_call;simp[rwD,yN,srcOf];have ec:kE [D.str r.nm,D.str r.src.1,D.str r.tgt.1,D.ref r.a] none (some 3)=[D.str r.nm,D.str r.src.1,D.str r.tgt.1]:=rfl;rw[ec];refine zaB (λ_=>none) (by simp) (λd hd s' pf=>?_) λs3 p3 h3=>?_
 . have:∃ x,d=.str x/\NameOk x:=by
     simp only[tU,su,or_false]at hd
     rcases hd with rfl | rfl | rfl
     . exact⟨_,rfl,hr.nm⟩
     . exact⟨_,rfl,hn _ hr.src⟩
     . exact⟨_,rfl,hn _ hr.tgt⟩
   obtain⟨x,rfl,hx⟩:=this;refine⟨_,rfl,?_⟩;simp[Fc.wipe];refine zad hx λs1 p1=>?_;simp;exact p1
 . rw[kW]at h3;have e4:eqD (s3++[O.lst []]) (.ref s.length) (.ref s3.length)=some true:=eq_nil (A:=[]) (Pf.app _ _ h3) zJ;rw[e4];have p4:Pf s (s3++[O.lst []]):=p3.trans Pf.app;obtain⟨g1,g2⟩:=zdt (p4 _ _ hm) nd hr.src;obtain⟨g3,g4⟩:=zdt (p4 _ _ hm) nd hr.tgt;have h5:=p4 _ _ hr.at_;have hl:=hr.len;simp[g2,g4,zge,h5];rw[show r.A.length=(r.A.map aD).length by simp];refine zfV (λ_=>none) h5 (by simp;omega) (λd hd s' pf=>?_) λs5 p5 h5=>?_
   . obtain⟨b,hb,rfl⟩:=tK.mp hd;have h:=hr.arcs b hb;obtain⟨g1,g2⟩:=zdt (pf _ _ (p4 _ _ hm)) nd hr.src;obtain⟨g3,g4⟩:=zdt (pf _ _ (p4 _ _ hm)) nd hr.tgt;refine⟨_,rfl,?_⟩;simp[Fc.wipe,g1,g3];refine zcj h.1 h.2 ?_;simp;exact Pf.refl
   . rw[kW]at h5;have e6:eqD (s5++[O.lst []]) (.ref (s3++[O.lst []]).length) (.ref s5.length)=some true:=eq_nil (A:=[]) (Pf.app _ _ h5) zJ;rw[e6];exact hQ _ (p4.trans (p5.trans Pf.app))
end
section
theorem zjM{s:S}{p F C:Nat}{hs:List (Str×Nat)}{l:List Rw}{X:Xc}{Q:D->S->Prop}(hp:s[p]?=some (.ins "Program" []))(hF:s[F]?=some (.lst (hs.map hD)))(hC:s[C]?=some (.lst (l.map rwD)))(hn:∀ h∈hs,NameOk h.1/\h.2<4)(nd:(hs.map (·.1)).Nodup)(h5:hs.length<1000)(hl:∀ q∈l,RwOkL s hs q)(nl:(l.map (·.nm)).Nodup)(hL:l.length<1000)
   (hQ:∀(s':S) (m k:Nat),s.length<=s'.length->(∀ n:Nat,n≠p->∀ o,s[n]?=some o->s'[n]?=some o)->s'[p]?=some (.ins "Program" [("many",.ref m),("known",.ref k)])->s'[m]?=some (.dK (mvH hs))->s'[k]?=some (.dK (kvP l))->Q .non s'):wE (d_Program_init [.ref p,.ref F,.ref C] s) Q X:=by
 unfold d_Program_init;refine(yW (by rfl)).mpr ?_;unfold b_Program_init;simp;refine wI hF ?_;have hF1:=Pf.app (t:=[O.dK []]) _ _ hF;simp[srcOf,hF1];rw[show hs.length=(hs.map hD).length by simp]
 refine xF (n:=F) (ds:=hs.map hD) (λr σ s'=>∃(pre post:List (Str×Nat)) (t:Option D),hs=pre++post/\r=post.map hD/\Pf s s'/\s'[s.length]?=some (.dK (mvH pre))/\σ=[some (.ref p),some (.ref F),some (.ref C),some (.ref s.length),t,none,none])
   (λr σ s' ⟨_,_,_,_,_,pf,_⟩=>pf _ _ hF) ?_ ?_ _ 0 (by simp) ⟨[],hs,none,rfl,rfl,Pf.app,zJ,rfl⟩
 . rintro d r σ s' ⟨pre,post,t,e,er,pf,hm,rfl⟩
   match post,er with
   | x::post,er =>
     rw[tM,List.cons.injEq]at er;obtain⟨rfl,rfl⟩:=er;have hx:=hn x (by rw[e];simp)
     have fresh:∀ kv∈mvH pre,kv.1≠.inr x.1:=by
       intro kv hk;obtain⟨y,hy,rfl⟩:=tK.mp hk;intro h
       have h:y.1=x.1:=by injection h
       rw[e,sG]at nd;exact(rK.mp nd).2.2 _ (tK.mpr ⟨y,hy,rfl⟩) x.1 (by simp) h
     refine⟨_,rfl,?_⟩;simp;refine jD hx.1 hx.2 λs1 p1=>?_;have hm1:=p1 _ _ hm
     have i1:isIn s1 (.str x.1) (.ref s.length)=some false:=by
       simp only[isIn,hm1,unl,dget,keyOf,rA,jd fresh];rfl
     have lp:(mvH pre).length<16777216:=by
       have:hs.length=pre.length+(x::post).length:=by rw[e];simp
       simp[mvH]at *;omega
     have i2:Fc.putAt s1 (.ref s.length) (.str x.1) (.int x.2)=some (s1.set s.length (.dK (mvH (pre++[x])))):=by
       simp only[Fc.putAt,hm1,dput,if_pos lp,keyOf,rA,vI fresh];simp[mvH]
     simp[hD,i1,i2];refine⟨pre++[x],post,by simp[e],rfl,zcd (pf.trans p1),yD (zq hm1)⟩
 . rintro σ s1 ⟨pre,post,t,e,er,pf,hm,rfl⟩
   have hpost:post=[]:=by
     match post,er with
     | [],_=>rfl
   subst hpost;rw[sE]at e;subst e;have hC1:=pf _ _ hC;simp;refine wI hC1 ?_;have hC2:=Pf.app (t:=[O.dK []]) _ _ hC1;simp[srcOf,hC2];rw[show l.length=(l.map rwD).length by simp]
   refine xF (n:=C) (ds:=l.map rwD) (λr σ s'=>∃(pre post:List Rw) (t:Option D),l=pre++post/\r=post.map rwD/\Pf s1 s'/\s'[s1.length]?=some (.dK (kvP pre))/\∃ u,σ=[some (.ref p),some (.ref F),some (.ref C),some (.ref s.length),u,some (.ref s1.length),t])
     (λr σ s' ⟨_,_,_,_,_,pf',_⟩=>pf' _ _ hC1) ?_ ?_ _ 0 (by simp) ⟨[],l,none,rfl,rfl,Pf.app,zJ,_,rfl⟩
   . rintro d r σ s' ⟨pre2,post,t,e,er,pf',hk,u,rfl⟩
     match post,er with
     | q::post,er =>
       rw[tM,List.cons.injEq]at er;obtain⟨rfl,rfl⟩:=er;have hq:=hl q (by rw[e];simp)
       have hq':RwOkL s' hs q:=⟨hq.nm,hq.src,hq.tgt,hq.arcs,hq.len,pf' _ _ (pf _ _ hq.at_)⟩
       have fresh:∀ kv∈kvP pre2,kv.1≠.inr q.nm:=by
        intro kv hk;obtain⟨y,hy,rfl⟩:=tK.mp hk;intro h
        have h:y.nm=q.nm:=by injection h
        rw[e,sG]at nl;exact(rK.mp nl).2.2 _ (tK.mpr ⟨y,hy,rfl⟩) q.nm (by simp) h
       refine⟨_,rfl,?_⟩;simp;refine zeD (pf' _ _ hm) nd (λh hh=>(hn h hh).1) hq' λs2 p2=>?_;have hk2:=p2 _ _ hk;have ha2:=p2 _ _ hq'.at_
       have i1:isIn s2 (.str q.nm) (.ref s1.length)=some false:=by
        simp only[isIn,hk2,unl,dget,keyOf,rA,jd fresh];rfl
       have lp:(kvP pre2).length<16777216:=by
        have:l.length=pre2.length+(q::post).length:=by rw[e];simp
        simp[kvP]at *;omega
       have i2:Fc.putAt s2 (.ref s1.length) (.str q.nm) (.tup [.str q.src.1,.str q.tgt.1,.tup (q.A.map aD)])=some (s2.set s1.length (.dK (kvP (pre2++[q])))):=by
        simp only[Fc.putAt,hk2,dput,if_pos lp,keyOf,rA,vI fresh];simp[kvP]
       simp[rwD,i1,yr ha2,i2];refine⟨pre2++[q],post,by simp[e],rfl,zcd (pf'.trans p2),yD (zq hk2)⟩
   . rintro σ s2 ⟨pre2,post,t,e,er,pf',hk,u,rfl⟩
     have hpost:post=[]:=by
       match post,er with
       | [],_=>rfl
     subst hpost;rw[sE]at e;subst e;have hp2:=pf' _ _ (pf _ _ hp);have lp2:=zq hp2;simp[zcI hp2,zcI (yD lp2),fput]
     have ne1:p≠s.length:=by have:=zq hp;omega
     have ne2:p≠s1.length:=by have:=zq (pf _ _ hp);omega
     refine hQ _ s.length s1.length ?_ ?_ ?_ ?_ ?_
     . have:=(pf.trans pf').len;simpa using this
     . intro n hn o h;rw[zP (sH hn)];exact pf' _ _ (pf _ _ h)
     . rw[yD lp2,if_neg (by decide)]
     . rw[zP ne1];exact pf' _ _ hm
     . rw[zP ne2];exact hk
end
end P85
namespace PW
open PySem Fc P1 P85
section
structure WdL(hs:List (Str×Nat))(l:List Rw):Prop where
 hn:∀ x∈hs,Ltr x.1/\x.1.length<=12/\x.2<4
 hl:hs.length<=20
 ln:∀ r∈l,Ltr r.nm/\r.nm.length<=12/\r.src∈hs/\r.tgt∈hs/\(∀ a∈r.A,a.1<r.src.2/\a.2.1<r.tgt.2)/\r.A.length<=2000
 ll:l.length<=20
end
section
theorem WdL.arcs{hs:List (Str×Nat)}{l:List Rw}(w:WdL hs l){r:Rw}(hr:r∈l):∀ a∈r.A,a.1<4/\a.2.1<4:=λa ha=>by
 obtain⟨_,_,h1,h2,h3,_⟩:=w.ln r hr;have:=(w.hn _ h1).2.2;have:=(w.hn _ h2).2.2;have:=h3 a ha;omega
end
section
theorem zdp{A:List Arc}(h:∀ a∈A,a.1<4/\a.2.1<4)(hl:A.length<=2000):(zgd A).length<=16000:=by
 have:=jM (sep:=", ") (ts:=A.map zdO) (B:=6) λt ht=>by
  obtain⟨a,ha,rfl⟩:=tK.mp ht;exact zaE (h a ha).1 (h a ha).2
 have e:(", ":Str).length=2:=by decide +kernel
 rw[e,tR]at this;unfold zgd;omega
end
section
theorem zhd{x:Str×Nat}(h:x.1.length<=12)(h2:x.2<4):(vW x).length<=16100:=by
 unfold vW;rw[len_app,len_app,len_app,vA,zbi,wY h2];omega
end
section
theorem WdL.head{hs:List (Str×Nat)}{l:List Rw}(w:WdL hs l){r:Rw}(hr:r∈l):(zdo r).length<=50:=by
 obtain⟨_,h0,h1,h2,_⟩:=w.ln r hr;have:=(w.hn _ h1).2.1;have:=(w.hn _ h2).2.1;unfold zdo;rw[len_app,len_app,len_app,len_app,len_app,xP,zbi];omega
end
section
theorem WdL.call{hs:List (Str×Nat)}{l:List Rw}(w:WdL hs l){r:Rw}(hr:r∈l):(xO r).length<=16100:=by
 have h1:=w.head hr;have h2:=zdp (w.arcs hr) (w.ln r hr).2.2.2.2.2;unfold xO;rw[len_app,len_app,len_app,zbO,zbN];omega
end
section
theorem WdL.ok{hs:List (Str×Nat)}{l:List Rw}(w:WdL hs l):okS (wr hs l):=by
 refine zaN yf λt ht=>?_
 rcases tZ.mp ht with ht | ht
 . obtain⟨x,hx,rfl⟩:=tK.mp ht;exact yg (yg (yg yf (w.hn x hx).1.okS) yf) (zgS _)
 . obtain⟨r,hr,rfl⟩:=tK.mp ht;obtain⟨h0,_,h1,h2,_⟩:=w.ln r hr;refine yg (yg (yg ?_ yf) (zaN yf λt ht=>?_)) yf
   . exact yg (yg (yg (yg (yg yf h0.okS) yf) (w.hn _ h1).1.okS) yf) (w.hn _ h2).1.okS
   . obtain⟨a,_,rfl⟩:=tK.mp ht;exact zgE a
end
section
theorem WdL.zdL{hs:List (Str×Nat)}{l:List Rw}(w:WdL hs l):∀ t∈hs.map vW++l.map xO,t.length<=16100:=λt ht=>by
 rcases tZ.mp ht with ht | ht
 . obtain⟨x,hx,rfl⟩:=tK.mp ht;exact zhd (w.hn x hx).2.1 (w.hn x hx).2.2
 . obtain⟨r,hr,rfl⟩:=tK.mp ht;exact w.call hr
end
section
structure GdL(hs:List (Str×Nat))(l:List Rw):Prop where
 wd:WdL hs l
 n1:∀ x∈hs,1<=x.1.length
 m1:∀ r∈l,1<=r.nm.length
 nd:(hs.map (·.1)).Nodup
 nl:(l.map (·.nm)).Nodup
end
section
theorem GdL.ct{hs:List (Str×Nat)}{l l':List Rw}(g:GdL hs l)(h:l'.map PW.ct=l.map PW.ct):GdL hs l':=by
 have hl:l'.length=l.length:=by simpa using congrArg List.length h
 refine⟨⟨g.wd.hn,g.wd.hl,λr hr=>?_,by rw[hl];exact g.wd.ll⟩,g.n1,λr hr=>?_,g.nd,?_⟩
 . obtain⟨q,hq,e⟩:=zeU h hr;obtain⟨e1,e2,e3,e4⟩:=zbR e;have:=g.wd.ln q hq;rw[e1,e2,e3,e4]at this;exact this
 . obtain⟨q,hq,e⟩:=zeU h hr;rw[← (zbR e).1];exact g.m1 q hq
 . rw[jN (f:=(·.nm)) (λr=>rfl) h];exact g.nl
end
section
variable{s:S}{hs:List (Str×Nat)}{l:List Rw}
theorem GdL.row(g:GdL hs l)(ha:Arcs s l):∀ r∈l,RwOkL s hs r:=λr hr=>by
 obtain⟨n1,n2,n3,n4,n5,n6⟩:=g.wd.ln r hr;exact⟨vJ ⟨n1,g.m1 r hr,n2⟩,n3,n4,n5,by omega,ha r hr⟩
end
section
variable{s:S}{m k:Nat}{hs:List (Str×Nat)}{l:List Rw}{X:Xc}
theorem zkI{F C:Nat}(hF:s[F]?=some (.lst (hs.map hD)))(hC:s[C]?=some (.lst (l.map rwD)))(ha:Arcs s l)(g:GdL hs l){Q:S->Prop}(hQ:∀(s':S) (m k:Nat),Pf s s'->PA s' s.length m k hs l->Q s'):wE (d_Program_init [.ref s.length,.ref F,.ref C] (s++[.ins "Program" []])) (λd s'=>onN d (Q s')) X:=by
 have f:=Pf.app (s:=s) (t:=[.ins "Program" []]);have h40:=g.wd.hl;have l40:=g.wd.ll;refine zjM zJ (f _ _ hF) (f _ _ hC) (λx hx=>⟨vJ ⟨(g.wd.hn x hx).1,g.n1 x hx,(g.wd.hn x hx).2.1⟩,(g.wd.hn x hx).2.2⟩) g.nd (by omega) (g.row (ha.pf f)) g.nl (by omega) λs' m k _ hk hp hm hkn=>?_;simp;exact hQ _ m k (λw o e=>hk w (by have:=zq e;omega) o (f _ _ e)) ⟨hp,hm,hkn⟩
end
section
variable{s:S}{p m k:Nat}{hs:List (Str×Nat)}{l:List Rw}{X:Xc}{Q:D->S->Prop}
theorem zeG(h:PA s p m k hs l)(w:WdL hs l)(hQ:∀ s',Pf s s'->Q (.str (wr hs l)) s'):wE (d_text_of [.ref p] s) Q X:=by
 unfold d_text_of;refine(yW (by rfl)).mpr ?_;unfold b_text_of;generalize hF:xf _ _ _=F2;generalize hR:zY _=R;simp;refine zci h.at_ ?_;simp[h.fm',srcOf,h.many,unl,zcU];refine jY h.many (λ_=>by simp) ?_;have lm:=zq h.many;have h40:=w.hl;have l40:=w.ll;refine zaB zlo (by simp[mvH];omega) (λd hd s1 pf=>?_) λs1 p1 h1=>?_
 . obtain⟨kv,hkv,rfl⟩:=tK.mp hd;obtain⟨x,hx,rfl⟩:=tK.mp hkv;have hw:=w.hn x hx;refine⟨_,rfl,?_⟩;rw[zkR];refine⟨Pf.refl,?_⟩;rw[if_pos rfl];refine zkL (x:=x) ⟨hw.2.1,hw.2.2⟩ (λQ h=>by simpa[Fc.wipe,dOf]using h) (λQ h=>by simpa[Fc.wipe,dOf]using h) ⟨Pf.refl,?_⟩;simp[zlo,pairD,dOf]
 . rw[zhe]at h1;have q1:Pf s (s1.set m (.dK (mvH hs))):=Pf.unlock h.many p1
   have g1:(s1.set m (.dK (mvH hs)))[s.length]?=some (.lst ((hs.map vW).map .str)):=by
     rw[zP (by omega)];rw[show s.length=(s.set m (.lck (.dK (mvH hs)))).length by simp];exact h1
   have es:(s.set m (.lck (.dK (mvH hs)))).length=s.length:=by simp
   rw[es];generalize s1.set m (.dK (mvH hs))=s2 at *
   have h2:PA s2 p m k hs l:=⟨q1 _ _ h.at_,q1 _ _ h.many,q1 _ _ h.known⟩
   rw[← hF];simp[h2.fk',srcOf,h2.known,unl,zcU];refine ziJ h2.known (λ_=>by simp) ?_;have lk:=zq h.known;have lk2:=zq h2.known
   have gL:(s2.set k (.lck (.dK (kvP l))))[s.length]?=some (.lst ((hs.map vW).map .str)):=by rw[zP (by omega)];exact g1
   have eL:∀ s3:S,Pf s (s3.set k (.dK (kvP l)))->s3[s.length]?=some (.lst ((hs.map vW++l.map xO).map .str))->∀ t:List (Option D),t.length=9->t[1]?=some (some (.ref s.length))->wC (R t (s3.set k (.dK (kvP l)))) { nx:=λx s'=>Q D.non s',rt:=Q,xc:=X }:=by
     intro s3 pf g t _ ht;rw[← hR];simp[ht]
     have g':(s3.set k (.dK (kvP l)))[s.length]?=some (.lst ((hs.map vW++l.map xO).map .str)):=by rw[zP (by omega)];exact g
     have j:=kY (sep:="; ") (B:=16100) g' w.zdL (by rw[zpm];simp;omega);rw[j];exact hQ _ pf
   refine xZ (λ(r:List D) (σ:Fc.Env) (s':S)=>∃(pre post:List Rw) (t2 t3 t4 t5 t6 t7 t8:Option D),l=pre++post/\r=(kvP post).map pairD/\σ=[some (.ref p),some (.ref s.length),t2,t3,t4,t5,t6,t7,t8]/\Pf s (s'.set k (.dK (kvP l)))/\s'[s.length]?=some (.lst ((hs.map vW++pre.map xO).map .str)))
     _ ⟨[],l,none,none,none,none,none,none,none,rfl,rfl,rfl,?_,by simpa using gL⟩ ?_ ?_
   . rw[List.set_set,set_same h2.known];exact q1
   . rintro d r σ s3 ⟨pre,post,t2,t3,t4,t5,t6,t7,t8,el,er,rfl,pf,g⟩
     match post,er with
     | q::post,er =>
      rw[kvP,tM,tM,List.cons.injEq]at er;obtain⟨rfl,rfl⟩:=er
      have hq:q∈l:=by rw[el];simp
      have ha:=w.arcs hq;obtain⟨n1,n2,n3,n4,n5,n6⟩:=w.ln q hq;have c1:=(w.hn _ n3).2.1;have c2:=(w.hn _ n4).2.1;refine⟨_,rfl,?_⟩;have lg:=zq g;simp[srcOf];refine zaB zkV (by simp;omega) (λd hd s4 p4=>?_) λs4 p4 g4=>?_
      . obtain⟨a,haA,rfl⟩:=tK.mp hd;refine⟨_,rfl,?_⟩;simp[Fc.wipe];refine⟨Pf.refl,zbG (ha a haA).1 (ha a haA).2 λs5 p5=>⟨p5,?_⟩⟩;simp[zkV,aD]
      . rw[zgF]at g4
        have j:=kY (sep:=", ") (B:=6) g4 (λt ht=>by
          obtain⟨a,haA,rfl⟩:=tK.mp ht
          exact zaE (ha a haA).1 (ha a haA).2) (by rw[zrq];simp;omega)
        rw[j];have ln:=zdp ha n6;have g5:=p4 _ _ g
        have hl4:(hs.map vW++pre.map xO).length<16777216:=by
          have:l.length=pre.length+(q::post).length:=by rw[el];simp
          simp;omega
        have ei:Txt.join ", " (q.A.map zdO)=zgd q.A:=rfl;rw[ei];generalize zgd q.A=it at *;simp[isl g5,dOf]
        (try dsimp only)
        refine xX (szL (by (try simp only[len_app,xP,zbi,zbO,zbN,vA]);omega)) ?_
        (try dsimp only)
        refine xX (szL (by (try simp only[len_app,xP,zbi,zbO,zbN,vA]);omega)) ?_
        (try dsimp only)
        refine xX (szL (by (try simp only[len_app,xP,zbi,zbO,zbN,vA]);omega)) ?_
        (try dsimp only)
        refine xX (szL (by (try simp only[len_app,xP,zbi,zbO,zbN,vA]);omega)) ?_
        (try dsimp only)
        refine xX (szL (by (try simp only[len_app,xP,zbi,zbO,zbN,vA]);omega)) ?_
        (try dsimp only)
        refine xX (szL (by (try simp only[len_app,xP,zbi,zbO,zbN,vA]);omega)) ?_
        (try dsimp only)
        refine xX (szL (by (try simp only[len_app,xP,zbi,zbO,zbN,vA]);omega)) ?_
        (try dsimp only)
        refine xX (szL (by (try simp only[len_app,xP,zbi,zbO,zbN,vA]);omega)) ?_;rw[yr g5]
        have hl5:((hs.map vW++pre.map xO).map D.str).length<16777216:=by rw[tR];exact hl4
        simp only[zB];rw[decide_eq_true hl5,yj]
        have ex:((hs.map vW++pre.map xO).map D.str)++[D.str (("call ":Str)++q.nm++(" ":Str)++q.src.1++(" ":Str)++q.tgt.1++(" [":Str)++it++("]":Str))]=(hs.map vW++(pre++[q]).map xO).map D.str:=by
          have:xO q=("call ":Str)++q.nm++(" ":Str)++q.src.1++(" ":Str)++q.tgt.1++(" [":Str)++it++("]":Str):=by rw[← ei];rfl
          rw[← this];simp
        rw[ex];refine⟨pre++[q],post,by simp[el],by simp[kvP],?_,?_⟩
        . rw[List.set_comm _ _ (by omega)];exact zia (zib pf p4 h.known (by have:=pf.len;simp at this;omega)) (tX _)
        . rw[yD (zq g5)];simp
   . rintro σ s3 ⟨pre,post,t2,t3,t4,t5,t6,t7,t8,el,er,rfl,pf,g⟩
     have:post=[]:=by
      match post,er with
      | [],_=>rfl
     subst this;rw[sE]at el;subst el;exact eL s3 pf g _ rfl rfl
end
section
variable{hs:List (Str×Nat)}{l:List Rw}
theorem zjG(w:WdL hs l):PyData.canLayAll0 (l.map uF)=true/\PyData.depthAll (l.map uF)<=10:=by
 have key:∀ l':List Rw,l'⊆l->PyData.canLayAll0 (l'.map uF)=true/\PyData.depthAll (l'.map uF)<=10:=by
  intro l'
  induction l' with
  | nil=>intro _;exact⟨rfl,by decide⟩
  | cons r l' ih =>
   intro hs';obtain⟨k1,k2⟩:=ih λx hx=>hs' (tQ _ hx);obtain⟨n1,_,n3,n4,_⟩:=w.ln r (hs' (tH));have kk:=vR r.A;refine⟨?_,?_⟩
   . simp only[tM,PyData.canLayAll0,uF,PyData.canLay0,kk.1,yH.mpr n1.okS,yH.mpr (w.hn _ n3).1.okS,yH.mpr (w.hn _ n4).1.okS,k1,rJ]
   . simp only[tM,PyData.depthAll,PyData.depth,uF];have:=kk.2;omega
 exact key l (List.Subset.refl _)
end
section
variable{s:S}{k:Nat}{hs:List (Str×Nat)}{l:List Rw}
theorem zjb{n n':Nat}{l':List Rw}(w:WdL hs l)(h1:s[n]?=some (.lst (l.map rwD)))(h2:s[n']?=some (.lst (l'.map rwD)))(ha:Arcs s l)(ha':Arcs s l')(ec:l'.map ct=l.map ct):eqD s (.ref n') (.ref n)=some true:=by
 have k:=zjG w;have e:l'.map uF=l.map uF:=jN (f:=uF) (λr=>rfl) ec;refine eq_self (x:=.list (l.map uF)) (by rw[yQ h2,uG ha',e];rfl) (by rw[yQ h1,uG ha];rfl) ?_;refine rD.mpr ⟨by simp only[PyData.canLay0,k.1],decide_eq_true ?_⟩;simp only[PyData.depth];have:=k.2;omega
end
end PW
namespace P83
open PySem Fc P1 P85 PB PC P41
open P20 (zX)
open P61 (Lot lD Lo)
open PW (dg)
section
variable{s s':S}{X:Xc}{Q:D->S->Prop}{n f z:Nat}{a:Arc}{A:List Arc}{v2:Option D}
theorem zeC(hn:s[n]?=some (.lst ((jn "," (A.map yw)).map .str)))(hA:∀ a∈A,a.1<4/\a.2.1<4)(lA:A.length<=2000)(ok:∀ t∈jn "," (A.map yw),okS t)(lt:(jn "," (A.map yw)).length<900000)
   (hQ:∀ s' f,Pf s s'->s.length<=f->s'[f]?=some (.lst (A.map aD))->Q (.ref f) s'):wE (d_arcs_in [.ref n] s) Q X:=by
 unfold d_arcs_in;refine(yW (by rfl)).mpr ?_;rw[zmP];generalize hB:AiB=Bd;simp;have p0:Pf s (s++[O.lst []]):=Pf.app;have g0:=zJ (s:=s) (o:=O.lst []);generalize hs1:s++[O.lst []]=s1 at *
 have l1:s1.length=s.length+1:=by rw[← hs1];simp
 refine jf (m:=",") (p0 _ _ hn) ok yf lt λs2 r zs p2 hr h2 lo nd new e=>?_;rw[zaP hA]at e;rw[zX h2,zB];dsimp only
 have zf:∀ z∈zs,z.1≠s.length:=λz hz=>by have:=new z hz;omega
 refine xF (AiI s2 s.length (some (.ref n)) A zs r) (λr' σ s' ⟨_,_,_,_,_,_,_,_,k,_⟩=>k r (by omega) _ h2) ?_ ?_ _ 0 (by simp) ⟨[],A,zs,none,rfl,e,λy hy=>hy,rfl,λm _ o h=>h,tX _,p2 _ _ g0,rfl⟩
 . rintro d r' σ s' ⟨pre,post,ys,v2,eA,ey,hy,er,k,l,hf,rfl⟩
   cases ys with
   | nil=>cases er
   | cons y ys =>
    cases post with
    | nil=>cases ey
    | cons a post =>
     rw[tM,List.cons.injEq]at er;obtain⟨rfl,rfl⟩:=er;rw[tM,tM,List.cons.injEq]at ey;refine⟨_,rfl,?_⟩;rw[← hB];have hyz:=hy y (tH);have ha:=hA a (by rw[eA];simp)
     have lz:s'[y.1]?=some (.lst ((yw a).map .str)):=by
      rw[← ey.1];exact k _ (zf y hyz) _ (lo y hyz)
     have lp:pre.length<=2000:=by have:=congrArg List.length eA;simp at this;omega
     exact zkK lz ha.1 ha.2 hf (by omega) λs3 k3 l3 h3=>⟨pre++[a],post,ys,_,by rw[eA];simp,ey.2,λx hx=>hy x (tQ _ hx),rfl,λm hm o h=>k3 m hm o (k m hm o h),sW l l3,h3,rfl⟩
 . rintro σ s' ⟨pre,post,ys,v2,eA,ey,hy,er,k,l,hf,rfl⟩
   have:ys=[]:=by simpa using er.symm
   subst this
   have:post=[]:=by simpa using ey.symm
   subst this;rw[sE]at eA;subst eA;simp;refine hQ s' _ (λm o h=>?_) (tX _) hf;have:=zq h;exact k m (by omega) o (p2 _ _ (p0 _ _ h))
end
open P72 (zae zgP)
section
variable{s s':S}{X:Xc}{Q:D->S->Prop}{n f:Nat}{ts:List Str}{x y:Str}{r:Rw}
theorem zeF(hn:s[n]?=some (.lst ((xG (.inr r)).map .str)))(hz:SmOk (.inr r))(l1:r.nm.length<=12)(l2:r.src.1.length<=12)(l3:r.tgt.1.length<=12)(lA:r.A.length<=2000)(ok:∀ t∈jn "," (r.A.map yw),okS t)(lt:(jn "," (r.A.map yw)).length<900000)
  (hQ:∀ s' f,Pf s s'->s.length<=f->s'[f]?=some (.lst (r.A.map aD))->Q (.tup [.str r.nm,.str r.src.1,.str r.tgt.1,.ref f]) s'):wE (d_statement_in [.ref n] s) Q X:=by
 unfold d_statement_in;refine(yW (by rfl)).mpr ?_;obtain⟨⟨a1,a2⟩,⟨c1,c2⟩,⟨d1,d2⟩,hA⟩:=hz;show wC (b_statement_in [some (.ref n),none,none,none] s) _
 have em:(xG (.inr r)).map D.str=([D.str "call",.str r.nm,.str r.src.1,.str r.tgt.1,.str "["]++(jn "," (r.A.map yw)).map D.str++[.str "]"]):=by simp[xG]
 refine ziw (x:="call") (y:=r.nm) (ts:=([r.src.1,r.tgt.1,("[":Str)]:List Str)++jn "," (r.A.map yw)++([("]":Str)]:List Str)) (by rw[hn];simp[xG]) (by unfold Ltr;decide +kernel) a1 (by decide +kernel) (by omega) (by simp) λs1 p1=>?_;rw[em]at hn
 have at5:∀{s':S},Pf s s'->atD s' (.ref n) (.int 0)=some (.str (Str.ofString "call"))/\atD s' (.ref n) (.int 1)=some (.str r.nm)/\atD s' (.ref n) (.int 2)=some (.str r.src.1)/\atD s' (.ref n) (.int 3)=some (.str r.tgt.1)/\atD s' (.ref n) (.int 4)=some (.str (Str.ofString "["))/\atD s' (.ref n) (.int (-1))=some (.str (Str.ofString "]"))/\zbk s' (.ref n)=some ((jn "," (r.A.map yw)).length+6):=λ{s'} p=>by
  have h:=p _ _ hn;refine⟨?_,?_,?_,?_,?_,?_,?_⟩
  . rw[yM h,show(0:Int)=((0:Nat):Int)from rfl,atI_nat];rfl
  . rw[yM h,show(1:Int)=((1:Nat):Int)from rfl,atI_nat];rfl
  . rw[yM h,show(2:Int)=((2:Nat):Int)from rfl,atI_nat];rfl
  . rw[yM h,show(3:Int)=((3:Nat):Int)from rfl,atI_nat];rfl
  . rw[yM h,show(4:Int)=((4:Nat):Int)from rfl,atI_nat];rfl
  . rw[yM h];have:=zaF (G:=[("call":Str),r.nm,r.src.1,r.tgt.1,"["]++jn "," (r.A.map yw)) (t:="]");rw[sG,sG]at this;exact this
  . rw[vY h];simp
 have r1:=at5 p1;have ec:∀(s:S) (a b:String),eqD s (.str (Str.ofString a)) (.str (Str.ofString b))=some (decide ((Str.ofString a)=Str.ofString b)):=λs a b=>wk yf yf
 have d1':decide (Str.ofString "call"=Str.ofString "fun")=false:=by decide +kernel
 unfold SiA;generalize hE:SiB=En;simp[r1.1,ec,d1'];rw[← hE];unfold SiB;generalize hE:SiC=En;simp[r1.2.2.2.2.2.2];rw[decide_eq_true (by omega),yj];simp[r1.2.2.1];refine vQ c1 (by omega) λs2 p2=>?_;have p12:=p1.trans p2;have r2:=at5 p12;simp[r2.2.2.2.1];refine vQ d1 (by omega) λs3 p3=>?_;have p13:=p12.trans p3;have r3:=at5 p13;rw[← hE];unfold SiC;generalize hE:SiD=En;have d2':∀ a:String,decide (Str.ofString a=Str.ofString a)=true:=λa=>decide_eq_true rfl;simp[r3.1,ec,r3.2.2.2.2.1,r3.2.2.2.2.2.1];rw[← hE];unfold SiD;generalize hE:SiE=En;simp;refine P31.zhS (p13 _ _ hn) λs4 c p4 g4 _=>?_;rw[zgO]at g4;have p14:=p13.trans p4;refine zeC g4 hA lA ok lt λs5 f p5 lf g5=>?_;have p15:=p14.trans p5;have r5:=at5 p15
 try simp
 rw[← hE];unfold SiE;simp[r5.2.1,r5.2.2.1,r5.2.2.2.1];exact hQ s5 f p15 (sW p14.len lf) g5
end
end P83
namespace P83
open PySem Fc P1 P85 PB PC P41
open P20 (zX)
open P61 (Lot lD Lo)
open PW (dg ct Arcs wj Gd Wd uF)
section
def SmBL:Sm->Prop
 | .inl x=>x.1.length<=12
 | .inr r=>r.nm.length<=12/\r.src.1.length<=12/\r.tgt.1.length<=12/\r.A.length<=2000
end
end P83
namespace P81
open PySem Fc P1 P85 PB PC P83
open P20 (zX)
open P61 (Lot lD Lo)
open PW (wr vW xO ct Arcs wj GdL WdL uF)
section
variable{s s':S}{X:Xc}{Q:D->S->Prop}{P:Pst}{n f:Nat}{t x y m:Str}{zs zs':List Sm}{hs h1 h2:List (Str×Nat)}{l l1 l2:List Rw}{F:List Str}{k:Kd}{v0 v1 v2 v3 v4 v5:Option D}
theorem zmq(h:s[n]?=some (.lst (zs.map smD)))(ln:zs.length<=100000)(ha:∀ r,Sum.inr r∈zs->s[r.a]?=some (.lst (r.A.map aD)))(gd:GdL (ltS zs) (rtS zs))
   (hQ:∀ s' p m k,Pf s s'->s.length<=p->PA s' p m k (ltS zs) (rtS zs)->P.rt (.ref p) s') :
   wC (RdC [v0,v1,some (.ref n),v3,v4,v5] s) P:=by
 unfold RdC;simp;rw[zX h,zB];dsimp only;rw[tR];have l2:∀(s:S) (x:Str×Nat),zbk s (smD (.inl x))=some 2:=λs x=>rfl;have l4:∀(s:S) (r:Rw),zbk s (smD (.inr r))=some 4:=λs x=>rfl;refine zcm (fx:=smD) (λz:Sm=>z.getLeft?.map hD) h (by omega) (λz hz s2 p2=>⟨_,rfl,?_⟩) λs2 p2 g2=>?_
 . cases z with
   | inl x =>
     simp[l2,wipe,yN];exact⟨λn w o=>o,rfl⟩
   | inr r =>
     simp[l4,wipe,yN];exact λn w o=>o
 . have e1:(zs.filterMap λz:Sm=>z.getLeft?.map hD)=(ltS zs).map hD:=(pD ..).symm;rw[e1]at g2
   try simp
   rw[zX (p2 _ _ h),zB];dsimp only;rw[tR];refine zcm (fx:=smD) (λz:Sm=>z.getRight?.map rwD) (p2 _ _ h) (by omega) (λz hz s3 p3=>⟨_,rfl,?_⟩) λs3 p3 g3=>?_
   . cases z with
     | inl x =>
       simp[l2,wipe,yN];exact λn w o=>o
     | inr r =>
       simp[l4,wipe,yN];exact⟨λn w o=>o,rfl⟩
   . have e2:(zs.filterMap λz:Sm=>z.getRight?.map rwD)=(rtS zs).map rwD:=(pD ..).symm;rw[e2]at g3
     try simp
     have p23:=p2.trans p3;refine PW.zkI (p3 _ _ g2) g3 (λr hr=>?_) gd λs4 m k p4 pa=>?_
     . refine p23 _ _ (ha r ?_);obtain⟨z,hz,e⟩:=qw.mp hr
       cases z with
       | inl x=>cases e
       | inr q=>cases e;exact hz
     . exact hQ s4 _ m k (p23.trans p4) p23.len pa
theorem zmp(hn:s[n]?=some (.lst ((jn ";" (zs.map xG)).map .str)))(ok:∀ t∈jn ";" (zs.map xG),okS t)(lt:(jn ";" (zs.map xG)).length<900000)(lz:zs.length<=100000)
   (hz:∀ z∈zs,SmOk z) (hb:∀ z∈zs,SmBL z) (gd:GdL (ltS zs) (rtS zs))
   (hQ:∀ s' p m k,Pf s s'->s.length<=p->PA s' p m k (ltS zs) (rtS zs)->P.rt (.ref p) s') :
   wC (RdA [v0,some (.ref n),v2,v3,v4,v5] s) P:=by
 unfold RdA;generalize hE:RdB=En;simp;refine P83.jf (m:=";") hn ok yf lt λs1 r as p1 hr g1 lo nd new e=>?_;rw[zfF hz]at e;obtain⟨xs,e1,e2,e3⟩:=zipped e;subst e1
 have lx:xs.length<=100000:=by rw[e2,tR]at lz;exact lz
 rw[zX g1,zB];dsimp only;rw[tR,tR];rw[tW]at g1;refine P37.zfW (xs:=xs) (fx:=lD ∘ Prod.fst) (λp y s'=>SmV s1.length p.2 y s') g1 (by omega) (λp y s2 s3 ⟨z,h1,h2,h3⟩ hk=>⟨z,h1,h2,λr er=>⟨(h3 r er).1,hk _ (by have:=(h3 r er).1;omega) _ (h3 r er).2⟩⟩) (λp hp s2 p2 ⟨acc,hD⟩=>⟨_,rfl,?_⟩) λs2 acc p2 g2 al=>?_
 . have ld:=zq hD
   have gp:s2[p.1.1]?=some (.lst ((xG p.2).map .str)):=by
    rw[← e3 p hp];exact p2 _ _ (lo _ (sJ hp))
   have hm:p.2∈zs:=by rw[e2];exact sJ hp
   simp[wipe,lD];generalize p.2=z at gp hm ⊢;have mj:=zhC ";" (sJ (f:=xG) hm);have oz:=hz z hm;have bz:=hb z hm
   cases z with
   | inl x=>exact zdD gp oz bz λs3 p3=>⟨p3,.inl x,rfl,rfl,λr er=>nomatch er⟩
   | inr r =>
    have sub:∀ t∈jn "," (r.A.map yw),t∈xG (.inr r):=λt ht=>rH _ (qd _ ht)
    refine zeF gp oz bz.1 bz.2.1 bz.2.2.1 bz.2.2.2 (λt ht=>ok t (mj.1 t (sub t ht))) ?_ λs3 f p3 lf g3=>⟨p3,.inr { r with a:=f },rfl,rfl,λq er=>by cases er;exact⟨by show s1.length<f;omega,g3⟩⟩
    have h1:=mj.2
    have h2:(jn "," (r.A.map yw)).length<=(xG (.inr r)).length:=by simp[xG];omega
    omega
 . obtain⟨zs',f1,f2,f3⟩:=zeA al;rw[← e2]at f2;subst f1;obtain⟨c1,c2⟩:=zlD f2
   have ln:zs'.length=zs.length:=by simpa using congrArg List.length f2
   try simp
   rw[← hE];unfold RdB;generalize hE:RdC=En;simp
   have hz':∀ z∈zs',SmOk z:=λz h=>by
    have:smct z∈zs.map smct:=by rw[← f2];exact sJ h
    obtain⟨z0,m0,e0⟩:=tK.mp this;have o0:=hz z0 m0;cases z0 <;> cases z
    . cases e0;exact o0
    . cases e0
    . cases e0
    . rename_i q r;have e4:=PW.zbR (Sum.inr.inj e0);have key:SmOk (.inr q):=o0;show(Ltr r.nm/\1<=r.nm.length)/\(Ltr r.src.1/\1<=r.src.1.length)/\(Ltr r.tgt.1/\1<=r.tgt.1.length)/\∀ a∈r.A,a.1<4/\a.2.1<4;rw[← e4.1,← e4.2.1,← e4.2.2.1,← e4.2.2.2];exact key
   rw[zhP g2 hz' λr hr=>(f3 r hr).2,zB];simp;rw[← hE];have p12:=p1.trans p2;refine zmq g2 (by omega) (λr hr=>(f3 r hr).2) (by rw[c1];exact gd.ct c2) λs3 p m k p3 lp pa=>?_;rw[c1]at pa;exact hQ s3 p m k (p12.trans p3) (sW p12.len lp) (PW.PA.cts pa c2.symm)
theorem zjQ{k:Kd}(ht:tokF t.cps.toList [] .blank=some (jn ";" (zs.map xG),k))(lt:t.length<900000)(oc:okS t)(lz:zs.length<=100000)
   (hz:∀ z∈zs,SmOk z) (hb:∀ z∈zs,SmBL z) (gd:GdL (ltS zs) (rtS zs))
   (hQ:∀ s' p m k,Pf s s'->s.length<=p->PA s' p m k (ltS zs) (rtS zs)->Q (.ref p) s'):wE (d_read_program [.str t] s) Q X:=by
 unfold d_read_program;refine(yW (by rfl)).mpr ?_;rw[znW];generalize hE:RdA=En;simp;refine zdE lt (λc hc=>?_) (λh=>by rw[ht]at h;cases h) λF k' h1 ti s1 p1 g1=>?_
 . intro d hd
   have:d=c:=by
    have e:(one c).cps.toList=[c]:=rfl;rw[e]at hd;exact tV.mp hd
   rw[this];exact oc c hc
 . rw[ht,Option.some.injEq,Prod.mk.injEq]at h1;rw[← h1.1]at g1 ti;have l1:=ti.len
   try simp
   rw[← hE];exact zmp g1 (λt ht=>(ti.tk t ht).2) (by omega) lz hz hb gd λs2 p m k p2 lp pa=>hQ s2 p m k (p1.trans p2) (sW p1.len lp) pa
theorem zeB(gd:GdL hs l):∀ z∈zac hs l,SmOk z/\SmBL z:=λz hz=>by
 rcases tZ.mp hz with h | h
 . obtain⟨x,hx,rfl⟩:=tK.mp h;obtain⟨a1,a2,a3⟩:=gd.wd.hn x hx;exact⟨⟨a1,gd.n1 x hx,a3⟩,a2⟩
 . obtain⟨r,hr,rfl⟩:=tK.mp h;obtain⟨a1,a2,a3,a4,a5,a6⟩:=gd.wd.ln r hr;obtain⟨b1,b2,_⟩:=gd.wd.hn _ a3;obtain⟨c1,c2,_⟩:=gd.wd.hn _ a4;exact⟨⟨⟨a1,gd.m1 r hr⟩,⟨b1,gd.n1 _ a3⟩,⟨c1,gd.n1 _ a4⟩,gd.wd.arcs hr⟩,a2,b2,c2,a6⟩
theorem zjK(gd:GdL hs l):(zac hs l).length<=40:=by
 have:=gd.wd.hl;have:=gd.wd.ll;simp[zac];omega
theorem zpk(gd:GdL hs l):(wr hs l).length<=700000:=by
 have h:=PW.jM (sep:="; ") (B:=16100) gd.wd.zdL;have:=gd.wd.hl;have:=gd.wd.ll;rw[PW.zpm,sY,tR,tR]at h;unfold wr;omega
theorem zeE(gd:GdL hs l)(hQ:∀ s' p m k,Pf s s'->s.length<=p->PA s' p m k hs l->Q (.ref p) s'):wE (d_read_program [.str (wr hs l)] s) Q X:=by
 obtain⟨k,e⟩:=zkP (zs:=zac hs l) (λz hz=>(zeB gd z hz).1) [] .blank ⟨by simp,by simp⟩;rw[← zkU,qu]at e;have h:=zpk gd;have hl:=zjK gd;refine zjQ e (by omega) gd.wd.ok (by omega) (λz hz=>(zeB gd z hz).1) (λz hz=>(zeB gd z hz).2) (by rw[zal.1,zal.2];exact gd) λs' p m k f lp pa=>hQ s' p m k f lp ?_;rw[zal.1,zal.2]at pa;exact pa
end
end P81
namespace P81
open PySem Fc P1 P85 PB PC P83
open P20 (zX)
open PW (dg wj Arcs Gd Wd wr)
noncomputable section
def BgD:C:=(zG (zR (e2 yq (eLc [12] (yd .seq (eC (.str "abcdef"))) (gName 12) tYes (e2 yq (e2 yq (eC (.str "fun ")) (zg 12)) (eC (.str " 0")))) (eLc [12] (yd .seq (eC (.str "abcdefghijk"))) (gName 12) tYes (e2 yq (e2 yq (eC (.str "call c")) (zg 12)) (eC (.str " a b []"))))) (gName 11))
 (zG (zR (eC (.bl false)) (gName 13))
 (zG (zjZ ["CallsError","InvalidList","InvalidFunction","InvalidCall","InvalidProgram","InvalidText"]
 (yE (zE d_read_program [] (za (zaw (eC (.str "; ")) (zg 11)) zj)))
 (zR (eC (.bl true)) (gName 13)))
 (zY (uH (zax (tE (zg 13))) (e2 oEq (uC "Program" "functions" PW.d_Program_functions [] (zE d_read_program [] (za (e2 yq (e2 zeo (eC (.str " ")) (eC (.int 19993))) (eC (.str "fun f 1"))) zj)) zj) (eN zQ (za (eN ye (za (eC (.str "f")) (za (eC (.int 1)) zj))) zj))))))))
def BgC:C:=(zG (cIf (tB (e2 oNe (uC "Program" "calls" PW.d_Program_calls [] (zE d_read_program [] (za (zE PW.d_text_of [] (za (zg 10) zj)) zj)) zj) (eN zQ (za (eN ye (za (eC (.str "c")) (za (eC (.str "f")) (za (eC (.str "f")) (za (zg 9) zj))))) zj))))
 (zY (eC (.bl false)))
 yL) BgD)
def BgB:C:=(zG (zR (vD "Program" P85.d_Program_init [] (za (eN zQ (za (eN ye (za (eC (.str "f")) (za (eC (.int 3)) zj))) zj)) (za (eN zQ (za (eN ye (za (eC (.str "c")) (za (eC (.str "f")) (za (eC (.str "f")) (za (zg 9) zj))))) zj)) zj))) (gName 10)) BgC)
def BgA:C:=(zG (zR (eLc [5] (xm (eC (.int 0)) (eC (.int 1600))) (gName 5) tYes (eN ye (za (e2 oMod (zg 5) (eC (.int 3))) (za (e2 oMod (e2 oDiv (zg 5) (eC (.int 3))) (eC (.int 3))) (za (e2 oEq (e2 oMod (zg 5) (eC (.int 2))) (eC (.int 0))) zj))))) (gName 9)) BgB)
end
def A16:List Arc:=(List.range 1600).map λt=>(t%3,t / 3%3,t%2 == 0)
def arO:D->Option D
 | .int i=>some (aD (i.toNat%3,i.toNat / 3%3,i.toNat%2 == 0))
 | _=>none
def zdM(a:Nat):Rw:=⟨"c",("f",3),("f",3),A16,a⟩
def ziP:List (Str×Nat):=[("f",3)]
section
variable{s s':S}{P:Pst}{n f d m k p a:Nat}{v0 v1 v2 v3 v4 v5 v6 v7 v8 v9 v10 v11 v12 v13:Option D}
theorem zmN:∀ a∈A16,a.1<3/\a.2.1<3:=λa ha=>by
 obtain⟨t,_,rfl⟩:=tK.mp ha;exact⟨Nat.mod_lt _ (by decide),Nat.mod_lt _ (by decide)⟩
theorem zrY(a:Nat):PW.GdL ziP [zdM a] where
 wd:={
  hn:=λx hx=>by
   rw[tV.mp hx];exact⟨by unfold Ltr;decide +kernel,by decide +kernel,by decide⟩
  hl:=by decide
  ln:=λr hr=>by
   rw[tV.mp hr];exact⟨by show Ltr (Str.ofString "c");unfold Ltr;decide +kernel,by show(Str.ofString "c").length<=12;decide +kernel,tV.mpr rfl,tV.mpr rfl,zmN,by show A16.length<=2000;simp[A16]⟩
  ll:=by simp }
 n1:=λx hx=>by
  rw[tV.mp hx];decide +kernel
 m1:=λx hx=>by
  rw[tV.mp hx];show 1<=(Str.ofString "c").length;decide +kernel
 nd:=by simp[ziP]
 nl:=by simp
theorem zog(hQ:∀ s' n,Pf s s'->s'[n]?=some (.lst (A16.map aD))->wC (BgB [v0,v1,v2,v3,v4,v5,v6,v7,v8,some (.ref n),v10,v11,v12,v13] s') P) :
   wC (BgA [v0,v1,v2,v3,v4,v5,v6,v7,v8,v9,v10,v11,v12,v13] s) P:=by
 unfold BgA;generalize hE:BgB=En;simp;rw[show small 1600=true by decide,yj,show(1600:Int)=((1600:Nat):Int)from rfl,P35.zdA];refine zaB arO (by simp) (λd hd s3 p3=>?_) λs3 p3 h3=>?_
 . obtain⟨i,hi,rfl⟩:=tK.mp hd;refine⟨_,rfl,?_⟩;simp[Fc.wipe];refine⟨Pf.refl,?_⟩;rw[show decide (bits 3<8000)=true by decide +kernel,yj,yN,zB];refine⟨Pf.refl,?_⟩
   have e2:((i:Int)%2 == 0)=(i%2 == 0):=by
    rw[qZ,beq_iff_eq,beq_iff_eq];omega
   rw[e2];rfl
 . have e1:((List.range 1600).map λi:Nat=>D.int (i:Int)).filterMap arO=A16.map aD:=by
    unfold A16;rw[tW,qO,← qP];rfl
   rw[e1]at h3
   try simp
   rw[← hE];exact hQ _ _ p3 h3
theorem zoh(hA:s[n]?=some (.lst (A16.map aD)))
  (hQ:∀ s' v10,Pf s s'->wC (BgD [v0,v1,v2,v3,v4,v5,v6,v7,v8,some (.ref n),v10,v11,v12,v13] s') P) :
  wC (BgB [v0,v1,v2,v3,v4,v5,v6,v7,v8,some (.ref n),v10,v11,v12,v13] s) P:=by
 unfold BgB;generalize hE:BgC=En;simp;have p1:Pf s (s++[O.lst (ziP.map hD),O.lst ([zdM n].map rwD)]):=Pf.app
 have g1:(s++[O.lst (ziP.map hD),O.lst ([zdM n].map rwD)])[s.length]?=some (.lst (ziP.map hD)):=by
  rw[rW (tX _),Nat.sub_self];rfl
 have g2:(s++[O.lst (ziP.map hD),O.lst ([zdM n].map rwD)])[s.length+1]?=some (.lst ([zdM n].map rwD)):=by
  rw[rW (by omega),show s.length+1 - s.length=1 by omega];rfl
 have el:s.length+2=(s++[O.lst (ziP.map hD),O.lst ([zdM n].map rwD)]).length:=by simp
 have es:s++[O.lst [.tup [.str "f",.int 3]],O.lst [.tup [.str "c",.str "f",.str "f",.ref n]],O.ins "Program" []]=(s++[O.lst (ziP.map hD),O.lst ([zdM n].map rwD)])++[O.ins "Program" []]:=by
  simp[ziP,zdM,hD,rwD]
 rw[es,el]
 have ha:Arcs (s++[O.lst (ziP.map hD),O.lst ([zdM n].map rwD)]) [zdM n]:=λr hr=>by
  rw[tV.mp hr];exact p1 _ _ hA
 have gd:=zrY n;refine PW.zkI g1 g2 ha gd λs3 m3 k3 p3 pa=>?_
 try simp
 rw[← hE];unfold BgC;generalize hE:BgD=En;have p13:=p1.trans p3;rw[← el]at pa;simp;refine PW.zeG pa gd.wd λs4 p4=>?_
 try simp
 refine zeE gd λs5 p m k p5 lp pa5=>?_
 try simp
 rw[P83.zri pa5,yj];refine PW.zcN pa5 (by simp) λs6 nn l' p6 h6 ec ha' _=>?_;have p16:=p13.trans ((p4.trans p5).trans p6)
 try simp
 have p7:Pf s6 (s6++[O.lst ([zdM n].map rwD)]):=Pf.app;have g7:=zJ (s:=s6) (o:=O.lst ([zdM n].map rwD))
 have ha7:Arcs (s6++[O.lst ([zdM n].map rwD)]) [zdM n]:=λr hr=>by
  rw[tV.mp hr];exact p7 _ _ (p16 _ _ hA)
 have e7:eqD (s6++[O.lst ([zdM n].map rwD)]) (.ref nn) (.ref s6.length)=some true:=PW.zjb gd.wd g7 (p7 _ _ h6) ha7 (Arcs.pf ha' p7) ec;have es7:s6++[O.lst [.tup [.str "c",.str "f",.str "f",.ref n]]]=s6++[O.lst ([zdM n].map rwD)]:=rfl;rw[es7,e7];simp;rw[← hE];exact hQ _ _ (p16.trans p7)
end
def zhc:List Str:=["a","b","c","d","e","f"]
def zgN:List Str:=["a","b","c","d","e","f","g","h","i","j","k"]
def hs17:List (Str×Nat):=zhc.map λx=>(x,0)
def l17:List Rw:=zgN.map λx=>⟨("c":Str)++x,("a",0),("b",0),[],0⟩
def fT(x:Str):Str:=(("fun ":Str)++x)++(" 0":Str)
def cT(x:Str):Str:=(("call c":Str)++x)++(" a b []":Str)
def zoQ:List Str:=zhc.map fT++zgN.map cT
def zrf:D->Option D
 | .str x=>some (.str (fT x))
 | _=>none
def zrc:D->Option D
 | .str x=>some (.str (cT x))
 | _=>none
section
variable{s s':S}{P:Pst}{n B f e d k a:Nat}{v0 v1 v2 v3 v4 v5 v6 v7 v8 v9 v10 v11 v12 v13:Option D}
theorem zrZ:Gd hs17 l17:=PB.zkn (by decide +kernel)
theorem zqM:hs17.map PW.vW++l17.map PW.xO=zoQ:=by decide +kernel
theorem zfB:∀(k:Nat) (acc:Array Nat),(List.foldl (λx1 x2=>x1++x2) acc (List.replicate k #[32])).toList=acc.toList++List.replicate k 32
 | 0,acc=>by simp
 | k+1,acc=>by
  rw[qF,rP,zfB k (acc++#[32]),qF];simp
theorem zeu(k:Nat):(zim " " k).cps.toList=List.replicate k 32:=by
 have h:=zfB k #[]
 have e:(Str.ofString " ").cps=#[32]:=by decide +kernel
 unfold zim;rw[e];simpa using h
theorem zme(k:Nat):(zim " " k).length=k:=by
 rw[len_list,zeu,List.length_replicate]
def hsF:List (Str×Nat):=[("f",1)]
theorem gdF:Gd hsF []:=PB.zkn (by decide +kernel)
theorem tkF:∃ kd,tokF (zim " " 19993++("fun f 1":Str)).cps.toList [] .blank=some (jn ";" (([.inl ("f",1)]:List Sm).map xG),kd):=by
 have h1:tokF (zim " " 19993).cps.toList [] .blank=some ([],.blank):=by
  rw[zeu,zbJ (λc hc=>by rw[(List.mem_replicate.mp hc).2];decide +kernel)];split <;> rfl
 obtain⟨kd,h2⟩:=zkO (x:=("f",1)) (by unfold Ltr;decide +kernel) (by decide +kernel) (by decide) [] .blank ⟨by simp,by simp⟩;refine⟨kd,?_⟩;rw[km,yZ h1]
 have e:PW.vW ("f",1)=("fun f 1":Str):=by decide +kernel
 rw[e]at h2;exact h2
theorem zoR:∀ t∈zoQ,t.length<=20:=by decide +kernel
theorem zoi(hQ:∀ s',P.rt (.bl true) s'):wC (BgD [v0,v1,v2,v3,v4,v5,v6,v7,v8,v9,v10,v11,v12,v13] s) P:=by
 unfold BgD;generalize hE:zG (zR (eC (.bl false)) _) _=En;have e1:srcOf Src.seq (D.str (Str.ofString "abcdef")) s=some (.vals (zhc.map .str)):=rfl;simp;rw[e1,zB];dsimp only;refine zaB zrf (by simp[zhc]) (λd hd s3 p3=>?_) λs3 p3 h3=>?_
 . obtain⟨x,hx,rfl⟩:=tK.mp hd;have lx:x.length<=1:=(by decide +kernel:∀ x∈zhc,x.length<=1) x hx
   have a1:(Str.ofString "fun ").length=4:=by decide +kernel
   have a2:(Str.ofString " 0").length=2:=by decide +kernel
   refine⟨_,rfl,?_⟩;simp[Fc.wipe];rw[xY (by omega),yj,xY (by rw[len_app];omega),yj];exact⟨Pf.refl,Pf.refl,rfl⟩
 . have e3:(zhc.map D.str).filterMap zrf=(zhc.map fT).map .str:=by
     rw[qO,tW,← qP];rfl
   rw[e3]at h3;have e2:srcOf Src.seq (D.str (Str.ofString "abcdefghijk")) s3=some (.vals (zgN.map .str)):=rfl
   try simp
   rw[e2,zB];dsimp only;refine zaB zrc (by simp[zgN]) (λd hd s4 p4=>?_) λs4 p4 h4=>?_
   . obtain⟨x,hx,rfl⟩:=tK.mp hd;have lx:x.length<=1:=(by decide +kernel:∀ x∈zgN,x.length<=1) x hx
     have a1:(Str.ofString "call c").length=6:=by decide +kernel
     have a2:(Str.ofString " a b []").length=7:=by decide +kernel
     refine⟨_,rfl,?_⟩;simp[Fc.wipe];rw[xY (by omega),yj,xY (by rw[len_app];omega),yj];exact⟨Pf.refl,Pf.refl,rfl⟩
   . have e4:(zgN.map D.str).filterMap zrc=(zgN.map cT).map .str:=by
      rw[qO,tW,← qP];rfl
     rw[e4]at h4
     try simp
     have h34:=p4 _ _ h3;rw[zaa h34 h4 (by simp[zhc,zgN])];have p5:Pf s4 (s4++[O.lst ((zhc.map fT).map .str++(zgN.map cT).map .str)]):=Pf.app
     have h5:(s4++[O.lst ((zhc.map fT).map .str++(zgN.map cT).map .str)])[s4.length]?=some (.lst (zoQ.map .str)):=by
      rw[zJ];unfold zoQ;rw[sG]
     generalize s4.length=n at *;generalize s4++[O.lst ((zhc.map fT).map D.str++(zgN.map cT).map D.str)]=s5 at *;rw[← hE];simp;rw[PW.kY (B:=20) h5 zoR (by decide +kernel),zB];rw[show Txt.join (Str.ofString "; ") zoQ=wr hs17 l17 by rw[← zqM];rfl];refine zck zrZ λs6 p6 m6 k6 q6 lp6 pa6=>?_;rw[znI (by decide +kernel)];have lr:=zme 19993
     have lf:(Str.ofString "fun f 1").length=7:=by decide +kernel
     rw[show Int.toNat 19993=19993 from rfl];simp;rw[xY (by rw[lr,lf];omega),yj];obtain⟨kd,ek⟩:=tkF;refine zcP (zs:=[.inl ("f",1)]) ek (by rw[len_app,lr,lf];omega) (yg (λc hc=>by rw[zeu]at hc;rw[(List.mem_replicate.mp hc).2];omega) yf) (by simp) (λz hz=>by rw[tV.mp hz];exact⟨by unfold Ltr;decide +kernel,by decide +kernel,by decide⟩) (λz hz=>by rw[tV.mp hz];show(Str.ofString "f").length<=12;decide +kernel) gdF λs7 p7 m7 k7 q7 lp7 pa7=>?_;rw[P83.zrj pa7,yj];refine PW.uW pa7 ?_;have p8:Pf s7 (s7++[O.lst (hsF.map hD)]):=Pf.app;have h8:(s7++[O.lst (hsF.map hD)])[s7.length]?=some (.lst (hsF.map hD)):=zJ;have e8:s7++[O.lst ((ltS [Sum.inl ((Str.ofString "f"),1)]).map hD)]=s7++[O.lst (hsF.map hD)]:=rfl;rw[e8];generalize s7.length=a at *;generalize s7++[O.lst (hsF.map hD)]=s8 at *;have p9:Pf s8 (s8++[O.lst (hsF.map hD)]):=Pf.app;have e9:eqD (s8++[O.lst (hsF.map hD)]) (.ref a) (.ref s8.length)=some true:=PL.zkk gdF (p9 _ _ h8) zJ;have es9:s8++[O.lst [.tup [.str "f",.int 1]]]=s8++[O.lst (hsF.map hD)]:=rfl;rw[es9,e9,zB];exact hQ _
end
end P81
namespace P81
open PySem Fc P1 P85 PB PC P83
open P20 (zX)
theorem zlz:b_law=zG (xf (xm (eC (.int 0)) (eC (.int 4))) (gName 1) Ce) BgA:=rfl
def ILw(ns:List Int)(r:List D)(σ:Fc.Env)(s':S):Prop:=∃(post:List Nat) (b1 b2 b3 b4 b5 b6 b7 b8 b9 b10 b11 b12 b13:Option D),(∀ x∈post,x<4)/\r=post.map (λi:Nat=>D.int (i:Int))/\σ=[some (.rol (ns.map .int)),b1,b2,b3,b4,b5,b6,b7,b8,b9,b10,b11,b12,b13]
theorem znP(ns:List Int):∃ s',d_law [.rol (ns.map .int)] []=some (.ok (.bl true) s'):=by
 have key:wE (d_law [.rol (ns.map .int)] []) (λd _=>d=.bl true) (λ_ _ _=>False):=by
  unfold d_law;refine(yW (by rfl)).mpr ?_;rw[zlz];generalize hB:Ce=Bd;generalize hE:BgA=En;simp;rw[show small 4=true by decide,yj,show(4:Int)=((4:Nat):Int)from rfl,P35.zdA];refine xZ (ILw ns) _ ⟨List.range 4,_,_,_,_,_,_,_,_,_,_,_,_,_,λx hx=>List.mem_range.mp hx,rfl,rfl⟩ ?_ ?_
  . rintro d r σ s2 ⟨post,b1,b2,b3,b4,b5,b6,b7,b8,b9,b10,b11,b12,b13,hp,er,rfl⟩
    cases post with
    | nil=>cases er
    | cons x post =>
     rw[tM,List.cons.injEq]at er;obtain⟨rfl,rfl⟩:=er;refine⟨_,rfl,?_⟩;rw[← hB]
     exact zqB (c:=x) (ns:=ns) (hp x (tH)) λs' b2 b3 b4 b5 b6 b7 b8=>⟨post,_,_,_,_,_,_,_,_,_,_,_,_,_,λy hy=>hp y (tQ _ hy),rfl,rfl⟩
  . rintro σ s2 ⟨post,b1,b2,b3,b4,b5,b6,b7,b8,b9,b10,b11,b12,b13,hp,er,rfl⟩
    try simp
    rw[← hE];refine zog λs3 n p3 h3=>?_;exact zoh h3 λs4 v10 p4=>zoi λs5=>rfl
 obtain⟨x,s',e,rfl⟩:=zpc key;exact⟨s',e⟩
end P81
namespace Law_k81
theorem law_same:d_law=P81.d_law:=rfl
theorem pure_law(ns:List Int)(_:ns.length<=63):∃ s',d_law [.rol (ns.map Fc.D.int)] []=some (.ok (.bl true) s'):=by
 rw[law_same];exact P81.znP ns
end Law_k81
-- KEEP
open PySem PySem.W PySem.Calls PyProof.Rows
theorem PySem.Challenge.cw_fallingcalls_k81_programs_read_holds : PySem.Challenge.rw_fallingcalls_k81_programs_read.Holds := by
  w_on; o_law
  refine HandSHeadRun.head_any (r := OpenLaw.row PySem.Challenge.rw_fallingcalls_k81_programs_read) (q := view (OpenLaw.row PySem.Challenge.rw_fallingcalls_k81_programs_read).prog [50]) (H := Law_k81.hk) (ob := Law_k81.ob) (M := 6000) (loose := Law_k81.loose) (d := HandSHeadRun.topDef (OpenLaw.row PySem.Challenge.rw_fallingcalls_k81_programs_read).prog 50) (kwd := []) Law_k81.zql
    (by kernel_rfl) (fun s => by kernel_rfl) Law_k81.run (by kernel_rfl) (by kernel_rfl) (by kernel_rfl) (by rfl) (by first | assumption | decide +kernel) (by decide +kernel) ⟨rfl, rfl, rfl, rfl, rfl, by decide +kernel⟩ ?hw ?hc
  case hw => w_witness2
  case hc =>
    refine Fc.zjX (l := PySem.Challenge.rw_fallingcalls_k81_programs_read) (n := 63) (k := 7) (x := "_law_script") (Fn := Law_k81.d_law) rfl (by decide) (by kernel_rfl) Fc.zdS Law_k81.pure_law ?F
    intro w mg fa h Y G hmg0
    obtain ⟨K, KX, c, cx, ce⟩ := Y
    have hmg : mg ("law" : PySem.Str) = some (.ref fa) := by
      have e : (HandSHeadRun.topDef (OpenLaw.row PySem.Challenge.rw_fallingcalls_k81_programs_read).prog 50).name = ("law" : PySem.Str) := by kernel_rfl
      rw [← e]
      exact hmg0
    obtain ⟨fd, hb, hF⟩ := Law_k81.facts (P := (PySem.Challenge.rw_fallingcalls_k81_programs_read).prog) (w := w) KX G hmg c cx ce rfl (by kernel_rfl)
    exact ⟨K, Law_k81.cmK K w, fd, KX, hb, hF⟩
