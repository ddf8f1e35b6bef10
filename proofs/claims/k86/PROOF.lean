import PyProof.Rows.All
import HandS.ForMost
import KE.KeyNested
import HandS.ForExc
import HandS.Flow
import HandS.TupAny
import HandS.Deep
import HandS.Wide
import HandS.WideBits
import HandS.Style
import PyProof.Rows.RuleB_pow
import HandS.IsInst
import HandS.ExcField
import HandS.ExcIs
import HandS.Defaults
import HandS.HeadEnd
import HandS.HeadHook4
import KE.SortData
import HandS.TupSets
import HandS.SortRule
import PyProof.ReprRoads
import HandS.Ends
import HandS.Head0
import HandS.Head1
import HandS.Head2
import KE.KStateDown
import HandS.Codes
import PyProof.InstNe
import HandS.DictTup
import HandS.Iter
import KE.KDictItemsList
import KE.KDictWalk
import HandS.Conv
import KE.KExcSuper
import HandS.ExcInit
import HandS.ExcValue
import HandS.Dict
import HandS.More
import HandS.TupLen
import PyProof.Rows.TupTab
import HandS.DictComp
import HandS.Text
import HandS.RaiseMore
import KE.SortCalls
import HandS.TryOnly
import HandS.ExcOwn
import PyProof.EqKinds
import PyProof.InstSpecial
import KE.KIndexOf
import Wide.All
import OpenK.AllK
import PyProof.ZipIter
import PyProof.CallType
import PyProof.Rows.CallKwBuiltin
import HandS.SortKw
import PyProof.MinMaxWalk
import PyProof.WalkInts
import PyProof.Methods
import HandS.FltList
import HandS.DictEq
import HandS.Finally
import HandS.Strs
import HandS.SetIn
import PyProof.SetRoads
import HandS.HotCalls
import HandS.ExcCtx
import PyProof.StrLawsRepr
import PyProof.ReprBulk
import PyProof.ReprText
import PyProof.Rows.ReprOcc
import PyProof.Rows.SortStr
import PyProof.Rows.StrMeet
import PyProof.StrBlockL
import HandS.TupMul
import KE.LtData
import KE.SortUse
import HandS.Zip
import KE.KTupSum
import KE.KDictPairs
import KE.GoesMore
import KE.DataCmp
import KE.KDictZip
import KE.KDictExact
import HandS.SetFor
import PySem.Challenge.RW_fallingcalls_k86_whole_greatest_values
set_option Elab.async false
set_option linter.all false
set_option maxRecDepth 100000
set_option maxHeartbeats 4000000
theorem tH {α:Type _} {a:α} {l:List α}:a∈a::l:=List.mem_cons_self ..
abbrev tK:=@List.map_cons
abbrev tM:=@List.mem_map
abbrev tQ:=@List.getElem?_eq_getElem
abbrev tR:=@List.mem_cons
abbrev tU:=@List.getElem?_map
abbrev tV:=@List.mem_cons_of_mem
abbrev tW:=@Option.map_eq_some_iff
abbrev tX:=@Nat.le_refl
abbrev tY:=@Ne.symm
abbrev tZ:=@List.mem_append
abbrev su:=@List.getElem?_eq_some_iff
abbrev sE:=@Option.map_some
abbrev sG:=@Bool.and_eq_true
abbrev sH:=@List.all_eq_true
abbrev sJ:=@List.append_nil
abbrev sO:=@List.map_map
abbrev sS:=@List.mem_singleton
abbrev sU:=@List.getD_eq_getElem?_getD
abbrev sV:=@List.map_append
abbrev sW:=@List.foldl_cons
abbrev sX:=@List.getElem?_append_left
abbrev sY:=@List.getElem?_set_self
abbrev rA:=@List.length_map
abbrev rC:=@Bool.and_self
abbrev rD:=@List.filterMap_cons
abbrev rE:=@Bool.and_eq_true_iff
abbrev rF:=@Nat.mod_lt
abbrev rG:=@List.length_cons
abbrev rH:=@List.mem_of_getElem?
abbrev rJ:=@Nat.zero_le
abbrev rK:=@List.not_mem_nil
abbrev rM:=@List.getElem_mem
abbrev rN:=@Nat.le_trans
abbrev rO:=@List.drop_eq_getElem_cons
abbrev rQ:=@List.find?_cons
abbrev rR:=@Bool.false_eq_true
abbrev rW:=@List.length_pos_iff
abbrev rY:=@List.nodup_append
abbrev qb:=@Nat.ne_of_lt
abbrev qd:=@List.mem_iff_getElem
abbrev qj:=@Nat.mod_eq_of_lt
abbrev ql:=@List.getElem?_set_ne
abbrev qm:=@Option.bind_eq_some_iff
abbrev qp:=@List.getElem?_append_right
abbrev qu:=@List.map_nil
abbrev qw:=@List.foldl_append
abbrev qC:=@List.map_set
abbrev qD:=@List.any_cons
abbrev qF:=@List.getElem?_range
abbrev qG:=@List.length_append
abbrev qH:=@List.filter_cons
abbrev qI:=@List.getElem?_set
abbrev qJ:=@Bool.false_ne_true
abbrev qK:=@List.any_eq_false
abbrev qL:=@List.drop_eq_nil_of_le
abbrev qM:=@List.map_congr_left
abbrev qN:=@List.getElem_map
abbrev qO:=@List.mem_append_left
abbrev qP:=@List.nil_append
abbrev qQ:=@List.cons_append
abbrev qR:=@Bool.or_eq_true
abbrev qT:=@List.getElem?_eq_none
abbrev qU:=@List.getElem?_cons_zero
abbrev qW:=@List.nodup_cons
abbrev qX:=@List.mem_filter
abbrev qY:=@Int.eq_ofNat_of_zero_le
abbrev qZ:=@List.eq_nil_of_length_eq_zero
abbrev ph:=@List.ext_getElem?
abbrev pq:=@Nat.le_succ
abbrev pA:=@List.nodup_nil
abbrev pB:=@Nat.ne_of_gt
abbrev pC:=@Nat.lt_irrefl
abbrev pD:=@List.mem_append_right
abbrev pF:=@List.flatMap_cons
abbrev pG:=@List.flatMap_nil
abbrev pH:=@List.mem_range
abbrev pJ:=@List.mem_flatMap
abbrev pK:=@List.take_of_length_le
abbrev pM:=@List.sum_cons
abbrev pN:=@List.length_eq_zero_iff
abbrev pO:=@List.flatten_cons
abbrev pU:=@List.all_cons
abbrev pW:=@List.mem_cons_self
abbrev pX:=@Classical.choose_spec
abbrev pY:=@List.size_toArray
abbrev pZ:=@List.find?_eq_none
abbrev oh:=@List.mergeSort_perm
abbrev ou:=@List.append_assoc
abbrev oA:=@List.length_set
abbrev oE:=@List.replicate_succ
abbrev oF:=@List.getElem?_replicate
abbrev oG:=@List.mem_iff_getElem?
abbrev oH:=@List.zip_cons_cons
abbrev oJ:=@List.getElem?_cons_succ
abbrev oK:=@List.set_cons_zero
abbrev oM:=@List.set_cons_succ
abbrev oN:=@List.mem_of_find?_eq_some
abbrev oO:=@Nat.lt_of_lt_of_le
abbrev oR:=@List.mem_of_mem_drop
abbrev oU:=PySem.W.Frag
namespace Fc
open PySem
inductive D where
 | non | bl (b:Bool) | int (i:Int) | str (x:Str) | tup (ds:List D) | rol (ds:List D) | ref (n:Nat) | stu (ds:List D)
inductive O where
 | lst (ds:List D) | dK (kvs:List (L2.Key×D)) | dT (kvs:List (List L2.Key×D))
 /-- a dict whose keys are tuples of any depth -/
 | dN (kvs:List (D×D))
 | ins (c:Str) (fs:List (Str×D)) | err (c:Str) (fs:List (Str×D)) | lck (o:O)
abbrev S:=List O
inductive Res(a:Type) where
 | ok (x:a) (s:S) | exc (c:Str) (fs:List (Str×D)) (s:S)
abbrev M(a:Type):=S->Option (Res a)
def ret{a:Type}(x:a):M a:=λs=>some (.ok x s)
def stuck{a:Type}:M a:=λ_=>none
def bnd{a b:Type}(m:M a)(k:a->M b):M b:=λs=>match m s with
 | none=>none
 | some (.ok x s')=>k x s'
 | some (.exc c fs s')=>some (.exc c fs s')
abbrev Env:=List (Option D)
abbrev E:=Env->M D
abbrev T:=Env->M Bool
abbrev EL:=Env->M (List D)
def unl:O->O
 | .lck o=>o
 | o=>o
def rd(s:S)(n:Nat):Option O:=(s[n]?).map unl
def new(o:O):M D:=λs=>some (.ok (.ref s.length) (s++[o]))
def yu(s:S)(n:Nat):Option (List D):=match s[n]? with
 | some (.lst ds)=>some ds
 | _=>none
def zqh(n:Nat)(f:O->Option (O×D)):M D:=λs=>match s[n]? with
 | some o=>match f o with
  | some (o',d)=>some (.ok d (s.set n o'))
  | none=>none
 | none=>none
def keyOf:D->Option L2.Key
 | .int i=>some (.inl i)
 | .str x=>some (.inr x)
 | _=>none
def keysOf:List D->Option (List L2.Key)
 | []=>some []
 | d::r=>match keyOf d,keysOf r with
  | some k,some ks=>some (k::ks)
  | _,_=>none
def dOf:L2.Key->D
 | .inl i=>.int i
 | .inr x=>.str x
mutual
def nkey:D->Option NestedKey
 | .non=>some .none
 | .bl b=>some (.num (if b=true then 1 else 0))
 | .int i=>some (.num i)
 | .str x=>some (.text x)
 | .tup ds=>(nkeys ds).map .tup
 | .rol _=>none
 | .ref _=>none
 | .stu _=>none
def nkeys:List D->Option (List NestedKey)
 | []=>some []
 | d::r=>match nkey d,nkeys r with
  | some k,some ks=>some (k::ks)
  | _,_=>none
end
def nkT(d:D):Option NestedKey:=match d with
 | .tup ds=>match nkeys ds with
  | some ks=>if (NestedKey.tup ks).depth<=8 then some (.tup ks)else none
  | none=>none
 | _=>none
variable{κ:Type}[DecidableEq κ]
def kget(kvs:List (κ×D))(k:κ):Option D:=(kvs.find? λkv=>decide (kv.1=k)).map (·.2)
def kput(kvs:List (κ×D))(k:κ)(v:D):List (κ×D) :=
 if (kvs.any λkv=>decide (kv.1=k))=true then kvs.map λkv=>if kv.1=k then (kv.1,v)else kv else kvs++[(k,v)]
def dget(o:O)(k:D):Option (Option D):=match o with
 | .dK kvs=>(keyOf k).map λk=>kget kvs k
 | .dT kvs=>match k with
  | .tup ds=>(keysOf ds).map λks=>kget kvs ks
  | _=>none
 | _=>none
def dput(o:O)(k v:D):Option O:=match o with
 | .dK kvs=>if kvs.length<16777216 then (keyOf k).map λk=>.dK (kput kvs k v)else none
 | .dT kvs=>if kvs.length<16777216 then match k with
  | .tup ds=>(keysOf ds).map λks=>.dT (kput kvs ks v)
  | _=>none else none
 | _=>none
def sz(n:Nat):Bool:=decide (n<=16777216)
def truth(s:S):D->Option Bool
 | .non=>some false
 | .bl b=>some b
 | .int i=>some (i != 0)
 | .str x=>if sz x.length then some (((x.length:Nat):Int) != 0)else none
 | .tup ds=>some (!ds.isEmpty)
 | .rol ds=>some (!ds.isEmpty)
 | .stu ds=>some (!ds.isEmpty)
 | .ref n=>match s[n]? with
  | some (.lst ds)=>some (!ds.isEmpty)
  | some (.dK kvs)=>some (!kvs.isEmpty)
  | _=>none
mutual
def dat(s:S):Nat->D->Option PyData
 | _,.non=>some .none
 | _,.bl b=>some (.bool b)
 | _,.int i=>some (.int i)
 | _,.str x=>some (.str x)
 | 0,.tup _=>none
 | 0,.ref _=>none
 | 0,.stu _=>none
 | _,.rol _=>none
 | n+1,.tup ds=>(dats s n ds).map .tuple
 | n+1,.stu ds=>(dats s n ds).map .tuple
 | n+1,.ref a=>match yu s a with
  | some ds=>(dats s n ds).map .list
  | none=>none
def dats(s:S):Nat->List D->Option (List PyData)
 | _,[]=>some []
 | n,d::r=>match dat s n d,dats s n r with
  | some x,some xs=>some (x::xs)
  | _,_=>none
end
def ziu(f:D->D->Option Bool):List D->List D->Bool
 | [],[]=>true
 | a::as,b::bs=>f a b == some true&&ziu f as bs
 | _,_=>false
def eqZ(s:S):Nat->D->D->Option Bool
 | 0,_,_=>none
 | n+1,a,b=>match dat s 60 a,dat s 60 b with
  | some x,some y=>if SeqAt.shaped x&&SeqAt.shaped y then some (PyData.eqv x y)else none
  | _,_=>match a,b with
   | .ref i,.ref j=>if i=j then some true else match yu s i,yu s j with
    | some ds,some es=>if ds.length=es.length then (if ziu (eqZ s n) ds es then some true else none)else some false
    | _,_=>none
   | .tup ds,.tup es=>if ziu (eqZ s n) ds es then some true else none
   | _,_=>none
def eqT(s:S)(a b:D):Option Bool:=match a,b with
 | .ref i,.ref j=>match yu s i,yu s j with
  | some ds,some es=>if ds.length=es.length then (if ziu (eqZ s 8) ds es then some true else none)else some false
  | _,_=>none
 | _,_=>none
def eqD(s:S)(a b:D):Option Bool:=match dat s 60 a,dat s 60 b with
 | some x,some y=>if SeqAt.shaped x&&SeqAt.shaped y then some (PyData.eqv x y)else none
 | _,_=>eqT s a b
def zf(i:Nat):E:=λσ s=>match σ[i]? with
 | some (some d)=>some (.ok d s)
 | _=>none
def eC(d:D):E:=λ_ s=>some (.ok d s)
def e1(f:D->M D)(a:E):E:=λσ=>bnd (a σ) f
def e2(f:D->D->M D)(a b:E):E:=λσ=>bnd (a σ) λx=>bnd (b σ) λy=>f x y
def zj:EL:=λ_=>ret []
def za(a:E)(r:EL):EL:=λσ=>bnd (a σ) λx=>bnd (r σ) λxs=>ret (x::xs)
def eN(f:List D->M D)(es:EL):E:=λσ=>bnd (es σ) f
def uB(s:S)(x:D):Bool:=match x with
 | .ref n=>match s[n]? with
  | some (.lst _)=>true
  | _=>false
 | _=>false
def eM(f:D->List D->M D)(o:E)(es:EL):E:=λσ=>bnd (o σ) λx=>λs=>if uB s x then bnd (es σ) (λxs=>f x xs) s else none
def eIf(t:T)(a b:E):E:=λσ=>bnd (t σ) λc=>if c then a σ else b σ
def eOr(a b:E):E:=λσ=>bnd (a σ) λx=>λs=>match truth s x with
 | some true=>some (.ok x s)
 | some false=>b σ s
 | none=>none
def ziw(a b:E):E:=λσ=>bnd (a σ) λx=>λs=>match truth s x with
 | some true=>b σ s
 | some false=>some (.ok x s)
 | none=>none
def tE(a:E):T:=λσ=>bnd (a σ) λx=>λs=>match truth s x with
 | some c=>some (.ok c s)
 | none=>none
def tB(a:E):T:=λσ=>bnd (a σ) λx=>match x with
 | .bl c=>ret c
 | _=>stuck
def tNot(t:T):T:=λσ=>bnd (t σ) λc=>ret (!c)
def tAnd(t u:T):T:=λσ=>bnd (t σ) λc=>if c then u σ else ret false
def zdW(t:T):E:=λσ=>bnd (t σ) λc=>ret (.bl (!c))
def tOr(t u:T):T:=λσ=>bnd (t σ) λc=>if c then ret true else u σ
def zbA(f:S->D->D->Option D):D->D->M D:=λx y s=>(f s x y).map λd=>.ok d s
def bits(i:Int):Nat:=i.natAbs.log2
def xH:D->D->M D:=λx y s=>match x,y with
 | .int i,.int j=>some (.ok (.int (i+j)) s)
 | .str a,.str b=>if sz (a.length+b.length)then some (.ok (.str (a++b)) s)else none
 | .tup a,.tup b=>if sz (a.length+b.length)then some (.ok (.tup (a++b)) s)else none
 | .ref m,.ref n=>match s[m]?,s[n]? with
  | some (.lst a),some (.lst b)=>if sz (a.length+b.length)then new (.lst (a++b)) s else none
  | _,_=>none
 | _,_=>none
def znB:D->D->M D:=zbA λ_ x y=>match x,y with
 | .int i,.int j=>some (.int (i - j))
 | _,_=>none
def jN:D->D->M D:=λx y s=>match x,y with
 | .int i,.int j=>if bits i+bits j<900000 then some (.ok (.int (i*j)) s)else none
 | .ref m,.int k=>match s[m]? with
  | some (.lst a)=>if decide (-1000000<k)&&decide (k<1000000)&&sz (a.length*k.toNat)then new (.lst (List.replicate k.toNat a).flatten) s else none
  | _=>none
 | _,_=>none
def oMod:D->D->M D:=zbA λ_ x y=>match x,y with
 | .int i,.int j=>if 0<j then some (.int (i%j))else none
 | _,_=>none
def oDiv:D->D->M D:=zbA λ_ x y=>match x,y with
 | .int i,.int j=>if 0<j&&bits j<8000 then some (.int (i / j))else none
 | _,_=>none
def zgt:D->D->M D:=zbA λ_ x y=>match x,y with
 | .int i,.int j=>if 0<=j&&(bits i+1)*j.toNat<=100000 then some (.int (i ^ j.toNat))else none
 | _,_=>none
def zlD:D->M D:=λx s=>match x with
 | .int i=>some (.ok (.int (-i)) s)
 | _=>none
def zsy(f:Int->Int->Bool):D->D->M D:=zbA λ_ x y=>match x,y with
 | .int i,.int j=>some (.bl (f i j))
 | _,_=>none
def oLt:=zsy λi j=>decide (i<j)
def oLe:=zsy λi j=>decide (i<=j)
def oGt:=zsy λi j=>decide (j<i)
def oEq:D->D->M D:=zbA λs x y=>(eqD s x y).map .bl
def oNe:D->D->M D:=zbA λs x y=>(eqD s x y).map λb=>.bl (!b)
def uv(f g:D->D->M D)(a b c:E):E:=λσ=>bnd (a σ) λx=>bnd (b σ) λy=>bnd (f x y) λr=>match r with
 | .bl true=>bnd (c σ) λz=>g y z
 | .bl false=>ret (.bl false)
 | _=>stuck
def zei:D->M D:=λx s=>some (.ok (.bl (match x with | .non=>true | _=>false)) s)
def zcn:D->M D:=λx s=>some (.ok (.bl (match x with | .non=>false | _=>true)) s)
def flat:D->Bool
 | .non=>true
 | .bl _=>true
 | .int _=>true
 | .str _=>true
 | _=>false
def vOf:D->L2.V
 | .bl b=>.bl b
 | .int i=>.int i
 | .str x=>.str x
 | _=>.non
def isIn(s:S)(x y:D):Option Bool:=match y with
 | .str b=>match x with
  | .str a=>some (!(Builtin.Str.occurrences b a 0 b.length 1).isEmpty)
  | _=>none
 | .tup ds=>if flat x&&ds.all flat then some (ds.any λd=>L2.eqV (vOf d) (vOf x))else none
 | .ref n=>match s[n]? with
  | some (.lst ds)=>match dat s 60 x,dats s 60 ds with
   | some d,some es=>if SeqAt.shaped d&&SeqAt.shaped (.list es)then some (es.any λz=>PyData.eqv z d)else none
   | _,_=>none
  | some o=>(dget (unl o) x).map (·.isSome)
  | none=>none
 | _=>none
def oIn:D->D->M D:=zbA λs x y=>(isIn s x y).map .bl
def uC:D->D->M D:=zbA λs x y=>(isIn s x y).map λb=>.bl (!b)
def atD(s:S)(x y:D):Option D:=match x with
 | .tup ds=>match y with
  | .int i=>L2.atI ds i
  | _=>none
 | .rol ds=>match y with
  | .int i=>L2.atI ds i
  | _=>none
 | .str z=>match y with
  | .int i=>if sz z.length then (L2.atI z.cps.toList i).map λc=>.str ⟨#[c]⟩else none
  | _=>none
 | .ref n=>match s[n]? with
  | some (.lst ds)=>match y with
   | .int i=>L2.atI ds i
   | _=>none
  | some o=>(dget (unl o) y).bind id
  | none=>none
 | _=>none
def oAt:D->D->M D:=zbA atD
def zeG{a:Type}(xs:List a)(lo hi:Option Int):List a:=(xs.drop (HT.sIx xs.length 0 lo)).take (HT.sIx xs.length xs.length hi - HT.sIx xs.length 0 lo)
def zph(x:D)(lo hi:Option Int):M D:=λs=>match x with
 | .tup ds=>some (.ok (.tup (zeG ds lo hi)) s)
 | .str z=>if sz z.length then some (.ok (.str (L2.cutS z lo hi)) s)else none
 | .ref n=>match s[n]? with
  | some (.lst ds)=>new (.lst (zeG ds lo hi)) s
  | _=>none
 | _=>none
abbrev EO:=Env->M (Option Int)
def pNo:EO:=λ_=>ret none
def zej(a:E):EO:=λσ=>bnd (a σ) λx=>match x with
 | .int i=>ret (some i)
 | _=>stuck
def zdU(a:E)(lo hi:EO):E:=λσ=>bnd (a σ) λx=>bnd (lo σ) λl=>bnd (hi σ) λh=>zph x l h
def wg(ds:List D):M D:=if sz ds.length then ret (.tup ds)else stuck
def yr(ds:List D):M D:=if sz ds.length then new (.lst ds)else stuck
def mDK:M D:=new (.dK [])
def mDT:M D:=new (.dT [])
def zfQ(s:S):D->Option Nat
 | .str x=>if sz x.length then some x.length else none
 | .tup ds=>some ds.length
 | .rol ds=>some ds.length
 | .stu ds=>some ds.length
 | .ref n=>match s[n]? with
  | some (.lst ds)=>some ds.length
  | some o=>match unl o with
   | .dK kvs=>some kvs.length
   | _=>none
  | none=>none
 | _=>none
def vA:List D->M D:=λxs s=>match xs with
 | [x]=>(zfQ s x).map λn=>.ok (.int n) s
 | _=>none
def yS:List D->M D:=λxs s=>match xs with
 | [.int i]=>some (.ok (.int i) s)
 | [.bl b]=>some (.ok (.int (if b then 1 else 0)) s)
 | _=>none
def zgk:List D->Option (List Int)
 | []=>some []
 | .int i::r=>(zgk r).map (i::·)
 | _::_=>none
def ziL:Int->List Int->Int
 | a,[]=>a
 | a,b::r=>ziL (if b > a then b else a) r
def ziM:Int->List Int->Int
 | a,[]=>a
 | a,b::r=>ziM (if b<a then b else a) r
def mm(f:Int->List Int->Int):List D->M D:=λxs s=>match xs with
 | [.ref n]=>match yu s n with
  | some ds=>match zgk ds with
   | some (a::r)=>some (.ok (.int (f a r)) s)
   | _=>none
  | none=>none
 | [.int i,.int j]=>some (.ok (.int (f i [j])) s)
 | _=>none
def zbE:=mm ziL
def zcT:=mm ziM
def zab:List D->M D:=λxs s=>match xs with
 | [.tup ds]=>new (.lst ds) s
 | [.ref n]=>match s[n]? with
  | some (.lst ds)=>new (.lst ds) s
  | some (.dK kvs)=>new (.lst (kvs.map λkv=>dOf kv.1)) s
  | _=>none
 | _=>none
def fTuple:List D->M D:=λxs s=>match xs with
 | [.tup ds]=>some (.ok (.tup ds) s)
 | [.ref n]=>match s[n]? with
  | some (.lst ds)=>some (.ok (.tup ds) s)
  | _=>none
 | _=>none
inductive Ty where
 | int | bool | str | tuple | list | dict
def ziD(s:S)(x:D)(t:Ty):Option Bool:=match x with
 | .non=>some false
 | .bl _=>some (match t with | .int=>true | .bool=>true | _=>false)
 | .int _=>some (match t with | .int=>true | _=>false)
 | .str _=>some (match t with | .str=>true | _=>false)
 | .tup _=>some (match t with | .tuple=>true | _=>false)
 | .rol _=>none
 | .stu _=>some (match t with | .tuple=>true | _=>false)
 | .ref n=>(s[n]?).bind λo=>match o with
  | .lst _=>some (match t with | .list=>true | _=>false)
  | .dK _=>some (match t with | .dict=>true | _=>false)
  | .dT _=>some (match t with | .dict=>true | _=>false)
  | .dN _=>none
  | .ins _ _=>none
  | .err _ _=>none
  | .lck _=>none
def oIs(t:Ty):D->M D:=λx s=>(ziD s x t).map λb=>.ok (.bl b) s
def zcm:D->M D:=λx s=>match x with
 | .int i=>some (.ok (.int (Builtin.Int.intBits i:Nat)) s)
 | _=>none
def zU:D->List D->M D:=λx xs s=>match x,xs with
 | .ref n,[y]=>zqh n (λo=>match o with
  | .lst ds=>if ds.length<16777216 then some (.lst (ds++[y]),.non)else none
  | _=>none) s
 | _,_=>none
def zqg:D->List D->M D:=λx xs s=>match x,xs with
 | .ref n,[]=>zqh n (λo=>match o with
  | .lst ds=>(ds[ds.length - 1]?).map λy=>(.lst ds.dropLast,y)
  | _=>none) s
 | _,_=>none
def isDict(s:S)(x:D):Bool:=match x with
 | .ref n=>match rd s n with
  | some (.dK _)=>true
  | some (.dT _)=>true
  | _=>false
 | _=>false
def uL(s:S)(x k:D):Option (Option D):=match x with
 | .ref n=>(rd s n).bind λo=>dget o k
 | _=>none
def zdV(d k z:E):E:=λσ=>bnd (d σ) λx=>λs=>if isDict s x then bnd (k σ) (λy=>bnd (z σ) λw=>λs=>(uL s x y).map λo=>.ok (o.getD w) s) s else none
def xr(f:Str):D->M D:=λx s=>match x with
 | .ref n=>match s[n]? with
  | some (.ins _ fs)=>(fs.lookup f).map λd=>.ok d s
  | some (.err _ fs)=>(fs.lookup f).map λd=>.ok d s
  | _=>none
 | _=>none
def fput(f:Str)(v:D):List (Str×D)->List (Str×D)
 | []=>[(f,v)]
 | (g,x)::r=>if g=f then (g,v)::r else (g,x)::fput f v r
inductive R where
 | nx (σ:Env) (s:S) | rt (d:D) (s:S) | bk (σ:Env) (s:S) | ct (σ:Env) (s:S) | xc (c:Str) (fs:List (Str×D)) (σ:Env) (s:S)
abbrev C:=Env->S->Option R
def ex{a:Type}(σ:Env)(r:Option (Res a))(k:a->S->Option R):Option R:=match r with
 | none=>none
 | some (.ok x s)=>k x s
 | some (.exc c fs s)=>some (.xc c fs σ s)
def yh:C:=λσ s=>some (.nx σ s)
def zE(a b:C):C:=λσ s=>match a σ s with
 | some (.nx σ' s')=>b σ' s'
 | r=>r
def zR(e:E):C:=λσ s=>ex σ (e σ s) λ_ s'=>some (.nx σ s')
def ye(e:E):C:=λσ s=>ex σ (e σ s) λd s'=>some (.rt d s')
def cIf(t:T)(a b:C):C:=λσ s=>ex σ (t σ s) λc s'=>if c then a σ s' else b σ s'
abbrev G:=D->Env->S->Option Env
def gName(i:Nat):G:=λd σ _=>some (σ.set i (some d))
abbrev GL:=List D->Env->S->Option Env
def gNil:GL:=λds σ _=>match ds with
 | []=>some σ
 | _=>none
def gCons(g:G)(r:GL):GL:=λds σ s=>match ds with
 | d::ds=>(g d σ s).bind λσ'=>r ds σ' s
 | []=>none
def gTup(k:Nat)(r:GL):G:=λd σ s=>match d with
 | .tup ds=>if ds.length=k then r ds σ s else none
 | .ref n=>match s[n]? with
  | some (.lst ds)=>if ds.length=k then r ds σ s else none
  | _=>none
 | _=>none
def zQ(e:E)(g:G):C:=λσ s=>ex σ (e σ s) λd s'=>(g d σ s').map λσ'=>.nx σ' s'
def zfT(i j:Nat)(es:EL):C:=λσ s=>ex σ (es σ s) λds s'=>match ds with
 | [x,y]=>some (.nx ((σ.set i (some x)).set j (some y)) s')
 | _=>none
def jE(o i e:E):C:=λσ s=>ex σ (e σ s) λv s1=>ex σ (o σ s1) λx s2=>ex σ (i σ s2) λy s3=>match x with
 | .ref n=>match s3[n]? with
  | some (.lst ds)=>match y with
   | .int k=>(L2.ixN ds.length k).map λj=>.nx σ (s3.set n (.lst (ds.set j v)))
   | _=>none
  | some ob=>(dput ob y v).map λo'=>.nx σ (s3.set n o')
  | none=>none
 | _=>none
def zlA(f:Str)(o e:E):C:=λσ s=>ex σ (e σ s) λv s1=>ex σ (o σ s1) λx s2=>match x with
 | .ref n=>match s2[n]? with
  | some (.ins c fs)=>if fs.length<900 then some (.nx σ (s2.set n (.ins c (fput f v fs))))else none
  | _=>none
 | _=>none
def forL(n:Nat)(g:G)(b:C):Nat->Nat->Env->S->Option R
 | 0,i,σ,s=>match yu s n with
  | some ds=>if ds.length=i then some (.nx σ s)else none
  | none=>none
 | k+1,i,σ,s=>match yu s n with
  | some ds=>if ds.length=i+(k+1)then match ds[i]? with
    | some d=>match g d σ s with
     | some σ1=>match b σ1 s with
      | some (.nx σ2 s2)=>forL n g b k (i+1) σ2 s2
      | some (.ct σ2 s2)=>forL n g b k (i+1) σ2 s2
      | some (.bk σ2 s2)=>some (.nx σ2 s2)
      | r=>r
     | none=>none
    | none=>none
   else none
  | none=>none
def zdt(g:G)(b:C):List D->Env->S->Option R
 | [],σ,s=>some (.nx σ s)
 | d::r,σ,s=>match g d σ s with
  | some σ1=>match b σ1 s with
   | some (.nx σ2 s2)=>zdt g b r σ2 s2
   | some (.ct σ2 s2)=>zdt g b r σ2 s2
   | some (.bk σ2 s2)=>some (.nx σ2 s2)
   | x=>x
  | none=>none
def zew(n:Nat)(o:O):Option R->Option R
 | some (.nx σ s)=>some (.nx σ (s.set n o))
 | some (.rt d s)=>some (.rt d (s.set n o))
 | some (.bk σ s)=>some (.bk σ (s.set n o))
 | some (.ct σ s)=>some (.ct σ (s.set n o))
 | some (.xc c fs σ s)=>some (.xc c fs σ s)
 | none=>none
inductive Src where
 | seq | keys | items | vals
def signs(x:Str):List D:=x.cps.toList.map λc=>.str ⟨#[c]⟩
def pairD(kv:L2.Key×D):D:=.tup [dOf kv.1,kv.2]
def zgb(k:Src)(o:O):Option (List D):=match k,o with
 | .keys,.dK kvs=>some (kvs.map λkv=>dOf kv.1)
 | .keys,.dT _=>none
 | .seq,.dK kvs=>some (kvs.map λkv=>dOf kv.1)
 | .seq,.dT kvs=>some (kvs.map λkv=>.tup (kv.1.map dOf))
 | .items,.dK kvs=>some (kvs.map pairD)
 | .vals,.dK kvs=>some (kvs.map (·.2))
 | _,_=>none
inductive SK where
 | vals (ds:List D) | list (n k:Nat) | dict (n:Nat) (ds:List D)
abbrev SrcE:=Env->M SK
def srcOf(k:Src)(x:D)(s:S):Option SK:=match x with
 | .tup ds=>match k with
  | .seq=>some (.vals ds)
  | _=>none
 | .stu ds=>match k with
  | .seq=>some (.vals ds)
  | _=>none
 | .str z=>match k with
  | .seq=>some (.vals (signs z))
  | _=>none
 | .ref n=>match s[n]? with
  | some (.lst ds)=>match k with
   | .seq=>some (.list n ds.length)
   | _=>none
  | some o=>(zgb k (unl o)).map (.dict n)
  | none=>none
 | _=>none
def yG(k:Src)(e:E):SrcE:=λσ=>bnd (e σ) λx s=>(srcOf k x s).map λsk=>.ok sk s
def yx(a b:Int):List D:=(List.range (b - a).toNat).map λ(i:Nat)=>.int (a+(i:Int))
def small(i:Int):Bool:=decide (-(2 ^ 62)<=i)&&decide (i<2 ^ 62)
def yf(a b:E):SrcE:=λσ=>bnd (a σ) λx=>bnd (b σ) λy s=>match x,y with
 | .int i,.int j=>if small i&&small j then some (.ok (.vals (yx i j)) s)else none
 | _,_=>none
def zcX(n:Nat)(s:S)(f:S->Option R):Option R:=match s[n]? with
 | some (.lck o)=>f s
 | some o=>zew n o (f (s.set n (.lck o)))
 | none=>none
def xg(src:SrcE)(g:G)(b:C):C:=λσ s=>ex σ (src σ s) λsk s1=>match sk with
 | .vals ds=>zdt g b ds σ s1
 | .list n k=>forL n g b k 0 σ s1
 | .dict n ds=>zcX n s1 λs2=>zdt g b ds σ s2
def wV(t:T)(b:C):Nat->C
 | 0,_,_=>none
 | n+1,σ,s=>ex σ (t σ s) λc s1=>if c then match b σ s1 with
   | some (.nx σ2 s2)=>wV t b n σ2 s2
   | some (.ct σ2 s2)=>wV t b n σ2 s2
   | some (.bk σ2 s2)=>some (.nx σ2 s2)
   | r=>r
  else some (.nx σ s1)
open Classical in
noncomputable def vq(t:T)(b:C):C:=λσ s=>if h:∃ r,∃ n,wV t b n σ s=some r then some (choose h)else none
def wipe(σ:Env):List Nat->Env
 | []=>σ
 | v::vs=>(wipe σ vs).set v none
def zcd(D0:Nat)(d:D)(s:S):Option S:=match s[D0]? with
 | some (.lst acc)=>if acc.length<16777216 then some (s.set D0 (.lst (acc++[d])))else none
 | _=>none
def lcV(D0:Nat)(vs:List Nat)(g:G)(t:T)(e:E):List D->Env->S->Option S
 | [],_,s=>some s
 | d::r,σ,s=>match g d (wipe σ vs) s with
  | some σ1=>match t σ1 s with
   | some (.ok true s1)=>match e σ1 s1 with
    | some (.ok y s2)=>(zcd D0 y s2).bind λs3=>lcV D0 vs g t e r σ s3
    | _=>none
   | some (.ok false s1)=>lcV D0 vs g t e r σ s1
   | _=>none
  | none=>none
def lcL(D0 n:Nat)(vs:List Nat)(g:G)(t:T)(e:E):Nat->Nat->Env->S->Option S
 | 0,i,_,s=>match yu s n with
  | some ds=>if ds.length=i then some s else none
  | none=>none
 | k+1,i,σ,s=>match yu s n with
  | some ds=>if ds.length=i+(k+1)then match ds[i]? with
    | some d=>match g d (wipe σ vs) s with
     | some σ1=>match t σ1 s with
      | some (.ok true s1)=>match e σ1 s1 with
       | some (.ok y s2)=>(zcd D0 y s2).bind λs3=>lcL D0 n vs g t e k (i+1) σ s3
       | _=>none
      | some (.ok false s1)=>lcL D0 n vs g t e k (i+1) σ s1
      | _=>none
     | none=>none
    | none=>none
   else none
  | none=>none
def uf(s:S)(f:Nat->S->Option S):Option (Res D):=(f s.length (s++[.lst []])).map λs'=>.ok (.ref s.length) s'
def vK(n:Nat)(s:S)(f:S->Option (Res D)):Option (Res D):=match s[n]? with
 | some (.lck o)=>f s
 | some o=>match f (s.set n (.lck o))with
  | some (.ok d s')=>some (.ok d (s'.set n o))
  | r=>r
 | none=>none
def tYes:T:=λ_=>ret true
def eLc(vs:List Nat)(src:SrcE)(g:G)(t:T)(e:E):E:=λσ=>bnd (src σ) λsk s1=>match sk with
 | .vals ds=>uf s1 λD0 s2=>lcV D0 vs g t e ds σ s2
 | .list n k=>uf s1 λD0 s2=>lcL D0 n vs g t e k 0 σ s2
 | .dict n ds=>vK n s1 λs2=>uf s2 λD0 s3=>lcV D0 vs g t e ds σ s3
abbrev F:=List D->M D
def yg(np nn:Nat)(b:C):F:=λds s=>if ds.length=np then match b (ds.map some++List.replicate (nn - np) none) s with
 | some (.nx _ s')=>some (.ok .non s')
 | some (.rt d s')=>some (.ok d s')
 | some (.xc c fs _ s')=>some (.exc c fs s')
 | _=>none else none
def zB(f:F)(dfl:List D)(es:EL):E:=λσ=>bnd (es σ) λds=>f (ds++dfl)
def xj(c f:Str)(e:E):C:=λσ s=>ex σ (e σ s) λv s'=>some (.xc c [(f,v)] σ s')
def zfU(c:Str):C:=λσ s=>some (.xc c [] σ s)
def zbP(c:Str)(init:F)(dfl:List D)(es:EL):E:=λσ=>bnd (es σ) λds=>λs=>match init (.ref s.length::(ds++dfl)) (s++[.ins c []])with
 | some (.ok .non s')=>some (.ok (.ref s.length) s')
 | some (.exc x fs s')=>some (.exc x fs s')
 | _=>none
def zY(c m:Str)(f:F)(dfl:List D)(o:E)(es:EL):E:=λσ=>bnd (o σ) λx=>λs=>match x with
 | .ref n=>match s[n]? with
  | some (.ins c' fs)=>if c'=c/\fs.lookup m=none then bnd (es σ) (λds=>f (x::(ds++dfl))) s else none
  | _=>none
 | _=>none
end Fc
namespace Fc
open PySem PySem.Spec PyProof.Rows L2
def RolAt(K:oU)(H:Hp)(a:Addr)(xs:List V):Prop:=SqL K H a xs/\∀ H':Hp,(∀ b o ys,H b=some (.frz o (.lst ys))->H' b=some (.frz o (.lst ys)))->SqL K H' a xs
theorem RolAt.of{K:oU}{H:Hp}{a:Addr}{xs:List V}(hO:Only H)(h:SqL K H a xs):RolAt K H a xs:=by
 refine⟨h,λH' k=>?_⟩
 rcases h with (h | ⟨o,h⟩) | h
 . rcases hO a with z | ⟨o,ys,z⟩
   . rw[z]at h;cases h
   . rw[z]at h;cases h
 . exact .inl (.inr ⟨o,k _ _ _ h⟩)
 . exact .inr h
def StT(K:oU)(a:Addr)(xs:List V):Prop:=∃(o:Obj) (its:Array Value) (n:Nat),K.lookup a=some o/\o.cls=.type "tuple"/\o.data=.seq its n/\its.size<=sizeLine/\Vals xs its.toList
theorem StT.sq{K:oU}{H:Hp}{a:Addr}{xs:List V}(h:StT K a xs):SqT K H a xs:=.inr h
structure CM where
 ins:Str->Option Addr
 err:Str->Option Addr
 wld:Option World
variable(K:oU)(cm:CM)
mutual
def RV(p:List Addr)(H:Hp):D->V->Prop
 | .non,v=>v=.non
 | .bl b,v=>v=.bl b
 | .int i,v=>v=.int i
 | .str x,v=>v=.str x
 | .tup ds,v=>∃ a vs,v=.ref a/\H a=some (.tup vs)/\RVs p H ds vs
 | .rol ds,v=>∃ a vs,v=.ref a/\RolAt K H a vs/\RVs p H ds vs
 | .ref n,v=>∃ a,p[n]?=some a/\v=.ref a
 | .stu ds,v=>∃ a vs,v=.ref a/\StT K a vs/\RVs p H ds vs
def RVs(p:List Addr)(H:Hp):List D->List V->Prop
 | [],vs=>vs=[]
 | d::ds,vs=>∃ v r,vs=v::r/\RV p H d v/\RVs p H ds r
end
def RKs{κ:Type}(p:List Addr)(H:Hp):List (κ×D)->List (κ×V)->Prop
 | [],vs=>vs=[]
 | d::ds,vs=>∃ v r,vs=(d.1,v)::r/\RV K p H d.2 v/\RKs p H ds r
def ztZ(w:World)(x:NestedKey×Addr×Value):DictEntry:=⟨x.1.hash w,.ref x.2.1,x.2.2⟩
def NdO(w:World)(a:Addr)(xs:List (NestedKey×Addr×Value)):HO:=.ext λh=>∃ o es ep,h.get? a=some o/\o.ExactDict/\o.data=.dict es ep/\es.toList=xs.map (ztZ w)/\(xs.map (·.1)).Nodup/\(a == sysModules)=false/\xs.length<=sizeLine
def RN(p:List Addr)(H:Hp):List (D×D)->List (NestedKey×Addr×Value)->Prop
 | [],xs=>xs=[]
 | kv::r,xs=>∃ k b v u ys,xs=(k,b,u)::ys/\nkT kv.1=some k/\RV K p H kv.1 (.ref b)/\RV K p H kv.2 v/\RelV v u/\RN p H r ys
def RC(p:List Addr)(H:Hp)(a:Addr):O->HO->Prop
 | .lst ds,u=>∃ vs,u=.lst vs/\RVs K p H ds vs
 | .dK kvs,u=>∃ ws,u=.dK ws/\RKs K p H kvs ws
 | .dT kvs,u=>∃ ws,u=.dT ws/\RKs K p H kvs ws
 | .dN kvs,u=>∃ w xs,cm.wld=some w/\u=NdO w a xs/\RN K p H kvs xs
 | .ins c fs,u=>∃ C dx gs,cm.ins c=some C/\u=.ins C dx gs/\RKs K p H fs gs
 | .err c fs,u=>False
 | .lck o,u=>False
def ErrO(a C:Addr)(d:Option Addr):HO:=.ext λh=>∃ oe vs,h.get? a=some oe/\oe.cls=.ref C/\oe.dict=d/\oe.data=.fields vs
def RDd(p:List Addr)(H:Hp)(fs:List (Str×D)):Option Addr->Prop
 | some dd=>∃ gs,H dd=some (.xd gs)/\RKs K p H fs gs
 | none=>fs=[]
def RO(p:List Addr)(H:Hp)(a:Addr):O->Prop
 | .err c fs=>∃ C d,cm.err c=some C/\H a=some (ErrO a C d)/\RDd K p H fs d
 | .lck o=>∃ od u,H a=some (.frz od u)/\Mut (some u)/\RC K cm p H a o u
 | o=>∃ u,H a=some u/\RC K cm p H a o u
structure RS(p:List Addr)(s:S)(H:Hp):Prop where
 len:p.length=s.length
 nd:p.Nodup
 ob:∀(n:Nat) (o:O) (a:Addr),s[n]?=some o->p[n]?=some a->RO K cm p H a o
def RE(p:List Addr)(H:Hp)(e:Env)(σ:L2.St):Prop:=e.length=σ.length/\∀(i:Nat) (d:D),e[i]?=some (some d)->∃ v,σ[i]?=some (some v)/\RV K p H d v
structure Fut0(p:List Addr)(H:Hp)(p':List Addr)(H':Hp):Prop where
 pre:∀(n:Nat) (a:Addr),p[n]?=some a->p'[n]?=some a
 tup:∀ b ys,H b=some (.tup ys)->H' b=some (.tup ys)
 frl:∀ b o ys,H b=some (.frz o (.lst ys))->H' b=some (.frz o (.lst ys))
 xd:∀ b fs,H b=some (.xd fs)->H' b=some (.xd fs)
structure Fut(p:List Addr)(H:Hp)(p':List Addr)(H':Hp):Prop extends Fut0 p H p' H' where
 frz:∀ b o u,H b=some (.frz o u)->H' b=some (.frz o u)
theorem Fut.mk'{p:List Addr}{H:Hp}{p':List Addr}{H':Hp}(pre:∀(n:Nat) (a:Addr),p[n]?=some a->p'[n]?=some a)(tup:∀ b ys,H b=some (.tup ys)->H' b=some (.tup ys))(frz:∀ b o u,H b=some (.frz o u)->H' b=some (.frz o u))(xd:∀ b fs,H b=some (.xd fs)->H' b=some (.xd fs)):Fut p H p' H' :=
 ⟨⟨pre,tup,λb o ys h=>frz b o _ h,xd⟩,frz⟩
variable{K cm}{p p' p2:List Addr}{H H' H2:Hp}
theorem Fut.refl:Fut p H p H:=.mk' (λ_ _ h=>h) (λ_ _ h=>h) (λ_ _ _ h=>h) (λ_ _ h=>h)
theorem Fut.trans(a:Fut p H p' H')(b:Fut p' H' p2 H2):Fut p H p2 H2:=.mk' (λn x h=>b.pre n x (a.pre n x h)) (λc ys h=>b.tup c ys (a.tup c ys h)) (λc o ys h=>b.frz c o ys (a.frz c o ys h)) (λc fs h=>b.xd c fs (a.xd c fs h))
theorem Fut0.trans(a:Fut0 p H p' H')(b:Fut0 p' H' p2 H2):Fut0 p H p2 H2:=⟨λn x h=>b.pre n x (a.pre n x h),λc ys h=>b.tup c ys (a.tup c ys h),λc o ys h=>b.frl c o ys (a.frl c o ys h),λc fs h=>b.xd c fs (a.xd c fs h)⟩
mutual
theorem RV.yJ(f:Fut0 p H p' H'):∀(d:D) {v:V},RV K p H d v->RV K p' H' d v
 | .non,_,h=>by simpa[RV]using h
 | .bl _,_,h=>by simpa[RV]using h
 | .int _,_,h=>by simpa[RV]using h
 | .str _,_,h=>by simpa[RV]using h
 | .tup ds,_,h=>by
  simp only[RV]at h ⊢;obtain⟨a,vs,e,t,r⟩:=h;exact⟨a,vs,e,f.tup a vs t,RVs.yJ f ds r⟩
 | .rol ds,_,h=>by
  simp only[RV]at h ⊢;obtain⟨a,vs,e,t,r⟩:=h;exact⟨a,vs,e,⟨t.2 H' f.frl,λH2 k=>t.2 H2 λb o ys q=>k b o ys (f.frl b o ys q)⟩,RVs.yJ f ds r⟩
 | .ref n,_,h=>by
  simp only[RV]at h ⊢;obtain⟨a,e,q⟩:=h;exact⟨a,f.pre n a e,q⟩
 | .stu ds,_,h=>by
  simp only[RV]at h ⊢;obtain⟨a,vs,e,t,r⟩:=h;exact⟨a,vs,e,t,RVs.yJ f ds r⟩
theorem RVs.yJ(f:Fut0 p H p' H'):∀(ds:List D) {vs:List V},RVs K p H ds vs->RVs K p' H' ds vs
 | [],_,h=>by simpa[RVs]using h
 | d::ds,_,h=>by
  simp only[RVs]at h ⊢;obtain⟨v,r,e,h1,h2⟩:=h;exact⟨v,r,e,RV.yJ f d h1,RVs.yJ f ds h2⟩
end
theorem RKs.yJ{κ:Type}(f:Fut0 p H p' H'):∀(ds:List (κ×D)) {vs:List (κ×V)},RKs K p H ds vs->RKs K p' H' ds vs
 | [],_,h=>by simpa[RKs]using h
 | d::ds,_,h=>by
  simp only[RKs]at h ⊢;obtain⟨v,r,e,h1,h2⟩:=h;exact⟨v,r,e,RV.yJ f d.2 h1,RKs.yJ f ds h2⟩
theorem RN.yJ(f:Fut0 p H p' H'):∀(ds:List (D×D)) {xs:List (NestedKey×Addr×Value)},RN K p H ds xs->RN K p' H' ds xs
 | [],_,h=>by simpa[RN]using h
 | d::ds,_,h=>by
  simp only[RN]at h ⊢;obtain⟨k,b,v,u,ys,e,h1,h2,h3,h4,h5⟩:=h;exact⟨k,b,v,u,ys,e,h1,RV.yJ f d.1 h2,RV.yJ f d.2 h3,h4,RN.yJ f ds h5⟩
theorem RC.yJ(f:Fut0 p H p' H'){a:Addr}:∀(o:O) {u:HO},RC K cm p H a o u->RC K cm p' H' a o u
 | .lst ds,_,h=>by
  obtain⟨vs,e,r⟩:=h;exact⟨vs,e,r.yJ f⟩
 | .dK ds,_,h=>by
  obtain⟨vs,e,r⟩:=h;exact⟨vs,e,r.yJ f⟩
 | .dT ds,_,h=>by
  obtain⟨vs,e,r⟩:=h;exact⟨vs,e,r.yJ f⟩
 | .dN ds,_,h=>by
  obtain⟨w,xs,e1,e,r⟩:=h;exact⟨w,xs,e1,e,r.yJ f⟩
 | .ins c fs,_,h=>by
  obtain⟨C,dx,gs,e1,e,r⟩:=h;exact⟨C,dx,gs,e1,e,r.yJ f⟩
 | .err _ _,_,h=>h
 | .lck _,_,h=>h
theorem RDd.yJ(f:Fut0 p H p' H'){fs:List (Str×D)}:∀{d:Option Addr},RDd K p H fs d->RDd K p' H' fs d
 | some _,⟨gs,e,r⟩=>⟨gs,f.xd _ _ e,r.yJ f⟩
 | none,h=>h
theorem RE.yJ(f:Fut0 p H p' H'){e:Env}{σ:L2.St}(h:RE K p H e σ):RE K p' H' e σ:=⟨h.1,λi d q=>let ⟨v,a,b⟩:=h.2 i d q;⟨v,a,b.yJ f⟩⟩
theorem RV.mono(f:Fut p H p' H')(d:D){v:V}(h:RV K p H d v):RV K p' H' d v:=RV.yJ f.toFut0 d h
theorem RVs.mono(f:Fut p H p' H')(ds:List D){vs:List V}(h:RVs K p H ds vs):RVs K p' H' ds vs:=RVs.yJ f.toFut0 ds h
theorem RKs.mono{κ:Type}(f:Fut p H p' H')(ds:List (κ×D)){vs:List (κ×V)}(h:RKs K p H ds vs):RKs K p' H' ds vs:=RKs.yJ f.toFut0 ds h
theorem RC.mono(f:Fut p H p' H'){a:Addr}(o:O){u:HO}(h:RC K cm p H a o u):RC K cm p' H' a o u:=RC.yJ f.toFut0 o h
theorem RE.mono(f:Fut p H p' H'){e:Env}{σ:L2.St}(h:RE K p H e σ):RE K p' H' e σ:=h.yJ f.toFut0
theorem RVs.length:∀{ds:List D}{vs:List V},RVs K p H ds vs->ds.length=vs.length
 | [],_,h=>by simp only[RVs]at h;rw[h];rfl
 | d::ds,_,h=>by
  simp only[RVs]at h;obtain⟨v,r,e,_,h2⟩:=h;rw[e,rG,rG,RVs.length h2]
theorem RVs.get:∀{ds:List D}{vs:List V}{i:Nat}{d:D},RVs K p H ds vs->ds[i]?=some d->∃ v,vs[i]?=some v/\RV K p H d v
 | [],_,_,_,_,e=>by simp at e
 | d::ds,_,0,_,h,e=>by
  simp only[RVs]at h;obtain⟨v,r,e',h1,_⟩:=h;simp at e;subst e;exact⟨v,by rw[e'];rfl,h1⟩
 | d::ds,_,i+1,d',h,e=>by
  simp only[RVs]at h;obtain⟨v,r,e',_,h2⟩:=h;obtain⟨w,q1,q2⟩:=RVs.get (i:=i) (d:=d') h2 (by simpa using e);exact⟨w,by rw[e'];simpa using q1,q2⟩
theorem RVs.append:∀{ds es:List D}{vs ws:List V},RVs K p H ds vs->RVs K p H es ws->RVs K p H (ds++es) (vs++ws)
 | [],_,_,_,h,k=>by simp only[RVs]at h;rw[h];exact k
 | d::ds,es,_,ws,h,k=>by
  simp only[RVs]at h;obtain⟨v,r,e,h1,h2⟩:=h;rw[e];show RVs K p H (d::(ds++es)) (v::(r++ws));simp only[RVs];exact⟨v,_,rfl,h1,RVs.append h2 k⟩
theorem RVs.of_get:∀{ds:List D}{vs:List V},ds.length=vs.length->(∀(i:Nat) d v,ds[i]?=some d->vs[i]?=some v->RV K p H d v)->RVs K p H ds vs
 | [],[],_,_=>by simp only[RVs]
 | [],_::_,l,_=>by simp at l
 | _::_,[],l,_=>by simp at l
 | d::ds,v::vs,l,h=>by
  simp only[RVs];exact⟨v,vs,rfl,h 0 d v rfl rfl,RVs.of_get (by simpa using l) λi d' v' e1 e2=>h (i+1) d' v' (by simpa using e1) (by simpa using e2)⟩
theorem RVs.drop{ds:List D}{vs:List V}(h:RVs K p H ds vs)(n:Nat):RVs K p H (ds.drop n) (vs.drop n):=by
 refine RVs.of_get (by simp[h.length]) λi d v e1 e2=>?_;rw[List.getElem?_drop]at e1 e2;obtain⟨w,q1,q2⟩:=h.get e1;rw[e2]at q1;cases q1;exact q2
theorem RVs.take{ds:List D}{vs:List V}(h:RVs K p H ds vs)(n:Nat):RVs K p H (ds.take n) (vs.take n):=by
 refine RVs.of_get (by simp[h.length]) λi d v e1 e2=>?_;rw[List.getElem?_take]at e1 e2;split at e1
 . rename_i hi;rw[if_pos hi]at e2;obtain⟨w,q1,q2⟩:=h.get e1;rw[e2]at q1;cases q1;exact q2
 . cases e1
theorem RVs.set{ds:List D}{vs:List V}(h:RVs K p H ds vs)(n:Nat){d:D}{v:V}(r:RV K p H d v):RVs K p H (ds.set n d) (vs.set n v):=by
 have hl:=h.length;refine RVs.of_get (by simp[hl]) λi d' v' e1 e2=>?_;rw[qI]at e1 e2;by_cases hi:n=i
 . rw[if_pos hi]at e1 e2;split at e1
   . rename_i h1;rw[if_pos (by omega)]at e2;cases e1;cases e2;exact r
   . cases e1
 . rw[if_neg hi]at e1 e2;obtain⟨w,q1,q2⟩:=h.get e1;rw[e2]at q1;cases q1;exact q2
theorem RS.at(r:RS K cm p s H){n:Nat}{o:O}(h:s[n]?=some o):∃ a,p[n]?=some a/\RO K cm p H a o:=by
 have hn:=(su.mp h).1
 have e:p[n]?=some (p[n]'(by rw[r.len];exact hn)):=by simp[r.len,hn]
 exact⟨_,e,r.ob n o _ h e⟩
theorem RO.some{a:Addr}{o:O}(h:RO K cm p H a o):∃ u,H a=some u:=by
 cases o with
 | lck o=>obtain⟨od,u,e,_⟩:=h;exact⟨_,e⟩
 | lst _=>obtain⟨u,e,_⟩:=h;exact⟨_,e⟩
 | dK _=>obtain⟨u,e,_⟩:=h;exact⟨_,e⟩
 | dT _=>obtain⟨u,e,_⟩:=h;exact⟨_,e⟩
 | dN _=>obtain⟨u,e,_⟩:=h;exact⟨_,e⟩
 | ins _ _=>obtain⟨u,e,_⟩:=h;exact⟨_,e⟩
 | err _ _=>obtain⟨_,_,_,e,_⟩:=h;exact⟨_,e⟩
theorem RS.zgs(r:RS K cm p s H){a:Addr}(h:H a=none):a∉p:=λhm=>by
 obtain⟨n,hn,e⟩:=List.getElem_of_mem hm
 have e':p[n]?=some a:=by rw[← e];simp[hn]
 have hs:n<s.length:=by rw[← r.len];exact hn
 obtain⟨u,q⟩:=(r.ob n s[n] a (by simp[hs]) e').some;rw[h]at q;cases q
theorem RO.zqR{a:Addr}{o:O}(h:RO K cm p H a o)(f:Fut0 p H p' H')(ha:H' a=H a):RO K cm p' H' a o:=by
 cases o with
 | lck o=>obtain⟨od,u,e,m,r⟩:=h;exact⟨od,u,ha.trans e,m,r.yJ f⟩
 | lst _=>obtain⟨u,e,r⟩:=h;exact⟨u,ha.trans e,r.yJ f⟩
 | dK _=>obtain⟨u,e,r⟩:=h;exact⟨u,ha.trans e,r.yJ f⟩
 | dT _=>obtain⟨u,e,r⟩:=h;exact⟨u,ha.trans e,r.yJ f⟩
 | dN _=>obtain⟨u,e,r⟩:=h;exact⟨u,ha.trans e,RC.yJ f _ r⟩
 | ins _ _=>obtain⟨u,e,r⟩:=h;exact⟨u,ha.trans e,r.yJ f⟩
 | err _ _=>obtain⟨C,d,e1,e2,r⟩:=h;exact⟨C,d,e1,ha.trans e2,r.yJ f⟩
theorem RO.keep{a:Addr}{o:O}(h:RO K cm p H a o)(f:Fut p H p' H')(ha:H' a=H a):RO K cm p' H' a o:=h.zqR f.toFut0 ha
theorem Fut.same(k:Same H H'):Fut p H p H':=.mk' (λ_ _ h=>h) (λb ys h=>k b _ h) (λb o ys h=>k b _ h) (λb fs h=>k b _ h)
theorem RS.same(r:RS K cm p s H)(k:Same H H'):RS K cm p s H':=⟨r.len,r.nd,λn o a h1 h2=>by
 have q:=r.ob n o a h1 h2;obtain⟨u,e⟩:=q.some
 exact q.keep (Fut.same k) ((k a u e).trans e.symm)⟩
theorem wR{a:Addr}{u:HO}(h:H a=none):Same H (upd H a u):=λb o e=>by rw[upd_ne (ne_of_none e h)];exact e
theorem Fut.new{a:Addr}{u:HO}(h:H a=none):Fut p H (p++[a]) (upd H a u) :=
 .mk' (λn b e=>by rw[sX (su.mp e).1];exact e) (Fut.same (p:=p) (wR h)).tup (Fut.same (p:=p) (wR h)).frz (Fut.same (p:=p) (wR h)).xd
theorem RS.zuM(r:RS K cm p s H){a:Addr}{u:HO}{o:O}(h:H a=none)(c:RO K cm (p++[a]) (upd H a u) a o):RS K cm (p++[a]) (s++[o]) (upd H a u)/\(p++[a])[s.length]?=some a:=by
 have f:Fut p H (p++[a]) (upd H a u):=Fut.new h;refine⟨⟨by simp[r.len],?_,λn o' b h1 h2=>?_⟩,by rw[← r.len];simp⟩
 . rw[rY];refine⟨r.nd,by simp,λx hx y hy e=>?_⟩;simp at hy;subst hy;subst e;exact r.zgs h hx
 . by_cases hn:n<s.length
   . rw[sX hn]at h1;rw[sX (by rw[r.len];exact hn)]at h2;have q:=r.ob n o' b h1 h2;refine q.keep f (upd_ne λe=>?_);subst e;exact r.zgs h (rH h2)
   . have e:n=s.length:=by
      have:=(su.mp h1).1;simp at this;omega
     subst e;simp at h1;subst h1;rw[← r.len]at h2;simp at h2;subst h2;exact c
theorem RC.ro{a:Addr}{u:HO}{o:O}(c:RC K cm p H a o u)(h:H a=some u):RO K cm p H a o:=by
 cases o with
 | lck o=>exact False.elim c
 | err _ _=>exact False.elim c
 | lst _=>exact⟨u,h,c⟩
 | dK _=>exact⟨u,h,c⟩
 | dT _=>exact⟨u,h,c⟩
 | dN _=>exact⟨u,h,c⟩
 | ins _ _=>exact⟨u,h,c⟩
theorem RS.new(r:RS K cm p s H){a:Addr}{u:HO}{o:O}(h:H a=none)(c:RC K cm p H a o u):Fut p H (p++[a]) (upd H a u)/\RS K cm (p++[a]) (s++[o]) (upd H a u)/\(p++[a])[s.length]?=some a :=
 ⟨Fut.new h,r.zuM h ((c.mono (Fut.new h)).ro upd_same)⟩
theorem zkK{b:Addr}{a:Addr}{u u0 w:HO}(h0:H a=some u0)(hm:Mut (some u0))(e:H b=some w)(hn:¬ Mut (some w)):upd H a u b=some w:=by
 rw[upd_ne λz=>?_]
 . exact e
 . subst z;rw[h0]at e;cases e;exact hn hm
theorem Fut.put{a:Addr}{u u0:HO}(h0:H a=some u0)(hm:Mut (some u0)):Fut p H p (upd H a u) :=
 .mk' (λ_ _ e=>e) (λb ys e=>zkK h0 hm e λz=>z) (λb o ys e=>zkK h0 hm e λz=>z) (λb fs e=>zkK h0 hm e λz=>z)
theorem RS.zrn(r:RS K cm p s H){n:Nat}{a:Addr}{u u0:HO}{o:O}(ha:p[n]?=some a)(h0:H a=some u0)(f:Fut0 p H p (upd H a u))(c:RO K cm p (upd H a u) a o):RS K cm p (s.set n o) (upd H a u):=by
 refine⟨by simp[r.len],r.nd,λk o' b h1 h2=>?_⟩;by_cases hk:n=k
 . subst hk;rw[ha]at h2;cases h2
   have hn:n<s.length:=by rw[← r.len];exact(su.mp ha).1
   rw[sY hn]at h1;cases h1;exact c
 . rw[ql hk]at h1;have q:=r.ob k o' b h1 h2;refine q.zqR f (upd_ne λe=>?_);subst e;have l1:=(su.mp ha).1;have l2:=(su.mp h2).1;exact hk ((List.getElem_inj r.nd (h₀:=l1) (h₁:=l2)).mp (by rw[(su.mp ha).2,(su.mp h2).2]))
theorem RS.put(r:RS K cm p s H){n:Nat}{a:Addr}{u u0:HO}{o:O}(ha:p[n]?=some a)(h0:H a=some u0)(hm:Mut (some u0))(c:RC K cm p H a o u):Fut p H p (upd H a u)/\RS K cm p (s.set n o) (upd H a u) :=
 ⟨Fut.put h0 hm,r.zrn ha h0 (Fut.put h0 hm).toFut0 ((c.mono (Fut.put h0 hm)).ro upd_same)⟩
end Fc
namespace L2
open PySem
theorem PE.imp{X:Cx}{x:Expr}{t t':TE}(h:PE X x t)(k:∀ σ H Q,t' σ H Q->t σ H Q):PE X x t':=⟨λpins s σ H Q I q=>h.run pins s σ H Q I (k σ H Q q)⟩
theorem PT.imp{X:Cx}{x:Expr}{t t':TT}(h:PT X x t)(k:∀ σ H Q,t' σ H Q->t σ H Q):PT X x t':=⟨λpins s σ H Q I q=>h.run pins s σ H Q I (k σ H Q q)⟩
theorem PW.imp{X:Cx}{x:Expr}{t t':TT}(h:PW X x t)(k:∀ σ H Q,t' σ H Q->t σ H Q):PW X x t':=⟨λw pins s σ H Q I q=>h.run w pins s σ H Q I (k σ H Q q)⟩
theorem PA.imp{X:Cx}{x:List Expr}{t t':TA}(h:PA X x t)(k:∀ σ H Q,t' σ H Q->t σ H Q):PA X x t':=⟨λw pins s σ H Q I q=>h.run w pins s σ H Q I (k σ H Q q)⟩
theorem PO.imp{X:Cx}{x:Option Expr}{t t':TO}(h:PO X x t)(k:∀ σ H Q,t' σ H Q->t σ H Q):PO X x t':=⟨λpins s σ H Q I q=>h.run pins s σ H Q I (k σ H Q q)⟩
end L2
namespace Fc
open PySem PySem.Spec PyProof.Rows L2
def RX(K:oU)(cm:CM)(p:List Addr)(H:Hp)(c:Str)(fs:List (Str×D))(cls:Value)(d:Option Addr):Prop :=
 ∃ C,cm.err c=some C/\cls=.ref C/\RDd K p H fs d
def Po{a b:Type}(K:oU)(cm:CM)(W:WX)(rel:List Addr->Hp->a->b->Prop)(p:List Addr)(σ:L2.St)(H:Hp)(r:Option (Res a))(Q:b->Hp->Prop):Prop:=match r with
 | none=>False
 | some (.ok d s')=>∀ p' H' v,Fut p H p' H'->RS K cm p' s' H'->rel p' H' d v->Q v H'
 | some (.exc c fs s')=>∀ p' H' cls dd,Fut p H p' H'->RS K cm p' s' H'->RX K cm p' H' c fs cls dd->W cls dd σ H'
section
variable{K:oU}{cm:CM}{W:WX}{p p':List Addr}{σ:L2.St}{H H':Hp}
theorem Po.fut{a b:Type}{rel:List Addr->Hp->a->b->Prop}{r:Option (Res a)}{Q:b->Hp->Prop}(h:Po K cm W rel p σ H r Q)(f:Fut p H p' H'):Po K cm W rel p' σ H' r Q:=by
 match r,h with
 | some (.ok d s'),h=>exact λp2 H2 v f2=>h p2 H2 v (f.trans f2)
 | some (.exc c fs s'),h=>exact λp2 H2 cls dd f2=>h p2 H2 cls dd (f.trans f2)
theorem Po.imp{a b:Type}{rel:List Addr->Hp->a->b->Prop}{r:Option (Res a)}{Q Q':b->Hp->Prop}(h:Po K cm W rel p σ H r Q)(k:∀ v H,Q v H->Q' v H):Po K cm W rel p σ H r Q':=by
 match r,h with
 | some (.ok d s'),h=>exact λp2 H2 v f2 r2 q=>k _ _ (h p2 H2 v f2 r2 q)
 | some (.exc c fs s'),h=>exact h
theorem Po.bnd{a b c d:Type}{rel1:List Addr->Hp->a->b->Prop}{rel2:List Addr->Hp->c->d->Prop}{m:M a}{k:a->M c}{s:S}{Q:d->Hp->Prop}(h:Po K cm W rel2 p σ H (bnd m k s) Q) :
  Po K cm W rel1 p σ H (m s) λx H1=>∃ y p1 s1,Fut p H p1 H1/\RS K cm p1 s1 H1/\rel1 p1 H1 y x/\Po K cm W rel2 p1 σ H1 (k y s1) Q:=by
 unfold Fc.bnd at h
 match e:m s,h with
 | none,h=>exact h
 | some (.exc x fs s'),h=>exact h
 | some (.ok y s'),h=>exact λp1 H1 v f r q=>⟨y,p1,s',f,r,q,Po.fut h f⟩
theorem Po.ok{a b:Type}{rel:List Addr->Hp->a->b->Prop}{x:a}{s:S}{Q:b->Hp->Prop}{v:b}(h:Po K cm W rel p σ H (some (.ok x s)) Q)(r:RS K cm p s H)(q:rel p H x v):Q v H:=h p H v Fut.refl r q
end
variable(K:oU)(cm:CM)(W:WX)
def rB:List Addr->Hp->Bool->Bool->Prop:=λ_ _ a b=>a=b
def rI':List Addr->Hp->Option Int->Option Int->Prop:=λ_ _ a b=>a=b
def tD(f:E):TE:=λσ H Q=>∃ p e s,RE K p H e σ/\RS K cm p s H/\Po K cm W (RV K) p σ H (f e s) Q
def tT(f:T):TT:=λσ H Q=>∃ p e s,RE K p H e σ/\RS K cm p s H/\Po K cm W rB p σ H (f e s) Q
def tL(f:EL):TA:=λσ H Q=>∃ p e s,RE K p H e σ/\RS K cm p s H/\Po K cm W (RVs K) p σ H (f e s) Q
def tO(f:EO):TO:=λσ H Q=>∃ p e s,RE K p H e σ/\RS K cm p s H/\Po K cm W rI' p σ H (f e s) Q
variable{K cm W}
section
variable(X:Cx)(cm:CM)(W:WX)
abbrev JE(x:Expr)(f:E):Prop:=PE X x (tD X.K cm W f)
abbrev JT(x:Expr)(f:T):Prop:=PT X x (tT X.K cm W f)
abbrev JW(x:Expr)(f:T):Prop:=PW X x (tT X.K cm W f)
abbrev JA(x:List Expr)(f:EL):Prop:=PA X x (tL X.K cm W f)
abbrev JO(x:Option Expr)(f:EO):Prop:=PO X x (tO X.K cm W f)
def S2(fv:Value->Value->Sem Value)(op:D->D->M D):Prop:=∃ r:R2,OpR X fv r/\∀(W:WX) p s σ H x y dx dy Q,RS X.K cm p s H->RV X.K p H dx x->RV X.K p H dy y->Po X.K cm W (RV X.K) p σ H (op dx dy s) Q->r x y H Q
def SN(fv:Value)(op:List D->M D):Prop:=∃ r:List V->Hp->VK->Prop,CallR X fv r/\∀(W:WX) p s σ H xs ds Q,RS X.K cm p s H->RVs X.K p H ds xs->Po X.K cm W (RV X.K) p σ H (op ds s) Q->r xs H Q
end
section
variable{σ:L2.St}{H:Hp}
theorem tD.bnd{f:E}{k:D->M D}{Q:VK}(h:tD K cm W (λe=>bnd (f e) k) σ H Q):tD K cm W f σ H λx H1=>∃ p e s d,RE K p H1 e σ/\RS K cm p s H1/\RV K p H1 d x/\Po K cm W (RV K) p σ H1 (k d s) Q:=by
 obtain⟨p,e,s,re,rs,q⟩:=h;refine⟨p,e,s,re,rs,(Po.bnd (rel1:=RV K) q).imp ?_⟩;rintro v H1 ⟨d,p1,s1,f,rs1,rv,q1⟩;exact⟨p1,e,s1,d,re.mono f,rs1,rv,q1⟩
theorem tD.two{a b:E}{k:D->D->M D}{Q:VK}(h:tD K cm W (e2 k a b) σ H Q):tD K cm W a σ H λx H1=>tD K cm W b σ H1 λy H2=>∃ p e s d1 d2,RE K p H2 e σ/\RS K cm p s H2/\RV K p H2 d1 x/\RV K p H2 d2 y/\Po K cm W (RV K) p σ H2 (k d1 d2 s) Q:=by
 obtain⟨p,e,s,re,rs,q⟩:=h;refine⟨p,e,s,re,rs,(Po.bnd (rel1:=RV K) q).imp ?_⟩;rintro v H1 ⟨d,p1,s1,f,rs1,rv,q1⟩;refine⟨p1,e,s1,re.mono f,rs1,(Po.bnd (rel1:=RV K) q1).imp ?_⟩;rintro w H2 ⟨d',p2,s2,f2,rs2,rw',q2⟩;exact⟨p2,e,s2,d,d',(re.mono f).mono f2,rs2,rv.mono f2,rw',q2⟩
theorem tD.args{es:EL}{k:List D->M D}{Q:VK}(h:tD K cm W (eN k es) σ H Q):tL K cm W es σ H λxs H1=>∃ p e s ds,RE K p H1 e σ/\RS K cm p s H1/\RVs K p H1 ds xs/\Po K cm W (RV K) p σ H1 (k ds s) Q:=by
 obtain⟨p,e,s,re,rs,q⟩:=h;refine⟨p,e,s,re,rs,(Po.bnd (rel1:=RVs K) q).imp ?_⟩;rintro v H1 ⟨d,p1,s1,f,rs1,rv,q1⟩;exact⟨p1,e,s1,d,re.mono f,rs1,rv,q1⟩
end
section
variable{X:Cx}{a b:Expr}{fa fb:E}{pos:Pos}
theorem zg(i:Nat){x:Str}{pos:Pos}(hN:X.N[i]?=some x:=by rfl)(hv:Vis X.env.scope x:=by first | exact Or.inl rfl | exact Or.inr (Or.inl rfl) | exact Or.inr (Or.inr rfl))(hd:(x == ("__debug__":Str))=false:=by decide)
  (hcd:(x == ("__classdict__":Str))=false:=by decide):JE X cm W (.Name x pos) (zf i):=by
 refine(pe_var hN hv hd hcd).imp ?_;rintro σ H Q ⟨p,e,s,re,rs,q⟩;unfold zf at q
 match h:e[i]?,q with
 | some (some d),q =>
  obtain⟨v,h1,h2⟩:=re.2 i d h;exact⟨v,h1,q.ok rs h2⟩
theorem zcD{x:Expr}{d:D}{v:V}(h:PE X x (tC v))(r:∀ p H,RV X.K p H d v):JE X cm W x (eC d):=by
 refine h.imp ?_;rintro σ H Q ⟨p,e,s,re,rs,q⟩;exact Po.ok q rs (r p H)
theorem zG{i:Int}{j pos}:JE X cm W (.Constant (.int i) j pos) (eC (.int i)):=zcD pe_int λ_ _=>by simp[RV]
theorem zbG{i:Bool}{j pos}:JE X cm W (.Constant (.bool i) j pos) (eC (.bl i)):=zcD pe_bl λ_ _=>by simp[RV]
theorem zeq{j pos}:JE X cm W (.Constant .none j pos) (eC .non):=zcD pe_non λ_ _=>by simp[RV]
theorem zaW{x:Str}{j pos}:JE X cm W (.Constant (.str x) j pos) (eC (.str x)):=zcD pe_str λ_ _=>by simp[RV]
structure GlobC(K:oU)(mg:Str->Option Value)(x:Str)(d:D):Prop where
 ex:∃ v u,mg x=some u/\RelV v u/\∀ p H,RV K p H d v
theorem zhY{x:Str}{d:D}{pos:Pos}(h:GlobC X.K X.mg x d)(hg:Gl X x:=by rfl)(hd:(x == ("__debug__":Str))=false:=by decide):JE X cm W (.Name x pos) (eC d):=by
 obtain⟨v,u,h1,h2,h3⟩:=h.ex;exact zcD (pe_glob hg h1 h2 hd) h3
theorem wY{op:Operator}{f:D->D->M D}(ho:S2 X cm (binaryOp op) f)(ha:JE X cm W a fa)(hb:JE X cm W b fb):JE X cm W (.BinOp a op b pos) (e2 f fa fb):=by
 obtain⟨r,h1,h2⟩:=ho;refine(pe_op h1 ha hb).imp λσ H Q q=>?_;refine(?_:tOp r _ _ σ H Q);obtain⟨p,e,s,re,rs,q⟩:=tD.two q;refine⟨p,e,s,re,rs,q.imp ?_⟩;rintro x H1 ⟨p,e,s,re,rs,q⟩;refine⟨p,e,s,re,rs,q.imp ?_⟩;rintro y H2 ⟨p,e,s,d1,d2,re,rs,r1,r2,q⟩;exact h2 W p s σ H2 x y d1 d2 Q rs r1 r2 q
theorem zda{op:CmpOp}{f:D->D->M D}(ho:S2 X cm (compareOp op) f)(ha:JE X cm W a fa)(hb:JE X cm W b fb)(hm:behindInMarks op b=false:=by first | exact nomark _ | rfl):JE X cm W (.Compare a [op] [b] pos) (e2 f fa fb):=by
 obtain⟨r,h1,h2⟩:=ho;refine(pe_cmpR h1 ha hb hm).imp λσ H Q q=>?_;refine(?_:tOp r _ _ σ H Q);obtain⟨p,e,s,re,rs,q⟩:=tD.two q;refine⟨p,e,s,re,rs,q.imp ?_⟩;rintro x H1 ⟨p,e,s,re,rs,q⟩;refine⟨p,e,s,re,rs,q.imp ?_⟩;rintro y H2 ⟨p,e,s,d1,d2,re,rs,r1,r2,q⟩;exact h2 W p s σ H2 x y d1 d2 Q rs r1 r2 q
theorem zmo(ha:JE X cm W a fa):JE X cm W (.UnaryOp .USub a pos) (e1 zlD fa):=by
 refine(pe_un un_neg ha).imp λσ H Q q=>?_;obtain⟨p,e,s,re,rs,q⟩:=tD.bnd q;refine⟨p,e,s,re,rs,q.imp ?_⟩;rintro x H1 ⟨p,e,s,d,re,rs,r1,q⟩
 cases d <;> simp only[zlD]at q <;> first | exact False.elim q | skip
 simp only[RV]at r1;exact⟨_,r1,q.ok rs (by simp[RV])⟩
end
end Fc
namespace Fc
open PySem PySem.Spec PyProof.Rows L2
section
variable{K:oU}{cm:CM}{W:WX}{p:List Addr}{s:S}{σ:L2.St}{H:Hp}
theorem yw(rs:RS K cm p s H){n:Nat}{x:V}{ds:List D}(r:RV K p H (.ref n) x)(h:s[n]?=some (.lst ds)):∃ a vs,x=.ref a/\p[n]?=some a/\H a=some (.lst vs)/\RVs K p H ds vs:=by
 simp only[RV]at r;obtain⟨a,ha,rfl⟩:=r;obtain⟨b,hb,u,e,vs,rfl,q⟩:=rs.at h;rw[ha]at hb;cases hb;exact⟨a,vs,rfl,ha,e,q⟩
theorem yz{x:V}{i:Int}(r:RV K p H (.int i) x):x=.int i:=by simpa[RV]using r
theorem zaJ{x:V}{i:Bool}(r:RV K p H (.bl i) x):x=.bl i:=by simpa[RV]using r
theorem wQ{x:V}{i:Str}(r:RV K p H (.str i) x):x=.str i:=by simpa[RV]using r
theorem zbs{x:V}(r:RV K p H .non x):x=.non:=by simpa[RV]using r
theorem xV{x:V}{ds:List D}(r:RV K p H (.tup ds) x):∃ a vs,x=.ref a/\H a=some (.tup vs)/\RVs K p H ds vs:=by simpa[RV]using r
theorem wu(i:Int):RV K p H (.int i) (.int i):=by simp[RV]
theorem zay(i:Bool):RV K p H (.bl i) (.bl i):=by simp[RV]
theorem km(i:Str):RV K p H (.str i) (.str i):=by simp[RV]
theorem zhM:RV K p H .non .non:=by simp[RV]
theorem zaz{a:Addr}{vs:List V}{ds:List D}(h:H a=some (.tup vs))(r:RVs K p H ds vs):RV K p H (.tup ds) (.ref a):=by
 simp only[RV];exact⟨a,vs,rfl,h,r⟩
theorem wW{a:Addr}{n:Nat}(h:p[n]?=some a):RV K p H (.ref n) (.ref a):=by
 simp only[RV];exact⟨a,h,rfl⟩
theorem zaM{n:Nat}(h:sz n=true):n<=sizeLine:=by rw[sizeLine_eq];exact of_decide_eq_true h
theorem Po.newl{ds:List D}{vs:List V}{Q:VK}(h:Po K cm W (RV K) p σ H (new (.lst ds) s) Q)(rs:RS K cm p s H)(r:RVs K p H ds vs){a:Addr}(ha:H a=none):Q (.ref a) (upd H a (.lst vs)):=by
 obtain⟨f,rs',e⟩:=rs.new (o:=.lst ds) (u:=.lst vs) ha ⟨vs,rfl,r⟩;exact h _ _ _ f rs' (wW e)
theorem Po.newt{ds:List D}{vs:List V}{Q:VK}(h:Po K cm W (RV K) p σ H (some (.ok (.tup ds) s)) Q)(rs:RS K cm p s H)(r:RVs K p H ds vs){a:Addr}(ha:H a=none):Q (.ref a) (upd H a (.tup vs)):=by
 have k:=wR (u:=HO.tup vs) ha;exact h _ _ _ (Fut.same k) (rs.same k) (zaz upd_same (r.mono (Fut.same k)))
mutual
theorem zbL(rs:RS K cm p s H):∀(n:Nat) (d:D) {v:V}{x:PyData},RV K p H d v->dat s n d=some x->Dp K H v x
 | n,.non,v,x,r,e=>by
  cases n <;> (simp only[dat]at e;cases e;rw[zbs r];exact .non)
 | n,.bl b,v,x,r,e=>by
  cases n <;> (simp only[dat]at e;cases e;rw[zaJ r];exact .bl b)
 | n,.int b,v,x,r,e=>by
  cases n <;> (simp only[dat]at e;cases e;rw[yz r];exact .int b)
 | n,.str b,v,x,r,e=>by
  cases n <;> (simp only[dat]at e;cases e;rw[wQ r];exact .str b)
 | n,.rol b,v,x,r,e=>by
  cases n <;> (simp only[dat]at e;cases e)
 | 0,.tup ds,v,x,r,e=>by simp only[dat]at e;cases e
 | 0,.ref a,v,x,r,e=>by simp only[dat]at e;cases e
 | 0,.stu ds,v,x,r,e=>by simp only[dat]at e;cases e
 | n+1,.stu ds,v,x,r,e=>by
  simp only[dat,tW]at e;obtain⟨xs,e,rfl⟩:=e;simp only[RV]at r;obtain⟨a,vs,rfl,h,q⟩:=r;exact .tup h.sq (zbM rs n ds q e)
 | n+1,.tup ds,v,x,r,e=>by
  simp only[dat,tW]at e;obtain⟨xs,e,rfl⟩:=e;obtain⟨a,vs,rfl,h,q⟩:=xV r;exact .tup (SqT.of h) (zbM rs n ds q e)
 | n+1,.ref a,v,x,r,e=>by
  simp only[dat,yu]at e
  cases h:s[a]? with
  | none=>rw[h]at e;cases e
  | some o =>
   rw[h]at e
   cases o with
   | lst ds =>
    obtain⟨xs,e1,rfl⟩:=tW.mp e;obtain⟨b,vs,rfl,_,hb,q⟩:=yw rs r h;exact .lst (SqL.of hb) (zbM rs n ds q e1)
   | _=>cases e
theorem zbM(rs:RS K cm p s H):∀(n:Nat) (ds:List D) {vs:List V}{xs:List PyData},RVs K p H ds vs->dats s n ds=some xs->DpAll K H vs xs
 | n,[],vs,xs,r,e=>by
  cases n <;> (simp only[dats]at e;cases e;simp only[RVs]at r;rw[r];exact .nil)
 | n,d::ds,vs,xs,r,e=>by
  simp only[RVs]at r;obtain⟨v,r',rfl,r1,r2⟩:=r;simp only[dats]at e;split at e
  . rename_i x xs' e1 e2;cases e;exact .cons (zbL rs n d r1 e1) (zbM rs n ds r2 e2)
  . cases e
end
theorem zfe{d:D}{k:Key}{v:V}(h:keyOf d=some k)(r:RV K p H d v):v=kV k:=by
 cases d <;> simp only[keyOf]at h <;> first | (cases h;done) | skip
 . cases h;exact yz r
 . cases h;exact wQ r
theorem zgl:∀{ds:List D}{ks:List Key}{vs:List V},keysOf ds=some ks->RVs K p H ds vs->vs=ks.map kV
 | [],ks,vs,h,r=>by
  simp only[keysOf]at h;cases h;simp only[RVs]at r;rw[r];rfl
 | d::ds,ks,vs,h,r=>by
  simp only[keysOf]at h;simp only[RVs]at r;obtain⟨v,r',rfl,r1,r2⟩:=r;split at h
  . rename_i k ks' e1 e2;cases h;rw[zfe e1 r1,zgl e2 r2];rfl
  . cases h
theorem RKs.get{κ:Type}[DecidableEq κ](k:κ):∀{ds:List (κ×D)}{vs:List (κ×V)},RKs K p H ds vs->(∀ d,kget ds k=some d->∃ v,valV vs k=some v/\RV K p H d v)/\(kget ds k=none->valV vs k=none)
 | [],vs,r=>by
  simp only[RKs]at r;subst r;exact⟨λd e=>by simp[kget]at e,λ_=>rfl⟩
 | d::ds,vs,r=>by
  simp only[RKs]at r;obtain⟨v,r',rfl,r1,r2⟩:=r;have ih:=RKs.get k r2;by_cases hk:d.1=k
  . refine⟨λx e=>?_,λe=>?_⟩
    . simp[kget,hk]at e;subst e;exact⟨v,by rw[valV_pos hk],r1⟩
    . simp[kget,hk]at e
  . refine⟨λx e=>?_,λe=>?_⟩
    . have e':kget ds k=some x:=by simpa[kget,hk]using e
      obtain⟨w,q1,q2⟩:=ih.1 x e';exact⟨w,by rw[valV_neg hk];exact q1,q2⟩
    . have e':kget ds k=none:=by simpa[kget,hk]using e
      rw[valV_neg hk];exact ih.2 e'
theorem RKs.keys{κ:Type}:∀{ds:List (κ×D)}{vs:List (κ×V)},RKs K p H ds vs->ds.map (·.1)=vs.map (·.1)
 | [],vs,r=>by simp only[RKs]at r;rw[r];rfl
 | d::ds,vs,r=>by
  simp only[RKs]at r;obtain⟨v,r',rfl,r1,r2⟩:=r;simp[RKs.keys r2]
theorem RKs.length{κ:Type}{ds:List (κ×D)}{vs:List (κ×V)}(r:RKs K p H ds vs):ds.length=vs.length:=by
 have:=congrArg List.length r.keys;simpa using this
theorem zdS(rs:RS K cm p s H){n:Nat}{x:V}{o:O}{k:D}{kv:V}{r:Option D}(rx:RV K p H (.ref n) x)(h:s[n]?=some o)(rk:RV K p H k kv)(e:dget (unl o) k=some r) :
   ∃ a,x=.ref a/\((∃ d v,r=some d/\DGet H a kv (some v)/\RV K p H d v)\/(r=none/\DGet H a kv none)):=by
 simp only[RV]at rx;obtain⟨a,ha,rfl⟩:=rx;obtain⟨b,hb,hr⟩:=rs.at h;rw[ha]at hb;cases hb;refine⟨a,rfl,?_⟩
 have rdK:∀ kvs,unl o=.dK kvs->∃ ws,Rd H a (.dK ws)/\RKs K p H kvs ws:=λkvs q=>by
   cases o with
   | lck o' =>
     obtain⟨od,u,e1,_,c⟩:=hr;simp only[unl]at q;subst q;obtain⟨ws,rfl,c⟩:=c;exact⟨ws,.inr ⟨od,e1⟩,c⟩
   | dK _ =>
     simp only[unl]at q;cases q;obtain⟨u,e1,ws,rfl,c⟩:=hr;exact⟨ws,.inl e1,c⟩
   | _=>simp only[unl]at q;cases q
 have rdT:∀ kvs,unl o=.dT kvs->∃ ws,Rd H a (.dT ws)/\RKs K p H kvs ws:=λkvs q=>by
   cases o with
   | lck o' =>
     obtain⟨od,u,e1,_,c⟩:=hr;simp only[unl]at q;subst q;obtain⟨ws,rfl,c⟩:=c;exact⟨ws,.inr ⟨od,e1⟩,c⟩
   | dT _ =>
     simp only[unl]at q;cases q;obtain⟨u,e1,ws,rfl,c⟩:=hr;exact⟨ws,.inl e1,c⟩
   | _=>simp only[unl]at q;cases q
 unfold dget at e;split at e
 . rename_i kvs q;obtain⟨k',e1,rfl⟩:=tW.mp e;obtain⟨ws,h1,h2⟩:=rdK kvs q;have ek:=zfe e1 rk;subst ek;have g:=h2.get k'
   cases hg:kget kvs k' with
   | some d =>
     obtain⟨v,g1,g2⟩:=g.1 d hg;exact .inl ⟨d,v,rfl,.inl ⟨ws,k',h1,rfl,g1.symm⟩,g2⟩
   | none=>exact .inr ⟨rfl,.inl ⟨ws,k',h1,rfl,(g.2 hg).symm⟩⟩
 . rename_i kvs q;split at e
   . rename_i ds;obtain⟨k',e1,rfl⟩:=tW.mp e;obtain⟨ws,h1,h2⟩:=rdT kvs q;obtain⟨b,vs,rfl,hb,rb⟩:=xV rk;have ek:=zgl e1 rb;subst ek;have g:=h2.get k'
     cases hg:kget kvs k' with
     | some d =>
      obtain⟨v,g1,g2⟩:=g.1 d hg;exact .inl ⟨d,v,rfl,.inr ⟨ws,k',b,h1,rfl,hb,g1.symm⟩,g2⟩
     | none=>exact .inr ⟨rfl,.inr ⟨ws,k',b,h1,rfl,hb,(g.2 hg).symm⟩⟩
   . cases e
 . cases e
end
section
variable{X:Cx}{cm:CM}
theorem s_oAdd:S2 X cm (binaryOp .Add) xH:=by
 refine⟨_,op_add.or (op_add_str.or (op_cat.or op_catA)),λW p s σ H x y dx dy Q rs rx ry q=>?_⟩;unfold xH at q;split at q
 . rename_i i j;exact .inl ⟨i,j,yz rx,yz ry,Po.ok q rs (wu _)⟩
 . rename_i a b;split at q
   . rename_i h;exact .inr (.inl ⟨a,b,wQ rx,wQ ry,zaM h,Po.ok q rs (km _)⟩)
   . exact q.elim
 . rename_i a b;split at q
   . rename_i h;obtain⟨c,vs,rfl,h1,r1⟩:=xV rx;obtain⟨d,ws,rfl,h2,r2⟩:=xV ry;refine .inr (.inr (.inr ⟨c,d,vs,ws,rfl,rfl,SqT.of h1,SqT.of h2,by rw[← r1.length,← r2.length];exact zaM h,λe=>?_,λ_ e=>?_,λ_ _ a ha=>?_⟩))
     . have e':a=[]:=pN.mp (by rw[r1.length,e];rfl);subst e';exact Po.ok q rs (zaz h2 r2)
     . have e':b=[]:=pN.mp (by rw[r2.length,e];rfl);subst e';refine Po.ok q rs ?_;rw[sJ];exact zaz h1 r1
     . exact Po.newt q rs (r1.append r2) ha
   . exact q.elim
 . rename_i m n;split at q
   . rename_i a b h1 h2;split at q
     . rename_i h;obtain⟨c,vs,rfl,_,g1,r1⟩:=yw rs rx h1;obtain⟨d,ws,rfl,_,g2,r2⟩:=yw rs ry h2;exact .inr (.inr (.inl ⟨c,d,vs,ws,rfl,rfl,g1,g2,by rw[← r1.length,← r2.length];exact zaM h,λa ha=>Po.newl q rs (r1.append r2) ha⟩))
     . exact q.elim
   . exact q.elim
 . exact q.elim
theorem wO{K:oU}{W:WX}{f:S->D->D->Option D}{p s σ H Q}{dx dy:D}(q:Po K cm W (RV K) p σ H (zbA f dx dy s) Q):∃ d,f s dx dy=some d/\Po K cm W (RV K) p σ H (some (.ok d s)) Q:=by
 unfold zbA at q
 cases h:f s dx dy with
 | none=>rw[h]at q;exact q.elim
 | some d=>rw[h]at q;exact⟨d,rfl,q⟩
theorem s_oSub:S2 X cm (binaryOp .Sub) znB:=by
 refine⟨_,op_sub,λW p s σ H x y dx dy Q rs rx ry q=>?_⟩;obtain⟨d,e,q⟩:=wO q;split at e
 . rename_i i j;cases e;exact⟨i,j,yz rx,yz ry,Po.ok q rs (wu _)⟩
 . cases e
theorem s_oMul:S2 X cm (binaryOp .Mult) jN:=by
 refine⟨_,op_mulW.or op_rep,λW p s σ H x y dx dy Q rs rx ry q=>?_⟩;unfold jN at q;split at q
 . rename_i i j;split at q
   . rename_i h;refine .inl ⟨i,j,yz rx,yz ry,?_,Po.ok q rs (wu _)⟩;show i.natAbs.log2+j.natAbs.log2<1000000;unfold bits at h;omega
   . exact q.elim
 . rename_i m k;split at q
   . rename_i a h1;split at q
     . rename_i h;obtain⟨c,vs,rfl,_,g1,r1⟩:=yw rs rx h1;simp only[sG,decide_eq_true_eq]at h;have hk:k.toNat=k.toNat:=rfl;refine .inr ⟨c,k,vs,rfl,yz ry,g1,?_,by have:=h.1.2;omega,by rw[← r1.length];exact zaM h.2,λb hb=>?_⟩
       . have:=h.1.1;omega
       . refine Po.newl q rs ?_ hb
         have:∀ n:Nat,RVs X.K p H (List.replicate n a).flatten (List.replicate n vs).flatten:=by
          intro n
          induction n with
          | zero=>simp[RVs]
          | succ n ih =>
           rw[oE,oE,pO,pO];exact r1.append ih
         exact this _
     . exact q.elim
   . exact q.elim
 . exact q.elim
theorem s_oMod:S2 X cm (binaryOp .Mod) oMod:=by
 refine⟨_,op_mod,λW p s σ H x y dx dy Q rs rx ry q=>?_⟩;obtain⟨d,e,q⟩:=wO q;split at e
 . rename_i i j;split at e
   . rename_i h;cases e;exact⟨i,j,yz rx,yz ry,h,Po.ok q rs (wu _)⟩
   . cases e
 . cases e
theorem s_oDiv:S2 X cm (binaryOp .FloorDiv) oDiv:=by
 refine⟨_,op_fdivW,λW p s σ H x y dx dy Q rs rx ry q=>?_⟩;obtain⟨d,e,q⟩:=wO q;split at e
 . rename_i i j;split at e
   . rename_i h;cases e;simp only[sG,decide_eq_true_eq]at h;refine⟨i,j,yz rx,yz ry,⟨h.1,?_⟩,Po.ok q rs (wu _)⟩;have:=h.2;unfold bits at this;omega
   . cases e
 . cases e
theorem zpo:OpR X (binaryOp .Pow) (rI (λi j=>0<=j/\(Builtin.Int.intBits i:Int)*j<=2 ^ 27) λi j=>.int (i ^ j.toNat)):=opI λ_ _ _ _ _ _ _ hc q=>pow_int hc.1 hc.2 q
theorem s_oPow:S2 X cm (binaryOp .Pow) zgt:=by
 refine⟨_,zpo,λW p s σ H x y dx dy Q rs rx ry q=>?_⟩;obtain⟨d,e,q⟩:=wO q;split at e
 . rename_i i j;split at e
   . rename_i h;cases e;simp only[sG,decide_eq_true_eq]at h;refine⟨i,j,yz rx,yz ry,⟨h.1,?_⟩,Po.ok q rs (wu _)⟩;have h2:=h.2
     have hb:Builtin.Int.intBits i<=bits i+1:=by
      unfold Builtin.Int.intBits bits;split <;> omega
     have h3:Builtin.Int.intBits i*j.toNat<=100000:=rN (Nat.mul_le_mul_right _ hb) h2
     have h4:((Builtin.Int.intBits i*j.toNat:Nat):Int)=(Builtin.Int.intBits i:Int)*j:=by
      rw[Int.natCast_mul,Int.toNat_of_nonneg h.1]
     omega
   . cases e
 . cases e
theorem s_cmpI{op:CmpOp}{f:Int->Int->Bool}(h:OpR X (compareOp op) (rI0 λi j=>.bl (f i j))):S2 X cm (compareOp op) (zsy f):=by
 refine⟨_,h,λW p s σ H x y dx dy Q rs rx ry q=>?_⟩;obtain⟨d,e,q⟩:=wO q;split at e
 . rename_i i j;cases e;exact⟨i,j,yz rx,yz ry,Po.ok q rs (zay _)⟩
 . cases e
theorem s_oLt:S2 X cm (compareOp .Lt) oLt:=s_cmpI op_lt
theorem s_oLe:S2 X cm (compareOp .LtE) oLe:=s_cmpI op_le
theorem s_oGt:S2 X cm (compareOp .Gt) oGt:=s_cmpI op_gt
section
variable{K:oU}{cm:CM}{W:WX}{p:List Addr}{s:S}{σ:L2.St}{H:Hp}{X:Cx}{pins:List (Addr×Obj)}{s0:Shared}
theorem zaP{n:Nat}{ds:List D}(h:yu s n=some ds):s[n]?=some (.lst ds):=by
 unfold yu at h;split at h
 . rename_i e;cases h;exact e
 . cases h
theorem zhf{f:D->D->Option Bool}:∀{ds es:List D},ziu f ds es=true->ds.length=es.length
 | [],[],_=>rfl
 | _::ds,_::es,h=>by
  simp only[ziu,sG]at h;simp[zhf h.2]
 | [],_::_,h=>by simp[ziu]at h
 | _::_,[],h=>by simp[ziu]at h
theorem zcS{n:Nat}:(List.range n).all (λ_=>true)=true:=by simp
theorem jM{n:Nat}{x:V}{v:Value}{ds:List D}(I:Inv X pins σ H s0)(rs:RS X.K cm p s H)(r:RV X.K p H (.ref n) x)(rx:RelV x v)(h:s[n]?=some (.lst ds)) :
  ∃ a vs us,v=.ref a/\RVs X.K p H ds vs/\Vals vs us/\s0.heap.IsList a us.toArray:=by
 obtain⟨a,vs,rfl,_,hH,rr⟩:=yw rs r h;obtain⟨us,r2,pl,_⟩:=I.list (SqL.of hH);cases (show v=Value.ref a from rx);exact⟨a,vs,us,rfl,rr,r2,pl.isList⟩
theorem zdN{x:V}{v:Value}{ds:List D}(I:Inv X pins σ H s0)(r:RV X.K p H (.tup ds) x)(rx:RelV x v) :
  ∃ a vs us,v=.ref a/\RVs X.K p H ds vs/\Vals vs us/\s0.heap.IsTuple a us.toArray:=by
 obtain⟨a,vs,rfl,hH,rr⟩:=xV r;obtain⟨us,r2,⟨o,e,c,n,d⟩,_⟩:=I.tuple (SqT.of hH);cases (show v=Value.ref a from rx);exact⟨a,vs,us,rfl,rr,r2,⟨o,e,c,n,d⟩⟩
theorem zaO{A:Around}{f:D->D->Option Bool}(hf:∀(a b:D) {x y:V}{v u:Value},RV X.K p H a x->RV X.K p H b y->RelV x v->RelV y u->f a b=some true->SeqAt.EqAt A s0 v u true) :
  ∀(ds es:List D) {vs ws:List V}{us ts:List Value},RVs X.K p H ds vs->RVs X.K p H es ws->Vals vs us->Vals ws ts->ziu f ds es=true->∀ j (h1:j<us.length) (h2:j<ts.length),SeqAt.EqAt A s0 us[j] ts[j] true
 | [],_,vs,ws,us,ts,w1,_,w2,_,_,j,h1,_=>by
  simp only[RVs]at w1;subst w1;cases w2;simp at h1
 | _::_,[],vs,ws,us,ts,w1,z1,w2,z2,ht,j,_,_=>by simp[ziu]at ht
 | d::ds,e::es,vs,ws,us,ts,w1,z1,w2,z2,ht,j,h1,h2=>by
  simp only[ziu,sG,beq_iff_eq]at ht;simp only[RVs]at w1 z1;obtain⟨v,r,rfl,w3,w4⟩:=w1;obtain⟨v',r',rfl,z3,z4⟩:=z1
  cases w2 with
  | cons w5 w6 =>
  cases z2 with
  | cons z5 z6 =>
  cases j with
  | zero=>exact hf d e w3 z3 w5 z5 ht.1
  | succ j=>exact zaO hf ds es w4 z4 w6 z6 ht.2 j (Nat.lt_of_succ_lt_succ h1) (Nat.lt_of_succ_lt_succ h2)
theorem zjB(I:Inv X pins σ H s0)(rs:RS X.K cm p s H):∀(n:Nat) (A:Around) (a b:D) {x y:V}{v u:Value}{k:Bool},RV X.K p H a x->RV X.K p H b y->RelV x v->RelV y u->eqZ s n a b=some k->A.units+n+64<cLine->SeqAt.EqAt A s0 v u k
 | 0,A,a,b,x,y,v,u,k,r1,r2,q1,q2,e,hu=>by simp[eqZ]at e
 | n+1,A,a,b,x,y,v,u,k,r1,r2,q1,q2,e,hu=>by
  unfold eqZ at e;split at e
  . rename_i d d' e1 e2;split at e
    . rename_i h;simp only[sG]at h;cases e;obtain⟨as,w1⟩:=Dp.reads I d x v (zbL rs 60 a r1 e1) q1;obtain⟨bs,w2⟩:=Dp.reads I d' y u (zbL rs 60 b r2 e2) q2;exact SeqAt.eqAt_reads d d' A s0 v u as bs w1 w2 (SeqAt.canLay_of_shaped h.1) (SeqAt.canLay_of_shaped h.2) (SeqAt.room_of_shaped h.1 (by omega))
    . cases e
  . split at e
    . rename_i i j;split at e
      . rename_i hij;subst hij;cases e;simp only[RV]at r1 r2;obtain⟨t,h1,rfl⟩:=r1;obtain⟨t',h2,rfl⟩:=r2;rw[h1]at h2;cases h2;cases (show v=Value.ref t from q1);cases (show u=Value.ref t from q2);exact SeqAt.EqAt.same _
      . rename_i hij;split at e
        . rename_i ds es l1 l2;obtain⟨a1,vs,us,rfl,w1,w2,w3⟩:=jM I rs r1 q1 (zaP l1);obtain⟨a2,vs',us',rfl,z1,z2,z3⟩:=jM I rs r2 q2 (zaP l2)
          have n1:us.length=ds.length:=by rw[← w2.length,w1.length]
          have n2:us'.length=es.length:=by rw[← z2.length,z1.length]
          split at e
          . rename_i hl;split at e
            . rename_i ht;cases e;by_cases hne:a1=a2
              . subst hne;exact SeqAt.EqAt.same _
              . have:=SeqAt.RcAt.lists (e:=λ_=>true) w3 z3 (by simp;omega) (by omega) λj j1 j2=>zaO (λa b x y v u r1 r2 q1 q2 e=>zjB I rs n A.in1 a b r1 r2 q1 q2 e (by show A.units+1+n+64<cLine;omega)) ds es w1 z1 w2 z2 ht j (by simpa using j1) (by simpa using j2);rw[zcS]at this;exact SeqAt.EqAt.of_refs hne this
            . cases e
          . rename_i hl;cases e
            have hne:a1≠a2:=λz=>by
              subst z;obtain⟨o,g1,_,m1,g2⟩:=w3;obtain⟨o',g1',_,m1',g2'⟩:=z3;rw[g1]at g1';cases g1';rw[g2]at g2'
              have:us.toArray.size=us'.toArray.size:=by injection g2' with z;rw[z]
              simp at this;omega
            exact SeqAt.EqAt.of_refs hne (SeqAt.RcAt.lists_lengths w3 z3 (by simp;omega) (by omega))
        . cases e
    . rename_i ds es _;split at e
      . rename_i ht;cases e;obtain⟨a1,vs,us,rfl,w1,w2,w3⟩:=zdN I r1 q1;obtain⟨a2,vs',us',rfl,z1,z2,z3⟩:=zdN I r2 q2
        have n1:us.length=ds.length:=by rw[← w2.length,w1.length]
        have n2:us'.length=es.length:=by rw[← z2.length,z1.length]
        have hl:=zhf ht;by_cases hne:a1=a2
        . subst hne;exact SeqAt.EqAt.same _
        . have:=SeqAt.RcAt.tuples (e:=λ_=>true) w3 z3 (by omega) λj j1 j2=>zaO (λa b x y v u r1 r2 q1 q2 e=>zjB I rs n A.in1 a b r1 r2 q1 q2 e (by show A.units+1+n+64<cLine;omega)) ds es w1 z1 w2 z2 ht j (by simpa using j1) (by simpa using j2);rw[zcS,show(us.toArray.size == us'.toArray.size)=true by simp;omega]at this;exact SeqAt.EqAt.of_refs hne this
      . cases e
    . cases e
theorem zjA{A:Around}{ne:Bool}(I:Inv X pins σ H s0)(rs:RS X.K cm p s H){a b:D}{x y:V}{v u:Value}{k:Bool}(r1:RV X.K p H a x)(r2:RV X.K p H b y)(q1:RelV x v)(q2:RelV y u)(e:eqT s a b=some k)(hu:A.units+80<cLine) :
   SeqAt.RcAt A s0 v u k/\SeqAt.RcNeAt A s0 v u (!k):=by
 unfold eqT at e;split at e
 . split at e
   . rename_i ds es l1 l2;obtain⟨a1,vs,us,rfl,w1,w2,w3⟩:=jM I rs r1 q1 (zaP l1);obtain⟨a2,vs',us',rfl,z1,z2,z3⟩:=jM I rs r2 q2 (zaP l2)
     have n1:us.length=ds.length:=by rw[← w2.length,w1.length]
     have n2:us'.length=es.length:=by rw[← z2.length,z1.length]
     split at e
     . rename_i hl;split at e
       . rename_i ht;cases e;have he:∀ j (j1:j<us.toArray.size) (j2:j<us'.toArray.size),SeqAt.EqAt A.in1 s0 us.toArray[j] us'.toArray[j] ((λ_=>true) j):=λj j1 j2=>zaO (λa b x y v u r1 r2 q1 q2 e=>zjB I rs 8 A.in1 a b r1 r2 q1 q2 e (by show A.units+1+8+64<cLine;omega)) ds es w1 z1 w2 z2 ht j (by simpa using j1) (by simpa using j2);have h1:=SeqAt.RcAt.lists (e:=λ_=>true) w3 z3 (by simp;omega) (by omega) he;have h2:=SeqAt.RcNeAt.lists (e:=λ_=>true) w3 z3 (by simp;omega) (by omega) he;rw[zcS]at h1 h2;exact⟨h1,h2⟩
       . cases e
     . rename_i hl;cases e;exact⟨SeqAt.RcAt.lists_lengths w3 z3 (by simp;omega) (by omega),SeqAt.RcNeAt.lists_lengths w3 z3 (by simp;omega) (by omega)⟩
   . cases e
 . cases e
def rZ(K:oU)(cm:CM)(g:Bool->Bool):R2:=λx y H Q=>∃ p s dx dy b,RS K cm p s H/\RV K p H dx x/\RV K p H dy y/\eqT s dx dy=some b/\Q (.bl (g b)) H
theorem zri{k:Nat}(hr:Room k X.A):OpR X (compareOp .Eq) (rZ X.K cm id):=by
 intro pins s0 σ H x y v u Q I rx ry h;obtain⟨p,s,dx,dy,b,rs,r1,r2,e,q⟩:=h;exact(zjA (ne:=true) I rs r1 r2 rx ry e (by have:=hr.un;omega)).1 X.prog X.w _ _ ⟨.bl b,H,I,rfl,q⟩
theorem zrj{k:Nat}(hr:Room k X.A):OpR X (compareOp .NotEq) (rZ X.K cm not):=by
 intro pins s0 σ H x y v u Q I rx ry h;obtain⟨p,s,dx,dy,b,rs,r1,r2,e,q⟩:=h;exact(zjA (ne:=true) I rs r1 r2 rx ry e (by have:=hr.un;omega)).2 X.prog X.w _ _ ⟨.bl (!b),H,I,rfl,q⟩
end
theorem zhs{K:oU}{p:List Addr}{s:S}{H:Hp}{dx dy:D}{x y:V}{b:Bool}(rs:RS K cm p s H)(rx:RV K p H dx x)(ry:RV K p H dy y)(e:eqD s dx dy=some b) :
   (∃ d d',Dp K H x d/\Dp K H y d'/\SeqAt.shaped d=true/\SeqAt.shaped d'=true/\PyData.eqv d d'=b)\/eqT s dx dy=some b:=by
 unfold eqD at e;split at e
 . rename_i d d' e1 e2;split at e
   . rename_i h;simp only[sG]at h;cases e;exact .inl ⟨d,d',zbL rs 60 dx rx e1,zbL rs 60 dy ry e2,h.1,h.2,rfl⟩
   . cases e
 . exact .inr e
theorem s_oEq{k:Nat}(hr:Room k X.A):S2 X cm (compareOp .Eq) oEq:=by
 refine⟨λx y H Q=>rEqD X.K x y H Q\/rZ X.K cm id x y H Q,λpins s σ H x y v u Q I rx ry h=>h.elim (λh=>op_eqD hr.units pins s σ H x y v u Q I rx ry h) λh=>zri hr pins s σ H x y v u Q I rx ry h,λW p s σ H x y dx dy Q rs rx ry q=>?_⟩;obtain⟨d,e,q⟩:=wO q;obtain⟨b,e1,rfl⟩:=tW.mp e;have q':=Po.ok q rs (zay _)
 rcases zhs rs rx ry e1 with ⟨d,d',h1,h2,h3,h4,h5⟩ | h
 . exact .inl ⟨d,d',h1,h2,h3,h4,by rw[h5];exact q'⟩
 . exact .inr ⟨p,s,dx,dy,b,rs,rx,ry,h,q'⟩
theorem s_oNe{k:Nat}(hr:Room k X.A):S2 X cm (compareOp .NotEq) oNe:=by
 refine⟨λx y H Q=>rNeD X.K x y H Q\/rZ X.K cm not x y H Q,λpins s σ H x y v u Q I rx ry h=>h.elim (λh=>op_neD hr.units pins s σ H x y v u Q I rx ry h) λh=>zrj hr pins s σ H x y v u Q I rx ry h,λW p s σ H x y dx dy Q rs rx ry q=>?_⟩;obtain⟨d,e,q⟩:=wO q;obtain⟨b,e1,rfl⟩:=tW.mp e;have q':=Po.ok q rs (zay _)
 rcases zhs rs rx ry e1 with ⟨d,d',h1,h2,h3,h4,h5⟩ | h
 . exact .inl ⟨d,d',h1,h2,h3,h4,by rw[h5];exact q'⟩
 . exact .inr ⟨p,s,dx,dy,b,rs,rx,ry,h,q'⟩
theorem zjD{K:oU}{p:List Addr}{H:Hp}{d:D}{v:V}(h:flat d=true)(r:RV K p H d v):v=vOf d/\flatV v=true:=by
 cases d <;> simp only[flat]at h <;> first | (cases h;done) | skip
 . rw[zbs r];exact⟨rfl,rfl⟩
 . rw[zaJ r];exact⟨rfl,rfl⟩
 . rw[yz r];exact⟨rfl,rfl⟩
 . rw[wQ r];exact⟨rfl,rfl⟩
theorem zhv{K:oU}{p:List Addr}{H:Hp}:∀{ds:List D}{vs:List V},ds.all flat=true->RVs K p H ds vs->vs=ds.map vOf/\vs.all flatV=true
 | [],vs,_,r=>by simp only[RVs]at r;subst r;exact⟨rfl,rfl⟩
 | d::ds,vs,h,r=>by
  simp only[RVs]at r;obtain⟨v,r',rfl,r1,r2⟩:=r;simp only[pU,sG]at h;obtain⟨e1,f1⟩:=zjD h.1 r1;obtain⟨e2,f2⟩:=zhv h.2 r2;exact⟨by rw[e1,e2];rfl,by simp[f1,f2]⟩
def zts:R2:=λx y H Q=>∃ a o,y=.ref a/\DGet H a x o/\Q (.bl o.isSome) H
def zmk:R2:=λx y H Q=>∃ a o,y=.ref a/\DGet H a x o/\Q (.bl (!o.isSome)) H
theorem zpn(hu:X.A.units+1<cLine):OpR X (compareOp .In) zts:=by
 intro pins s σ H x y v u Q I rx ry h;obtain⟨a,o,rfl,g,q⟩:=h;cases (show u=Value.ref a from ry)
 exact d_in hu I g rx λs' I'=>⟨.bl _,H,I',rfl,q⟩
theorem ziP(hu:X.A.units+1<cLine):OpR X (compareOp .NotIn) zmk:=by
 intro pins s σ H x y v u Q I rx ry h;obtain⟨a,o,rfl,g,q⟩:=h;cases (show u=Value.ref a from ry)
 exact d_notIn hu I g rx λs' I'=>⟨.bl _,H,I',rfl,q⟩
theorem zlr{k:Nat}{A:Around}(hr:Room k A):A.units+65<cLine:=by have:=hr.un;omega
theorem zjO{K:oU}{p:List Addr}{s:S}{H:Hp}{dx dy:D}{x y:V}{b:Bool}(rs:RS K cm p s H)(rx:RV K p H dx x)(ry:RV K p H dy y)(e:isIn s dx dy=some b) :
   (∃ i j,x=.str i/\y=.str j/\b=!(Builtin.Str.occurrences j i 0 j.length 1).isEmpty) \/
   (∃ a xs,y=.ref a/\(SqL K H a xs\/SqT K H a xs)/\flatV x=true/\xs.all flatV=true/\b=inV x xs) \/
   (∃ d ds,Dp K H x d/\Dp K H y (.list ds)/\SeqAt.shaped d=true/\SeqAt.shaped (.list ds)=true/\b=ds.any λz=>PyData.eqv z d) \/
   (∃ a o,y=.ref a/\DGet H a x o/\b=o.isSome):=by
 unfold isIn at e;split at e
 . rename_i j;split at e
   . rename_i i;cases e;exact .inl ⟨i,j,wQ rx,wQ ry,rfl⟩
   . cases e
 . rename_i ds;split at e
   . rename_i h;simp only[sG]at h;cases e;obtain⟨a,vs,rfl,h1,r1⟩:=xV ry;obtain⟨e1,f1⟩:=zjD h.1 rx;obtain⟨e2,f2⟩:=zhv h.2 r1;refine .inr (.inl ⟨a,vs,rfl,.inr (SqT.of h1),f1,f2,?_⟩);rw[e2,e1];unfold inV;rw[List.any_map];rfl
   . cases e
 . rename_i n;split at e
   . rename_i ds h;split at e
     . rename_i d es e1 e2;split at e
       . rename_i h';simp only[sG]at h';cases e;obtain⟨a,vs,rfl,_,g,r⟩:=yw rs ry h;exact .inr (.inr (.inl ⟨d,es,zbL rs 60 dx rx e1,.lst (SqL.of g) (zbM rs 60 ds r e2),h'.1,h'.2,rfl⟩))
       . cases e
     . cases e
   . rename_i o h1 h2;obtain⟨r,e1,rfl⟩:=tW.mp e;obtain⟨a,rfl,h⟩:=zdS rs ry h2 rx e1
     rcases h with ⟨d,v,rfl,g,_⟩ | ⟨rfl,g⟩
     . exact .inr (.inr (.inr ⟨a,_,rfl,g,rfl⟩))
     . exact .inr (.inr (.inr ⟨a,_,rfl,g,rfl⟩))
   . cases e
 . cases e
theorem s_oIn{k:Nat}(hr:Room k X.A):S2 X cm (compareOp .In) oIn:=by
 refine⟨_,op_in_str.or (op_in_seq.or ((op_inD (zlr hr)).or (zpn (hu_of hr)))),λW p s σ H x y dx dy Q rs rx ry q=>?_⟩;obtain⟨d,e,q⟩:=wO q;obtain⟨b,e1,rfl⟩:=tW.mp e;have q':=Po.ok q rs (zay _)
 rcases zjO rs rx ry e1 with ⟨i,j,h1,h2,h3⟩ | ⟨a,xs,h1,h2,h3,h4,h5⟩ | ⟨d,ds,h1,h2,h3,h4,h5⟩ | ⟨a,o,h1,h2,h3⟩
 . exact .inl ⟨i,j,h1,h2,h3 ▸ q'⟩
 . refine .inr (.inl ⟨a,xs,h1,h2,h3,h4,?_⟩);rw[h5]at q';exact q'
 . exact .inr (.inr (.inl ⟨d,ds,h1,h2,h3,h4,h5 ▸ q'⟩))
 . exact .inr (.inr (.inr ⟨a,o,h1,h2,h3 ▸ q'⟩))
theorem s_oNotIn{k:Nat}(hr:Room k X.A):S2 X cm (compareOp .NotIn) uC:=by
 refine⟨_,L2.op_notin_str.or (op_notIn_seq.or ((op_notInD (zlr hr)).or (ziP (hu_of hr)))),λW p s σ H x y dx dy Q rs rx ry q=>?_⟩;obtain⟨d,e,q⟩:=wO q;obtain⟨b,e1,rfl⟩:=tW.mp e;have q':=Po.ok q rs (zay _)
 rcases zjO rs rx ry e1 with ⟨i,j,h1,h2,h3⟩ | ⟨a,xs,h1,h2,h3,h4,h5⟩ | ⟨d,ds,h1,h2,h3,h4,h5⟩ | ⟨a,o,h1,h2,h3⟩
 . exact .inl ⟨i,j,h1,h2,h3 ▸ q'⟩
 . refine .inr (.inl ⟨a,xs,h1,h2,h3,h4,?_⟩);rw[h5]at q';exact q'
 . exact .inr (.inr (.inl ⟨d,ds,h1,h2,h3,h4,h5 ▸ q'⟩))
 . exact .inr (.inr (.inr ⟨a,o,h1,h2,h3 ▸ q'⟩))
end
section
variable{K:oU}{cm:CM}{p:List Addr}{s:S}{H:Hp}
theorem vJ{a b:Type}{x:List a}{y:List b}(h:x.length=y.length):(!x.isEmpty)=!y.isEmpty:=by
 cases x <;> cases y <;> simp_all
theorem zeD{d:D}{x:V}{k:Bool}(rs:RS K cm p s H)(r:RV K p H d x)(e:truth s d=some k):TruV K x H k:=by
 unfold truth at e;split at e
 . cases e;rw[zbs r];exact rfl
 . cases e;rw[zaJ r];exact rfl
 . cases e;rw[yz r];exact rfl
 . split at e
   . rename_i h;cases e;rw[wQ r];exact⟨zaM h,rfl⟩
   . cases e
 . cases e;obtain⟨a,vs,rfl,h1,r1⟩:=xV r;exact .inr (.inl ⟨vs,SqT.of h1,vJ r1.length⟩)
 . cases e;simp only[RV]at r;obtain⟨a,vs,rfl,h1,r1⟩:=r;exact .inl ⟨vs,h1.1,vJ r1.length⟩
 . cases e;simp only[RV]at r;obtain⟨a,vs,rfl,h1,r1⟩:=r;exact .inr (.inl ⟨vs,h1.sq,vJ r1.length⟩)
 . rename_i n;split at e
   . rename_i ds h;cases e;obtain⟨a,vs,rfl,_,h1,r1⟩:=yw rs r h;exact .inl ⟨vs,SqL.of h1,vJ r1.length⟩
   . rename_i kvs h;cases e;simp only[RV]at r;obtain⟨a,ha,rfl⟩:=r;obtain⟨b,hb,u,h1,ws,rfl,r1⟩:=rs.at h;rw[ha]at hb;cases hb;exact .inr (.inr ⟨ws,h1,vJ r1.length⟩)
   . cases e
end
section
variable{X:Cx}{cm:CM}{W:WX}{a b c:Expr}{fa fb fc:E}{ft fu:T}{pos:Pos}{rest:List Expr}
theorem zgF{op}(h:JE X cm W a fa):JE X cm W (.BoolOp op [a] pos) fa:=pe_one h
theorem ztw(ha:JE X cm W a fa)(hb:JE X cm W (.BoolOp .Or (b::rest) pos) fb):JE X cm W (.BoolOp .Or (a::b::rest) pos) (eOr fa fb):=by
 refine(pe_orT ha hb).imp λσ H Q q=>?_;obtain⟨p,e,s,re,rs,q⟩:=q;refine⟨p,e,s,re,rs,(Po.bnd (rel1:=RV X.K) q).imp ?_⟩;rintro x H1 ⟨d,p1,s1,f,rs1,r1,q⟩
 cases h:truth s1 d with
 | none=>simp only[h]at q;exact q.elim
 | some c =>
  simp only[h]at q;refine⟨c,zeD rs1 r1 h,?_⟩
  cases c with
  | true=>exact iteT (Po.ok q rs1 r1)
  | false=>exact iteF ⟨p1,e,s1,re.mono f,rs1,q⟩
theorem zkO(ha:JE X cm W a fa)(hb:JE X cm W (.BoolOp .And (b::rest) pos) fb):JE X cm W (.BoolOp .And (a::b::rest) pos) (ziw fa fb):=by
 refine(pe_andT ha hb).imp λσ H Q q=>?_;obtain⟨p,e,s,re,rs,q⟩:=q;refine⟨p,e,s,re,rs,(Po.bnd (rel1:=RV X.K) q).imp ?_⟩;rintro x H1 ⟨d,p1,s1,f,rs1,r1,q⟩
 cases h:truth s1 d with
 | none=>simp only[h]at q;exact q.elim
 | some c =>
  simp only[h]at q;refine⟨c,zeD rs1 r1 h,?_⟩
  cases c with
  | true=>exact iteT ⟨p1,e,s1,re.mono f,rs1,q⟩
  | false=>exact iteF (Po.ok q rs1 r1)
theorem znU{f:E}{σ:L2.St}{H:Hp}{Q:Bool->Hp->Prop}(q:tT X.K cm W (tE f) σ H Q):tD X.K cm W f σ H λx H1=>∃ k,TruV X.K x H1 k/\Q k H1:=by
 obtain⟨p,e,s,re,rs,q⟩:=q;refine⟨p,e,s,re,rs,(Po.bnd (rel1:=RV X.K) q).imp ?_⟩;rintro x H1 ⟨d,p1,s1,f,rs1,r1,q⟩
 cases h:truth s1 d with
 | none=>simp only[h]at q;exact q.elim
 | some c =>
  simp only[h]at q;exact⟨c,zeD rs1 r1 h,Po.ok q rs1 rfl⟩
theorem zkQ(ha:JE X cm W a fa):JE X cm W (.UnaryOp .Not a pos) (zdW (tE fa)):=by
 refine(pe_notT ha).imp λσ H Q q=>?_;obtain⟨p,e,s,re,rs,q⟩:=q;refine znU (Q:=λk H1=>Q (.bl (!k)) H1) ⟨p,e,s,re,rs,(Po.bnd (rel1:=rB) q).imp ?_⟩;rintro x H1 ⟨d,p1,s1,f,rs1,r1,q⟩;obtain rfl:d=x:=r1;exact Po.ok q rs1 (zay _)
theorem zqj(ht:JT X cm W c ft)(ha:JE X cm W a fa)(hb:JE X cm W b fb):JE X cm W (.IfExp c a b pos) (eIf ft fa fb):=by
 refine(pe_ifExp ht ha hb).imp λσ H Q q=>?_;obtain⟨p,e,s,re,rs,q⟩:=q;refine⟨p,e,s,re,rs,(Po.bnd (rel1:=rB) q).imp ?_⟩;rintro x H1 ⟨d,p1,s1,f,rs1,r1,q⟩;obtain rfl:d=x:=r1
 cases d with
 | true=>exact iteT ⟨p1,e,s1,re.mono f,rs1,q⟩
 | false=>exact iteF ⟨p1,e,s1,re.mono f,rs1,q⟩
theorem yF(ha:JE X cm W a fa)(he:∀ whole,isTrue a X.env whole=(do let v ← whole;standAt a.pos;holding [v] (truthy v)):=by intro _;rfl):JT X cm W a (tE fa):=by
 exact(pt_truth ha he).imp λσ H Q q=>znU q
theorem xM(ht:JT X cm W a ft):JT X cm W (.UnaryOp .Not a pos) (tNot ft):=by
 refine(pt_not ht).imp λσ H Q q=>?_;obtain⟨p,e,s,re,rs,q⟩:=q;refine⟨p,e,s,re,rs,(Po.bnd (rel1:=rB) q).imp ?_⟩;rintro x H1 ⟨d,p1,s1,f,rs1,r1,q⟩;obtain rfl:d=x:=r1;exact Po.ok q rs1 rfl
theorem zcH(h:JW X cm W a ft):JT X cm W a ft:=PW.pt h
theorem vz(h:JT X cm W a ft):JW X cm W (.BoolOp .Or [a] pos) ft:=pw_or1 h
theorem zah(h:JT X cm W a ft):JW X cm W (.BoolOp .And [a] pos) ft:=pw_and1 h
theorem vQ(ha:JT X cm W a ft)(hb:JW X cm W (.BoolOp .Or (b::rest) pos) fu):JW X cm W (.BoolOp .Or (a::b::rest) pos) (tOr ft fu):=by
 refine(pw_or ha hb).imp λσ H Q q=>?_;obtain⟨p,e,s,re,rs,q⟩:=q;refine⟨p,e,s,re,rs,(Po.bnd (rel1:=rB) q).imp ?_⟩;rintro x H1 ⟨d,p1,s1,f,rs1,r1,q⟩;obtain rfl:d=x:=r1
 cases d with
 | true=>exact iteT (Po.ok q rs1 rfl)
 | false=>exact iteF ⟨p1,e,s1,re.mono f,rs1,q⟩
theorem zcI(ha:JT X cm W a ft)(hb:JW X cm W (.BoolOp .And (b::rest) pos) fu):JW X cm W (.BoolOp .And (a::b::rest) pos) (tAnd ft fu):=by
 refine(pw_and ha hb).imp λσ H Q q=>?_;obtain⟨p,e,s,re,rs,q⟩:=q;refine⟨p,e,s,re,rs,(Po.bnd (rel1:=rB) q).imp ?_⟩;rintro x H1 ⟨d,p1,s1,f,rs1,r1,q⟩;obtain rfl:d=x:=r1
 cases d with
 | true=>exact iteT ⟨p1,e,s1,re.mono f,rs1,q⟩
 | false=>exact iteF (Po.ok q rs1 rfl)
theorem zim{f:E}{σ:L2.St}{H:Hp}{Q:Bool->Hp->Prop}(q:tT X.K cm W (tB f) σ H Q):tD X.K cm W f σ H λx H1=>∃ k,x=.bl k/\Q k H1:=by
 obtain⟨p,e,s,re,rs,q⟩:=q;refine⟨p,e,s,re,rs,(Po.bnd (rel1:=RV X.K) q).imp ?_⟩;rintro x H1 ⟨d,p1,s1,f,rs1,r1,q⟩;split at q
 . exact⟨_,zaJ r1,Po.ok q rs1 rfl⟩
 . exact q.elim
theorem zW{op:CmpOp}{f:D->D->M D}(ho:S2 X cm (compareOp op) f)(ha:JE X cm W a fa)(hb:JE X cm W b fb)(hm:behindInMarks op b=false:=by first | exact nomark _ | rfl):JT X cm W (.Compare a [op] [b] pos) (tB (e2 f fa fb)):=by
 obtain⟨r,h1,h2⟩:=ho;refine(pt_cmpR h1 ha hb hm).imp λσ H Q q=>?_;refine(?_:tOp r _ _ σ H _);obtain⟨p,e,s,re,rs,q⟩:=tD.two (zim q);refine⟨p,e,s,re,rs,q.imp ?_⟩;rintro x H1 ⟨p,e,s,re,rs,q⟩;refine⟨p,e,s,re,rs,q.imp ?_⟩;rintro y H2 ⟨p,e,s,d1,d2,re,rs,r1,r2,q⟩;exact h2 W p s σ H2 x y d1 d2 _ rs r1 r2 q
theorem zcG{j:Nat}{pos':Pos}{y:Expr}(ha:JE X cm W a fa)(hy:y=.Constant .none j pos':=by rfl):JT X cm W (.Compare a [.Is] [y] pos) (tB (e1 zei fa)):=by
 subst hy;refine(pt_cmp (pc_isN ha) rfl).imp λσ H Q q=>?_;obtain⟨p,e,s,re,rs,q⟩:=tD.bnd (zim q);refine⟨p,e,s,re,rs,q.imp ?_⟩;rintro x H1 ⟨p,e,s,d,re,rs,r1,q⟩;refine Po.ok q rs ?_
 cases d <;> simp only[RV]at r1 ⊢ <;> first | (subst r1;rfl) | (obtain⟨_,_,rfl,_⟩:=r1;rfl) | (obtain⟨_,_,rfl⟩:=r1;rfl)
theorem zer{j:Nat}{pos':Pos}{y:Expr}(ha:JE X cm W a fa)(hy:y=.Constant .none j pos':=by rfl):JT X cm W (.Compare a [.IsNot] [y] pos) (tB (e1 zcn fa)):=by
 subst hy;refine(pt_cmp (pc_notN ha) rfl).imp λσ H Q q=>?_;obtain⟨p,e,s,re,rs,q⟩:=tD.bnd (zim q);refine⟨p,e,s,re,rs,q.imp ?_⟩;rintro x H1 ⟨p,e,s,d,re,rs,r1,q⟩;refine Po.ok q rs ?_
 cases d <;> simp only[RV]at r1 ⊢ <;> first | (subst r1;rfl) | (obtain⟨_,_,rfl,_⟩:=r1;rfl) | (obtain⟨_,_,rfl⟩:=r1;rfl)
theorem zhl{r r':R2}{f g:D->D->M D}(h2:∀(W:WX) p s σ H x y dx dy Q,RS X.K cm p s H->RV X.K p H dx x->RV X.K p H dy y->Po X.K cm W (RV X.K) p σ H (f dx dy s) Q->r x y H Q)
   (h2':∀(W:WX) p s σ H x y dx dy Q,RS X.K cm p s H->RV X.K p H dx x->RV X.K p H dy y->Po X.K cm W (RV X.K) p σ H (g dx dy s) Q->r' x y H Q)
   {σ:L2.St}{H:Hp}{Q:VK} (q:tD X.K cm W (uv f g fa fb fc) σ H Q):tD X.K cm W fa σ H λx H1=>tD X.K cm W fb σ H1 λy H2=>r x y H2 λz H3=>∃ k,z=.bl k/\if k=true then tD X.K cm W fc σ H3 λw H4=>r' y w H4 Q else Q (.bl false) H3:=by
 obtain⟨p,e,s,re,rs,q⟩:=q;refine⟨p,e,s,re,rs,(Po.bnd (rel1:=RV X.K) q).imp ?_⟩;rintro x H1 ⟨d,p1,s1,f1,rs1,r1,q⟩;refine⟨p1,e,s1,re.mono f1,rs1,(Po.bnd (rel1:=RV X.K) q).imp ?_⟩;rintro y H2 ⟨d',p2,s2,f2,rs2,r2,q⟩;refine h2 W p2 s2 σ H2 x y d d' _ rs2 (r1.mono f2) r2 ((Po.bnd (rel1:=RV X.K) q).imp ?_);rintro z H3 ⟨d3,p3,s3,f3,rs3,r3,q⟩;split at q
 . refine⟨true,zaJ r3,iteT ⟨p3,e,s3,((re.mono f1).mono f2).mono f3,rs3,(Po.bnd (rel1:=RV X.K) q).imp ?_⟩⟩;rintro w H4 ⟨d4,p4,s4,f4,rs4,r4,q⟩;exact h2' W p4 s4 σ H4 y w d' d4 Q rs4 ((r2.mono f3).mono f4) r4 q
 . exact⟨false,zaJ r3,iteF (Po.ok q rs3 (zay _))⟩
 . exact q.elim
theorem zgD{op op':CmpOp}{f g:D->D->M D}(ho:S2 X cm (compareOp op) f)(ho':S2 X cm (compareOp op') g)(ha:JE X cm W a fa)(hb:JE X cm W b fb)(hc:JE X cm W c fc)
  (hm:lastMarks [op,op'] [b,c]=false:=by rfl):JE X cm W (.Compare a [op,op'] [b,c] pos) (uv f g fa fb fc):=by
 obtain⟨r,g1,g2⟩:=ho;obtain⟨r',g1',g2'⟩:=ho';exact(pe_chain g1 g1' ha hb hc hm).imp λσ H Q q=>zhl g2 g2' q
theorem zmr{op op':CmpOp}{f g:D->D->M D}(ho:S2 X cm (compareOp op) f)(ho':S2 X cm (compareOp op') g)(ha:JE X cm W a fa)(hb:JE X cm W b fb)(hc:JE X cm W c fc)
  (hm:lastMarks [op,op'] [b,c]=false:=by rfl):JT X cm W (.Compare a [op,op'] [b,c] pos) (tB (uv f g fa fb fc)):=by
 obtain⟨r,g1,g2⟩:=ho;obtain⟨r',g1',g2'⟩:=ho';exact(pt_chain g1 g1' ha hb hc hm).imp λσ H Q q=>zhl g2 g2' (zim q)
end
section
variable{X:Cx}{cm:CM}{W:WX}{a b:Expr}{es:List Expr}{fa fb:E}{fl:EL}{pos:Pos}
theorem zr:JA X cm W [] zj:=by
 refine pa_nil.imp λσ H Q q=>?_;obtain⟨p,e,s,re,rs,q⟩:=q;exact Po.ok q rs (by simp[RVs])
theorem zm(ha:JE X cm W a fa)(hr:JA X cm W es fl)(hs:starEach (a::es) X.env=(false,eval a X.env)::starEach es X.env:=by rfl):JA X cm W (a::es) (za fa fl):=by
 refine(pa_cons ha hr hs).imp λσ H Q q=>?_;obtain⟨p,e,s,re,rs,q⟩:=q;refine⟨p,e,s,re,rs,(Po.bnd (rel1:=RV X.K) q).imp ?_⟩;rintro x H1 ⟨d,p1,s1,f1,rs1,r1,q⟩;refine⟨p1,e,s1,re.mono f1,rs1,(Po.bnd (rel1:=RVs X.K) q).imp ?_⟩;rintro xs H2 ⟨ds,p2,s2,f2,rs2,r2,q⟩;refine Po.ok q rs2 ?_;simp only[RVs];exact⟨x,xs,rfl,r1.mono f2,r2⟩
theorem vC{k:Nat}(h:JA X cm W es fl):JE X cm W (.Tuple es k pos) (eN wg fl):=by
 refine(pe_tup h).imp λσ H Q q=>?_;obtain⟨p,e,s,re,rs,q⟩:=tD.args q;refine⟨p,e,s,re,rs,q.imp ?_⟩;rintro xs H1 ⟨p,e,s,ds,re,rs,r1,q⟩;unfold wg at q;split at q
 . rename_i h;exact⟨by rw[← r1.length];exact zaM h,λt ht=>Po.newt q rs r1 ht⟩
 . exact q.elim
theorem yL(h:JA X cm W es fl):JE X cm W (.List es pos) (eN yr fl):=by
 refine(pe_lst h).imp λσ H Q q=>?_;obtain⟨p,e,s,re,rs,q⟩:=tD.args q;refine⟨p,e,s,re,rs,q.imp ?_⟩;rintro xs H1 ⟨p,e,s,ds,re,rs,r1,q⟩;unfold yr at q;split at q
 . rename_i h;exact⟨by rw[← r1.length];exact zaM h,λt ht=>Po.newl q rs r1 ht⟩
 . exact q.elim
theorem zul:JE X cm W (.Dict [] [] pos) (eN (λ_=>mDK) zj):=by
 refine pe_dnewK.imp λσ H Q q=>?_;obtain⟨p,e,s,re,rs,q⟩:=q;intro a ha;obtain⟨f,rs',e⟩:=rs.new (o:=.dK []) (u:=.dK []) ha ⟨[],rfl,by simp[RKs]⟩;exact q _ _ _ f rs' (wW e)
theorem zun:JE X cm W (.Dict [] [] pos) (eN (λ_=>mDT) zj):=by
 refine pe_dnewT.imp λσ H Q q=>?_;obtain⟨p,e,s,re,rs,q⟩:=q;intro a ha;obtain⟨f,rs',e⟩:=rs.new (o:=.dT []) (u:=.dT []) ha ⟨[],rfl,by simp[RKs]⟩;exact q _ _ _ f rs' (wW e)
theorem zde{K:oU}{p:List Addr}{H:Hp}{ds:List D}{vs:List V}{i:Int}{d:D}(r:RVs K p H ds vs)(e:atI ds i=some d):∃ v,atI vs i=some v/\RV K p H d v:=by
 unfold atI at e ⊢;rw[← r.length]
 cases h:ixN ds.length i with
 | none=>rw[h]at e;cases e
 | some j =>
  rw[h]at e;exact r.get e
theorem zjQ(hu:X.A.units+1<cLine):IxR X (λx y H Q=>∃ a v,x=.ref a/\DGet H a y (some v)/\Q v H):=by
 intro value slice pins s σ H x y v u Q I rx ry h hs;obtain⟨a,w,rfl,g,q⟩:=h;cases (show v=Value.ref a from rx);exact tail_any (dict_typeIs I g) PySem.F.slot_dict_getitem.lookup (d_getItem hu I g ry λw' s' I' rw'=>⟨w,H,I',rw',q⟩) hs
theorem yq{k:Nat}(hr:Room k X.A)(ha:JE X cm W a fa)(hb:JE X cm W b fb)(hs:PlainIx b:=by intro _ _;rfl):JE X cm W (.Subscript a b pos) (e2 oAt fa fb):=by
 refine(pe_ix (ix_seq.or (zjQ (hu_of hr))) ha hb hs).imp λσ H Q q=>?_;obtain⟨p,e,s,re,rs,q⟩:=tD.two q;refine⟨p,e,s,re,rs,q.imp ?_⟩;rintro x H1 ⟨p,e,s,re,rs,q⟩;refine⟨p,e,s,re,rs,q.imp ?_⟩;rintro y H2 ⟨p,e,s,d1,d2,re,rs,r1,r2,q0⟩;obtain⟨d,e1,qf⟩:=wO q0;unfold atD at e1;split at e1
 . rename_i ds;split at e1
   . rename_i i;obtain⟨t,vs,rfl,h1,rr⟩:=xV r1;obtain⟨v,e2,rv⟩:=zde rr e1;exact .inl (.inr (.inl ⟨t,vs,i,v,rfl,yz r2,SqT.of h1,e2,Po.ok qf rs rv⟩))
   . cases e1
 . rename_i ds;split at e1
   . rename_i i;simp only[RV]at r1;obtain⟨t,vs,rfl,h1,rr⟩:=r1;obtain⟨v,e2,rv⟩:=zde rr e1;exact .inl (.inl ⟨t,vs,i,v,rfl,yz r2,h1.1,e2,Po.ok qf rs rv⟩)
   . cases e1
 . rename_i z;split at e1
   . rename_i i;split at e1
     . rename_i hz;obtain⟨c,e2,rfl⟩:=tW.mp e1;exact .inl (.inr (.inr ⟨z,i,c,wQ r1,yz r2,zaM hz,e2,Po.ok qf rs (km _)⟩))
     . cases e1
   . cases e1
 . rename_i n;split at e1
   . rename_i ds h;split at e1
     . rename_i i;obtain⟨t,vs,rfl,_,h1,rr⟩:=yw rs r1 h;obtain⟨v,e2,rv⟩:=zde rr e1;exact .inl (.inl ⟨t,vs,i,v,rfl,yz r2,SqL.of h1,e2,Po.ok qf rs rv⟩)
     . cases e1
   . rename_i o h1 h2;obtain⟨r,e2,e3⟩:=qm.mp e1;simp only[id]at e3;subst e3;obtain⟨t,rfl,h⟩:=zdS rs r1 h2 r2 e2
     rcases h with ⟨d',v,e4,g,rv⟩ | ⟨e4,_⟩
     . cases e4;exact .inr ⟨t,v,rfl,g,Po.ok qf rs rv⟩
     . cases e4
   . cases e1
 . cases e1
theorem zgG:JO X cm W none pNo:=by
 refine po_none.imp λσ H Q q=>?_;obtain⟨p,e,s,re,rs,q⟩:=q;exact Po.ok q rs rfl
theorem zcE(ha:JE X cm W a fa):JO X cm W (some a) (zej fa):=by
 refine(po_some ha).imp λσ H Q q=>?_;obtain⟨p,e,s,re,rs,q⟩:=q;refine⟨p,e,s,re,rs,(Po.bnd (rel1:=RV X.K) q).imp ?_⟩;rintro x H1 ⟨d,p1,s1,f,rs1,r1,q⟩;split at q
 . exact⟨_,yz r1,Po.ok q rs1 rfl⟩
 . exact q.elim
theorem zjq{K:oU}{p:List Addr}{H:Hp}{ds:List D}{vs:List V}{lo hi:Option Int}(r:RVs K p H ds vs):RVs K p H (zeG ds lo hi) (cutV vs lo hi):=by
 unfold zeG cutV;rw[← r.length];exact(r.drop _).take _
theorem zgE{lo hi:Option Expr}{fl fh:EO}{p2:Pos}(ha:JE X cm W a fa)(hl:JO X cm W lo fl)(hh:JO X cm W hi fh):JE X cm W (.Subscript a (.Slice lo hi none p2) pos) (zdU fa fl fh):=by
 refine(pe_slice (sl_list.or (sl_tupA.or sl_str)) ha hl hh).imp λσ H Q q=>?_;obtain⟨p,e,s,re,rs,q0⟩:=q;refine⟨p,e,s,re,rs,(Po.bnd (rel1:=RV X.K) q0).imp ?_⟩;rintro x H1 ⟨d,p1,s1,f1,rs1,r1,q1⟩;refine⟨p1,e,s1,re.mono f1,rs1,(Po.bnd (rel1:=rI') q1).imp ?_⟩;rintro l H2 ⟨l',p2,s2,f2,rs2,r2,q2⟩;have r2':l'=l:=r2;subst r2';refine⟨p2,e,s2,(re.mono f1).mono f2,rs2,(Po.bnd (rel1:=rI') q2).imp ?_⟩;rintro h H3 ⟨h',p3,s3,f3,rs3,r3,q3⟩;have r3':h'=h:=r3;subst r3';have rr1:=(r1.mono f2).mono f3
 clear r1
 unfold zph at q3;split at q3
 . rename_i ds;obtain⟨t,vs,rfl,h1,rr⟩:=xV rr1;refine .inr (.inl ⟨t,vs,rfl,SqT.of h1,λz=>?_,λ_ b hb=>Po.newt q3 rs3 (zjq rr) hb⟩);refine Po.ok q3 rs3 (zaz h1 ?_)
   have e1:zeG ds l' h'=ds:=by
     unfold zeG;have hl:=rr.length;rw[hl,z.1,z.2,← hl];simp
   rw[e1];exact rr
 . rename_i z;split at q3
   . rename_i hz;exact .inr (.inr ⟨z,wQ rr1,zaM hz,Po.ok q3 rs3 (km _)⟩)
   . exact q3.elim
 . rename_i n;split at q3
   . rename_i ds h;obtain⟨t,vs,rfl,_,h1,rr⟩:=yw rs3 rr1 h;exact .inl ⟨t,vs,rfl,SqL.of h1,λb hb=>Po.newl q3 rs3 (zjq rr) hb⟩
   . exact q3.elim
 . exact q3.elim
end
section
variable{X:Cx}{cm:CM}{W:WX}{a b c:Expr}{es:List Expr}{fa fb fc:E}{fl:EL}{pos:Pos}
def ztr(K:oU)(f:Str):V->Hp->VK->Prop:=λx H Q=>(∃ a C dx fs v,x=.ref a/\H a=some (.ins C dx fs)/\Cls K C/\NoAttr K C f/\fs.lookup f=some v/\Q v H) \/
 (∃ a C dd fs v,x=.ref a/\H a=some (ErrO a C (some dd))/\XfC K C/\PySem.W.findIn K (.ref C) f=some none/\H dd=some (.xd fs)/\fs.lookup f=some v/\Q v H)
theorem zpp{te:TE}{f:Str}(he:PE X a te)(hb:attributeBase a f X.env (eval a X.env)=eval a X.env):PE X (.Attribute a f pos) (λσ H Q=>te σ H λx H1=>ztr X.K f x H1 Q):=by
 refine⟨λpins s σ H Q I h=>?_⟩;refine attr_of hb (thn (he.run pins s σ H _ I h) λu s1 ⟨x,H1,I1,rx,q⟩=>?_)
 rcases q with ⟨a,C,dx,fs,v,rfl,ea,c,n,l,q⟩ | ⟨a,C,dd,fs,v,rfl,ea,T,hno,ed,l,q⟩
 . obtain rfl:u=Value.ref a:=rx
   exact getattr_ok I1 ea c n l λu' s2 I2 ru=>⟨v,H1,I2,ru,q⟩
 . obtain rfl:u=Value.ref a:=rx;obtain⟨⟨oe,vs,ha,hc,hdd,hd⟩,_⟩:=I1.hok a _ ea
   obtain⟨mA,hns,hr⟩:=(show ObjOk X.prog X.w H1 s1.heap dd (.xd fs)from I1.hok dd _ ed)
   obtain⟨od,ho,hl⟩:=lookIn_ns hns;obtain⟨u,hu,ru⟩:=RelO.some_of (v:=v) (o:=mA f) (by rw[← l];exact hr f)
   have J:PySem.W.InstAt s1.heap a oe C (some od):=⟨ha,hc,by unfold PySem.W.notCls;rw[hd] <;> rfl,by rw[hdd];exact ho⟩
   exact HandSPX.exc_get I1.kIn J T.ga T.gg T.exC (PySem.W.findObj_own T.hdC hno rfl (by rw[hl,hu])) (handed_of ru) ⟨v,H1,I1.tok _,ru,q⟩
structure FldOk(K:oU)(cm:CM)(f:Str):Prop where
 ins:∀ c C,cm.ins c=some C->Cls K C/\NoAttr K C f
 err:∀ c C,cm.err c=some C->XfC K C/\PySem.W.findIn K (.ref C) f=some none
theorem zax{K:oU}{p:List Addr}{H:Hp}(f:Str):∀{ds:List (Str×D)}{vs:List (Str×V)}{d:D},RKs K p H ds vs->ds.lookup f=some d->∃ v,vs.lookup f=some v/\RV K p H d v
 | [],vs,d,r,e=>by cases e
 | d'::ds,vs,d,r,e=>by
  simp only[RKs]at r;obtain⟨v,r',rfl,r1,r2⟩:=r;rw[List.lookup_cons]at e;rw[List.lookup_cons];by_cases hk:f == d'.1
  . rw[hk]at e ⊢;cases e;exact⟨v,rfl,r1⟩
  . rw[Bool.not_eq_true]at hk;rw[hk]at e ⊢;exact zax f r2 e
theorem xQ{f:Str}(T:FldOk X.K cm f)(ha:JE X cm W a fa)(hb:attributeBase a f X.env (eval a X.env)=eval a X.env:=by rfl):JE X cm W (.Attribute a f pos) (e1 (xr f) fa):=by
 refine(zpp ha hb).imp λσ H Q q=>?_;obtain⟨p,e,s,re,rs,q0⟩:=tD.bnd q;refine⟨p,e,s,re,rs,q0.imp ?_⟩;rintro x H1 ⟨p,e,s,d,re,rs,r1,q1⟩;unfold xr at q1;split at q1
 . rename_i n;split at q1
   . rename_i c fs h
     cases hl:fs.lookup f with
     | none=>rw[hl]at q1;exact q1.elim
     | some d =>
      rw[hl]at q1;simp only[RV]at r1;obtain⟨t,ht,rfl⟩:=r1;obtain⟨t',ht',u,hu,C,dx,gs,hC,rfl,rk⟩:=rs.at h;rw[ht]at ht';cases ht';obtain⟨v,hv,rv⟩:=zax f rk hl;obtain⟨k1,k2⟩:=T.ins c C hC;exact .inl ⟨t,C,dx,gs,v,rfl,hu,k1,k2,hv,Po.ok q1 rs rv⟩
   . rename_i c fs h
     cases hl:fs.lookup f with
     | none=>rw[hl]at q1;exact q1.elim
     | some d =>
      rw[hl]at q1;simp only[RV]at r1;obtain⟨t,ht,rfl⟩:=r1;obtain⟨t',ht',C,od,hC,hu,rk⟩:=rs.at h;rw[ht]at ht';cases ht'
      cases od with
      | none=>rw[show fs=[]from rk]at hl;cases hl
      | some dd =>
      obtain⟨gs,hx,rk⟩:=rk;obtain⟨v,hv,rv⟩:=zax f rk hl;obtain⟨k1,k2⟩:=T.err c C hC;exact .inr ⟨t,C,dd,gs,v,rfl,hu,k1,k2,hx,hv,Po.ok q1 rs rv⟩
   . exact q1.elim
 . exact q1.elim
theorem xP{id:String}{x:Str}{f:List D->M D}{p':Pos}(hc:SN X cm (.builtin id) f)(hm:X.mg x=none)(ha:JA X cm W (a::es) fl)(hg:Gl X x:=by rfl)(hv:bootBuiltins x=some (.builtin id):=by decide +kernel)(hn:x≠"__name__":=by decide)(hdb:(x == ("__debug__":Str))=false:=by decide)
  (he:starEach (a::es) X.env=(false,eval a X.env)::starEach es X.env:=by rfl) (hpl:(backTo pos (starEach es X.env)).any (·.1)=false:=by rfl):JE X cm W (.Call (.Name x p') (a::es) [] pos) (eN f fl):=by
 obtain⟨r,h1,h2⟩:=hc;refine(pe_callB h1 hg hm hv ha hn hdb he hpl).imp λσ H Q q=>?_;obtain⟨p,e,s,re,rs,q⟩:=tD.args q;refine⟨p,e,s,re,rs,q.imp ?_⟩;rintro xs H1 ⟨p,e,s,ds,re,rs,r1,q⟩;exact h2 W p s σ H1 xs ds Q rs r1 q
theorem yZ{id:String}{x:Str}{f:List D->M D}{p':Pos}(hc:SN X cm (.type id) f)(hm:X.mg x=none)(ha:JA X cm W (a::es) fl)(hg:Gl X x:=by rfl)(hv:bootBuiltins x=some (.type id):=by decide +kernel)(hn:x≠"__name__":=by decide)(hdb:(x == ("__debug__":Str))=false:=by decide)
  (he:starEach (a::es) X.env=(false,eval a X.env)::starEach es X.env:=by rfl) (hpl:(backTo pos (starEach es X.env)).any (·.1)=false:=by rfl):JE X cm W (.Call (.Name x p') (a::es) [] pos) (eN f fl):=by
 obtain⟨r,h1,h2⟩:=hc;refine(pe_callTy h1 hg hm hv ha hn hdb he hpl).imp λσ H Q q=>?_;obtain⟨p,e,s,re,rs,q⟩:=tD.args q;refine⟨p,e,s,re,rs,q.imp ?_⟩;rintro xs H1 ⟨p,e,s,ds,re,rs,r1,q⟩;exact h2 W p s σ H1 xs ds Q rs r1 q
theorem wN{K:oU}{p:List Addr}{H:Hp}{d:D}{xs:List V}(r:RVs K p H [d] xs):∃ x,xs=[x]/\RV K p H d x:=by
 simp only[RVs]at r;obtain⟨v,r',rfl,r1,rfl⟩:=r;exact⟨v,rfl,r1⟩
theorem zir{K:oU}{p:List Addr}{H:Hp}{d d':D}{xs:List V}(r:RVs K p H [d,d'] xs):∃ x y,xs=[x,y]/\RV K p H d x/\RV K p H d' y:=by
 simp only[RVs]at r;obtain⟨v,r',rfl,r1,w,r'',rfl,r2,rfl⟩:=r;exact⟨v,w,rfl,r1,r2⟩
theorem ziv:CallR X (.builtin "len") (λxs H Q=>∃ a kvs,xs=[V.ref a]/\Rd H a (.dK kvs)/\Q (.int kvs.length) H):=by
 intro pins s σ H xs us Q I r h;obtain⟨a,kvs,rfl,ha,q⟩:=h;obtain⟨u,rfl,ru⟩:=vals1 r;cases (show u=Value.ref a from ru)
 exact d_len I ha λt s' I'=>⟨.int _,H,I',⟨t,rfl⟩,q⟩
theorem s_len:SN X cm (.builtin "len") vA:=by
 refine⟨_,call_len.or ziv,λW p s σ H xs ds Q rs r q=>?_⟩;unfold vA at q;split at q
 . rename_i d;obtain⟨x,rfl,r1⟩:=wN r
   cases hl:zfQ s d with
   | none=>rw[hl]at q;exact q.elim
   | some n =>
    rw[hl]at q;have q':=Po.ok q rs (wu _);unfold zfQ at hl;split at hl
    . split at hl
      . rename_i hz;cases hl;exact .inl ⟨x,_,rfl,by rw[wQ r1];exact⟨zaM hz,rfl⟩,q'⟩
      . cases hl
    . cases hl;obtain⟨t,vs,rfl,h1,rr⟩:=xV r1;exact .inl ⟨_,_,rfl,.inr ⟨vs,SqT.of h1,rr.length⟩,q'⟩
    . cases hl;simp only[RV]at r1;obtain⟨t,vs,rfl,h1,rr⟩:=r1;exact .inl ⟨_,_,rfl,.inl ⟨vs,h1.1,rr.length⟩,q'⟩
    . cases hl;simp only[RV]at r1;obtain⟨t,vs,rfl,h1,rr⟩:=r1;exact .inl ⟨_,_,rfl,.inr ⟨vs,h1.sq,rr.length⟩,q'⟩
    . rename_i n';split at hl
      . rename_i ds h;cases hl;obtain⟨t,vs,rfl,_,h1,rr⟩:=yw rs r1 h;exact .inl ⟨_,_,rfl,.inl ⟨vs,SqL.of h1,rr.length⟩,q'⟩
      . rename_i o h0 h;split at hl
        . rename_i kvs hu;cases hl;simp only[RV]at r1;obtain⟨t,ht,rfl⟩:=r1;obtain⟨t',ht',hr⟩:=rs.at h;rw[ht]at ht';cases ht'
          have:∃ ws,Rd H t (.dK ws)/\RKs X.K p H kvs ws:=by
           cases o with
           | lck o' =>
            obtain⟨od,u,e1,_,c⟩:=hr;simp only[unl]at hu;subst hu;obtain⟨ws,rfl,c⟩:=c;exact⟨ws,.inr ⟨od,e1⟩,c⟩
           | dK _ =>
            simp only[unl]at hu;cases hu;obtain⟨u,e1,ws,rfl,c⟩:=hr;exact⟨ws,.inl e1,c⟩
           | _=>simp only[unl]at hu;cases hu
          obtain⟨ws,h1,rr⟩:=this;rw[rr.length]at q';exact .inr ⟨t,ws,rfl,h1,q'⟩
        . cases hl
      . cases hl
    . cases hl
 . exact q.elim
theorem s_int:SN X cm (.type "int") yS:=by
 refine⟨_,call_int1,λW p s σ H xs ds Q rs r q=>?_⟩;unfold yS at q;split at q
 . obtain⟨x,rfl,r1⟩:=wN r;exact .inl ⟨_,by rw[yz r1],Po.ok q rs (wu _)⟩
 . obtain⟨x,rfl,r1⟩:=wN r;exact .inr ⟨_,by rw[zaJ r1],Po.ok q rs (wu _)⟩
 . exact q.elim
theorem zec{K:oU}{p:List Addr}{H:Hp}:∀{ds:List D}{ns:List Int}{vs:List V},zgk ds=some ns->RVs K p H ds vs->vs=ns.map V.int
 | [],ns,vs,e,r=>by
  simp only[zgk]at e;cases e;simp only[RVs]at r;subst r;rfl
 | d::ds,ns,vs,e,r=>by
  cases d <;> simp only[zgk]at e <;> first | (cases e;done) | skip
  obtain⟨ms,e1,rfl⟩:=tW.mp e;simp only[RVs]at r;obtain⟨v,r',rfl,r1,r2⟩:=r;rw[yz r1,zec e1 r2];rfl
theorem zcg:∀(r:List Int) (a:Int),(ziL a r=a\/ziL a r∈r)/\a<=ziL a r/\∀ y∈r,y<=ziL a r
 | [],a=>⟨.inl rfl,Int.le_refl _,λy h=>nomatch h⟩
 | b::r,a=>by
  unfold ziL;split
  . rename_i h;obtain⟨h1,h2,h3⟩:=zcg r b;refine⟨.inr ?_,by omega,λy hy=>?_⟩
    . rcases h1 with e | e
      . rw[e];exact pW
      . exact tV _ e
    . rcases tR.mp hy with rfl | hy
      . exact h2
      . exact h3 y hy
  . rename_i h;obtain⟨h1,h2,h3⟩:=zcg r a;refine⟨h1.imp id λe=>tV _ e,h2,λy hy=>?_⟩
    rcases tR.mp hy with rfl | hy
    . omega
    . exact h3 y hy
theorem zci:∀(r:List Int) (a:Int),(ziM a r=a\/ziM a r∈r)/\ziM a r<=a/\∀ y∈r,ziM a r<=y
 | [],a=>⟨.inl rfl,Int.le_refl _,λy h=>nomatch h⟩
 | b::r,a=>by
  unfold ziM;split
  . rename_i h;obtain⟨h1,h2,h3⟩:=zci r b;refine⟨.inr ?_,by omega,λy hy=>?_⟩
    . rcases h1 with e | e
      . rw[e];exact pW
      . exact tV _ e
    . rcases tR.mp hy with rfl | hy
      . exact h2
      . exact h3 y hy
  . rename_i h;obtain⟨h1,h2,h3⟩:=zci r a;refine⟨h1.imp id λe=>tV _ e,h2,λy hy=>?_⟩
    rcases tR.mp hy with rfl | hy
    . omega
    . exact h3 y hy
theorem s_max(hc:X.calm=true):SN X cm (.builtin "max") zbE:=by
 refine⟨_,(cr_max hc).or (call_max2 hc),λW p s σ H xs ds Q rs r q=>?_⟩;unfold zbE mm at q;split at q
 . rename_i n;obtain⟨x,rfl,r1⟩:=wN r;split at q
   . rename_i ds h;unfold yu at h;split at h
     . rename_i ds' h';cases h;split at q
       . rename_i a r' hi;obtain⟨t,vs,rfl,_,h1,rr⟩:=yw rs r1 h';have e:=zec hi rr;subst e;obtain⟨k1,k2,k3⟩:=zcg r' a;refine .inl ⟨t,_,rfl,SqL.of h1,by simp,λm hm hle=>?_⟩
         have e:m=ziL a r':=by
          have:=hle (ziL a r') (by
            rcases k1 with e | e
            . rw[e];exact pW
            . exact tV _ e)
          rcases tR.mp hm with rfl | hm
          . omega
          . have:=k3 m hm;omega
         rw[e];exact Po.ok q rs (wu _)
       . exact q.elim
     . cases h
   . exact q.elim
 . rename_i i j;obtain⟨x,y,rfl,r1,r2⟩:=zir r;exact .inr ⟨i,j,by rw[yz r1,yz r2],Po.ok q rs (wu _)⟩
 . exact q.elim
theorem s_min(hc:X.calm=true):SN X cm (.builtin "min") zcT:=by
 refine⟨_,(cr_min hc).or (call_min2 hc),λW p s σ H xs ds Q rs r q=>?_⟩;unfold zcT mm at q;split at q
 . rename_i n;obtain⟨x,rfl,r1⟩:=wN r;split at q
   . rename_i ds h;unfold yu at h;split at h
     . rename_i ds' h';cases h;split at q
       . rename_i a r' hi;obtain⟨t,vs,rfl,_,h1,rr⟩:=yw rs r1 h';have e:=zec hi rr;subst e;obtain⟨k1,k2,k3⟩:=zci r' a;refine .inl ⟨t,_,rfl,SqL.of h1,by simp,λm hm hle=>?_⟩
         have e:m=ziM a r':=by
          have:=hle (ziM a r') (by
            rcases k1 with e | e
            . rw[e];exact pW
            . exact tV _ e)
          rcases tR.mp hm with rfl | hm
          . omega
          . have:=k3 m hm;omega
         rw[e];exact Po.ok q rs (wu _)
       . exact q.elim
     . cases h
   . exact q.elim
 . rename_i i j;obtain⟨x,y,rfl,r1,r2⟩:=zir r;exact .inr ⟨i,j,by rw[yz r1,yz r2],Po.ok q rs (wu _)⟩
 . exact q.elim
theorem s_tuple:SN X cm (.type "tuple") fTuple:=by
 refine⟨_,call_tuple_of,λW p s σ H xs ds Q rs r q=>?_⟩;unfold fTuple at q;split at q
 . obtain⟨x,rfl,r1⟩:=wN r;obtain⟨t,vs,rfl,h1,rr⟩:=xV r1;exact⟨t,vs,rfl,.inr ⟨SqT.of h1,Po.ok q rs (zaz h1 rr)⟩⟩
 . rename_i n;obtain⟨x,rfl,r1⟩:=wN r;split at q
   . rename_i ds h;obtain⟨t,vs,rfl,_,h1,rr⟩:=yw rs r1 h;exact⟨t,vs,rfl,.inl ⟨SqL.of h1,λl hl=>Po.newt q rs rr hl⟩⟩
   . exact q.elim
 . exact q.elim
def zfI:Ty->String
 | .int=>"int"
 | .bool=>"bool"
 | .str=>"str"
 | .tuple=>"tuple"
 | .list=>"list"
 | .dict=>"dict"
theorem zoL{K:oU}{p:List Addr}{s:S}{H:Hp}{d:D}{x:V}{t:Ty}{k:Bool}(rs:RS K cm p s H)(r:RV K p H d x)(e:ziD s d t=some k):∃ T:String,TyX K H x (.type T)/\kitB T (zfI t)=some k:=by
 unfold ziD at e;split at e
 . cases e;rw[zbs r];exact⟨_,.base .non,by cases t <;> decide +kernel⟩
 . cases e;rw[zaJ r];exact⟨_,.base (.bl _),by cases t <;> decide +kernel⟩
 . cases e;rw[yz r];exact⟨_,.base (.int _),by cases t <;> decide +kernel⟩
 . cases e;rw[wQ r];exact⟨_,.base (.str _),by cases t <;> decide +kernel⟩
 . cases e;obtain⟨a,vs,rfl,h1,rr⟩:=xV r;exact⟨_,.base (.tup h1),by cases t <;> decide +kernel⟩
 . cases e
 . cases e;simp only[RV]at r;obtain⟨a,vs,rfl,⟨o,its,m,h1,h2,_⟩,rr⟩:=r;exact⟨_,.kTuple h1 h2,by cases t <;> decide +kernel⟩
 . rename_i n;obtain⟨o,h,e⟩:=qm.mp e;simp only[RV]at r;obtain⟨a,ha,rfl⟩:=r;obtain⟨b,hb,q⟩:=rs.at h;rw[ha]at hb;cases hb
   cases o with
   | lst ds =>
    cases e;obtain⟨u,h1,vs,rfl,_⟩:=q;exact⟨_,.base (.lst h1),by cases t <;> decide +kernel⟩
   | dK ds =>
    cases e;obtain⟨u,h1,vs,rfl,_⟩:=q;exact⟨_,.base (.dK h1),by cases t <;> decide +kernel⟩
   | dT ds =>
    cases e;obtain⟨u,h1,vs,rfl,_⟩:=q;exact⟨_,.base (.dT h1),by cases t <;> decide +kernel⟩
   | _=>cases e
theorem zjf{t:Ty}{x:Str}{p1 p2:Pos}(he:JE X cm W a fa)(hm:X.mg "isinstance"=none)(hx:X.mg x=none)(hb:bootBuiltins x=some (.type (zfI t)):=by decide +kernel)(hg:Gl X "isinstance":=by rfl)(hgx:Gl X x:=by rfl)(hn:x≠"__name__":=by decide)(hdb:(x == ("__debug__":Str))=false:=by decide)
  (he1:starEach [a,.Name x p2] X.env=(false,eval a X.env)::starEach [.Name x p2] X.env:=by rfl) (he2:starEach [.Name x p2] X.env=(false,eval (.Name x p2) X.env)::starEach [] X.env:=by rfl) (hpl:(backTo pos (starEach [.Name x p2] X.env)).any (·.1)=false:=by rfl) :
  JE X cm W (.Call (.Name "isinstance" p1) [a,.Name x p2] [] pos) (e1 (oIs t) fa):=by
 refine(pe_callB call_isi hg hm (by decide +kernel) (pa_cons he (pa_cons (pe_bltn (v:=.ty (zfI t)) hgx hx hb rfl hn hdb) pa_nil he2) he1) (he:=he1) (hpl:=hpl)).imp λσ H Q q=>?_;obtain⟨p,e,s,re,rs,q⟩:=tD.bnd q;refine⟨p,e,s,re,rs,q.imp ?_⟩;rintro v H1 ⟨p,e,s,d,re,rs,r1,q⟩;unfold oIs at q
 cases h:ziD s d t with
 | none=>rw[h]at q;exact q.elim
 | some k =>
  rw[h]at q;obtain⟨T,h1,h2⟩:=zoL rs r1 h;exact⟨v,.ty (zfI t),.type T,.type (zfI t),k,rfl,.ty _,h1,kit_ty h2,Po.ok q rs (zay _)⟩
theorem zhD{K:oU}{p:List Addr}{s:S}{H:Hp}{d:D}{x:V}(rs:RS K cm p s H)(r:RV K p H d x)(e:uB s d=true):tyV K "list" x H:=by
 unfold uB at e;split at e
 . rename_i n;split at e
   . rename_i ds h;obtain⟨t,vs,rfl,_,h1,rr⟩:=yw rs r h;exact .inl ⟨rfl,vs,SqL.of h1⟩
   . cases e
 . cases e
theorem zkl{K:oU}{W:WX}{p:List Addr}{s:S}{σ:L2.St}{H:Hp}{n:Nat}{f:O->Option (O×D)}{Q:VK}(q:Po K cm W (RV K) p σ H (zqh n f s) Q):∃ o o' d,s[n]?=some o/\f o=some (o',d)/\Po K cm W (RV K) p σ H (some (.ok d (s.set n o'))) Q:=by
 unfold zqh at q
 cases h:s[n]? with
 | none=>rw[h]at q;exact q.elim
 | some o =>
  rw[h]at q
  cases h2:f o with
  | none=>simp only[h2]at q;exact q.elim
  | some r=>simp only[h2]at q;exact⟨o,r.1,r.2,rfl,h2,q⟩
theorem r_m{id:String}{m:Str}{f:D->List D->M D}{apos cpos:Pos}{r:V->List V->Hp->VK->Prop}(slot:Slot "list" m id)(hty:typeOf (.builtin id)=pure (.type "method_descriptor"))(hm:MtR X id r)
   (hr:∀(W:WX) p s σ H x xs d ds Q,RS X.K cm p s H->RV X.K p H d x->RVs X.K p H ds xs->Po X.K cm W (RV X.K) p σ H (f d ds s) Q->r x xs H Q) (ho:JE X cm W a fa) (ha:JA X cm W (b::es) fl)
   (hbase:attributeBase a m X.env (eval a X.env)=eval a X.env:=by rfl)
   (hfew:((backTo cpos (starEach (b::es) X.env)).all (λx=>!x.1)&&(backToKw cpos (keywordEach [] X.env)).all (λx=>x.1.isSome)
    && decide ((b::es).length+([]:List Keyword).length+(if ([]:List Keyword).isEmpty then 0 else 1)<30))=true:=by rfl)
   (hline:(apos.endLine == cpos.line)=true:=by rfl) (hs:starEach (b::es) X.env=(false,eval b X.env)::starEach es X.env:=by rfl) (hplain:(backTo cpos (starEach es X.env)).any (·.1)=false:=by rfl) :
   JE X cm W (.Call (.Attribute a m apos) (b::es) [] cpos) (eM f fa fl):=by
 refine(pe_bm PySem.F.plainAttrs_list slot hty hm ho ha hbase hfew hline hs hplain).imp λσ H Q q=>?_;obtain⟨p,e,s,re,rs,q⟩:=q;refine⟨p,e,s,re,rs,(Po.bnd (rel1:=RV X.K) q).imp ?_⟩;rintro x H1 ⟨d,p1,s1,f1,rs1,r1,q⟩;split at q
 . rename_i h;refine⟨zhD rs1 r1 h,p1,e,s1,re.mono f1,rs1,(Po.bnd (rel1:=RVs X.K) q).imp ?_⟩;rintro xs H2 ⟨ds,p2,s2,f2,rs2,r2,q⟩;exact hr W p2 s2 σ H2 x xs d ds Q rs2 (r1.mono f2) r2 q
 . exact q.elim
theorem zuU{id:String}{m:Str}{f:D->List D->M D}{apos cpos:Pos}{r:V->List V->Hp->VK->Prop}(slot:Slot "list" m id)(hty:typeOf (.builtin id)=pure (.type "method_descriptor"))(hm:MtR X id r)
   (hr:∀(W:WX) p s σ H x d Q,RS X.K cm p s H->RV X.K p H d x->Po X.K cm W (RV X.K) p σ H (f d [] s) Q->r x [] H Q) (ho:JE X cm W a fa)
   (hbase:attributeBase a m X.env (eval a X.env)=eval a X.env:=by rfl) (hline:(apos.endLine == cpos.line)=true:=by rfl) :
   JE X cm W (.Call (.Attribute a m apos) [] [] cpos) (eM f fa zj):=by
 refine(pe_bm0 PySem.F.plainAttrs_list slot hty hm ho hbase hline).imp λσ H Q q=>?_;obtain⟨p,e,s,re,rs,q⟩:=q;refine⟨p,e,s,re,rs,(Po.bnd (rel1:=RV X.K) q).imp ?_⟩;rintro x H1 ⟨d,p1,s1,f1,rs1,r1,q⟩;split at q
 . rename_i h;exact⟨zhD rs1 r1 h,hr W p1 s1 σ H1 x d Q rs1 r1 q⟩
 . exact q.elim
theorem RVs.dropLast{K:oU}{p:List Addr}{H:Hp}{ds:List D}{vs:List V}(h:RVs K p H ds vs):RVs K p H ds.dropLast vs.dropLast:=by
 rw[List.dropLast_eq_take,List.dropLast_eq_take,h.length];exact h.take _
theorem yE{apos cpos:Pos}(ho:JE X cm W a fa)(ha:JA X cm W [b] fl)
   (hbase:attributeBase a "append" X.env (eval a X.env)=eval a X.env:=by rfl)
   (hfew:((backTo cpos (starEach [b] X.env)).all (λx=>!x.1)&&(backToKw cpos (keywordEach [] X.env)).all (λx=>x.1.isSome)
     && decide (([b]:List Expr).length+([]:List Keyword).length+(if ([]:List Keyword).isEmpty then 0 else 1)<30))=true:=by rfl)
   (hline:(apos.endLine == cpos.line)=true:=by rfl) (hs:starEach [b] X.env=(false,eval b X.env)::starEach [] X.env:=by rfl) (hplain:(backTo cpos (starEach [] X.env)).any (·.1)=false:=by rfl) :
   JE X cm W (.Call (.Attribute a "append" apos) [b] [] cpos) (eM zU fa fl):=by
 refine r_m PySem.F.slot_list_append PySem.F.type_list_append mt_append (λW p s σ H x xs d ds Q rs rx rxs q=>?_) ho ha hbase hfew hline hs hplain;unfold zU at q;split at q
 . rename_i n y;obtain⟨o,o',d',h1,h2,q⟩:=zkl q;split at h2
   . rename_i ds';split at h2
     . rename_i hlen;cases h2;obtain⟨z,rfl,ry⟩:=wN rxs;obtain⟨t,vs,rfl,hp,hH,rr⟩:=yw rs rx h1
       have c:RC X.K cm p H t (.lst (ds'++[y])) (.lst (vs++[z])):=⟨_,rfl,rr.append rxs⟩
       obtain⟨f,rs'⟩:=rs.put hp hH trivial c;exact⟨t,vs,z,rfl,rfl,hH,by rw[← rr.length,sizeLine_eq];exact hlen,q _ _ _ f rs' zhM⟩
     . cases h2
   . cases h2
 . exact q.elim
theorem zmn{apos cpos:Pos}(ho:JE X cm W a fa)
   (hbase:attributeBase a "pop" X.env (eval a X.env)=eval a X.env:=by rfl) (hline:(apos.endLine == cpos.line)=true:=by rfl) :
   JE X cm W (.Call (.Attribute a "pop" apos) [] [] cpos) (eM zqg fa zj):=by
 refine zuU PySem.F.slot_list_pop PySem.F.type_list_pop mt_pop (λW p s σ H x d Q rs rx q=>?_) ho hbase hline;unfold zqg at q;split at q
 . rename_i n;obtain⟨o,o',d',h1,h2,q⟩:=zkl q;split at h2
   . rename_i ds';obtain⟨y,hy,e⟩:=tW.mp h2;cases e;obtain⟨t,vs,rfl,hp,hH,rr⟩:=yw rs rx h1;obtain⟨z,hz,rz⟩:=rr.get hy
     have c:RC X.K cm p H t (.lst ds'.dropLast) (.lst vs.dropLast):=⟨_,rfl,rr.dropLast⟩
     obtain⟨f,rs'⟩:=rs.put hp hH trivial c;exact⟨t,vs,z,rfl,rfl,hH,by rw[← rr.length];exact hz,q _ _ _ f rs' (rz.mono f)⟩
   . cases h2
 . exact q.elim
theorem zml{apos:Pos}(ho:JE X cm W a fa)(hbase:attributeBase a "bit_length" X.env (eval a X.env)=eval a X.env:=by rfl)(hline:(apos.endLine == pos.line)=true:=by rfl):JE X cm W (.Call (.Attribute a "bit_length" apos) [] [] pos) (e1 zcm fa):=by
 refine(pe_bits ho hbase hline).imp λσ H Q q=>?_;obtain⟨p,e,s,re,rs,q⟩:=tD.bnd q;refine⟨p,e,s,re,rs,q.imp ?_⟩;rintro x H1 ⟨p,e,s,d,re,rs,r1,q⟩;unfold zcm at q;split at q
 . exact⟨_,yz r1,Po.ok q rs (wu _)⟩
 . exact q.elim
theorem zjN{K:oU}{p:List Addr}{s:S}{H:Hp}{d:D}{x:V}(rs:RS K cm p s H)(r:RV K p H d x)(e:isDict s d=true):∃ n a o,d=.ref n/\x=.ref a/\p[n]?=some a/\s[n]?=some o/\IsD H a:=by
 unfold isDict at e;split at e
 . rename_i n;simp only[RV]at r;obtain⟨a,ha,rfl⟩:=r;unfold rd at e
   cases h:s[n]? with
   | none=>rw[h]at e;cases e
   | some o =>
    rw[h]at e;obtain⟨b,hb,q⟩:=rs.at h;rw[ha]at hb;cases hb;refine⟨n,a,o,rfl,rfl,ha,h,?_⟩
    cases o with
    | dK kvs=>obtain⟨u,h1,ws,rfl,_⟩:=q;exact .inl ⟨ws,.inl h1⟩
    | dT kvs=>obtain⟨u,h1,ws,rfl,_⟩:=q;exact .inr ⟨ws,.inl h1⟩
    | lck o' =>
     obtain⟨od,u,h1,_,c⟩:=q
     cases o' with
     | dK kvs=>obtain⟨ws,rfl,_⟩:=c;exact .inl ⟨ws,.inr ⟨od,h1⟩⟩
     | dT kvs=>obtain⟨ws,rfl,_⟩:=c;exact .inr ⟨ws,.inr ⟨od,h1⟩⟩
     | _=>cases e
    | _=>cases e
 . cases e
theorem znF{k:Nat}{apos cpos:Pos}(hr:Room k X.A)(ha:JE X cm W a fa)(hb:JE X cm W b fb)(hc:JE X cm W c fc)(m:M2 X a "get" apos b c cpos:=by exact⟨rfl,rfl,rfl,rfl⟩):JE X cm W (.Call (.Attribute a "get" apos) [b,c] [] cpos) (zdV fa fb fc):=by
 refine(pe_dget2 (hu_of hr) ha hb hc m).imp λσ H Q q=>?_;obtain⟨p,e,s,re,rs,q⟩:=q;refine⟨p,e,s,re,rs,(Po.bnd (rel1:=RV X.K) q).imp ?_⟩;rintro x H1 ⟨d,p1,s1,f1,rs1,r1,q1⟩;split at q1
 . rename_i h;obtain⟨n,t,o,hd,rfl,h1,h2,h3⟩:=zjN rs1 r1 h;subst hd;refine⟨t,rfl,h3,p1,e,s1,re.mono f1,rs1,(Po.bnd (rel1:=RV X.K) q1).imp ?_⟩;rintro y H2 ⟨d2,p2,s2,f2,rs2,r2,q2⟩;refine⟨p2,e,s2,(re.mono f1).mono f2,rs2,(Po.bnd (rel1:=RV X.K) q2).imp ?_⟩;rintro z H3 ⟨d3,p3,s3,f3,rs3,r3,q3⟩
   cases h4:uL s3 (.ref n) d2 with
   | none=>rw[h4]at q3;exact q3.elim
   | some r =>
    rw[h4]at q3;unfold uL rd at h4;obtain⟨o3,h5,h6⟩:=qm.mp h4;obtain⟨o4,h7,rfl⟩:=tW.mp h5;obtain⟨t',et,h⟩:=zdS rs3 ((r1.mono f2).mono f3) h7 (r2.mono f3) h6;cases et
    rcases h with ⟨d',v,rfl,g,rv⟩ | ⟨rfl,g⟩
    . exact⟨_,g,Po.ok q3 rs3 rv⟩
    . exact⟨_,g,Po.ok q3 rs3 r3⟩
 . exact q1.elim
end
end Fc
namespace L2
open PySem
theorem PG.imp{X:Cx}{x:Expr}{t t':TG}(h:PG X x t)(k:∀ v σ H Q,t' v σ H Q->t v σ H Q):PG X x t':=⟨λpins s σ H v u Q I r q=>h.run pins s σ H v u Q I r (k v σ H Q q)⟩
theorem PG.or{X:Cx}{x:Expr}{t t':TG}(h:PG X x t)(h':PG X x t'):PG X x (λv σ H Q=>t v σ H Q\/t' v σ H Q):=⟨λpins s σ H v u Q I r q=>q.elim (h.run pins s σ H v u Q I r) (h'.run pins s σ H v u Q I r)⟩
theorem PGs.imp{X:Cx}{x:List Expr}{t t':TGs}(h:PGs X x t)(k:∀ v σ H Q,t' v σ H Q->t v σ H Q):PGs X x t':=⟨λpins s σ H v u Q I r q=>h.run pins s σ H v u Q I r (k v σ H Q q)⟩
theorem PS.imp{X:Cx}{x:Stmt}{t t':TS}(h:PS X x t)(k:∀ D σ H,t' D σ H->t D σ H):PS X x t':=⟨λpins s σ H D I q=>h.run pins s σ H D I (k D σ H q)⟩
theorem PSs.imp{X:Cx}{x:List Stmt}{t t':TS}(h:PSs X x t)(k:∀ D σ H,t' D σ H->t D σ H):PSs X x t':=⟨λpins s σ H D I q=>h.run pins s σ H D I (k D σ H q)⟩
theorem PSet.or{X:Cx}{t t':TSet}(h:PSet X t)(h':PSet X t'):PSet X (λo i v H Q=>t o i v H Q\/t' o i v H Q):=λpins s σ H o i v ov iv u Q I ro ri rv q=>q.elim (h pins s σ H o i v ov iv u Q I ro ri rv) (h' pins s σ H o i v ov iv u Q I ro ri rv)
theorem PI.or{X:Cx}{tg e:Expr}{t t':TI}(h:PI X tg e t)(h':PI X tg e t'):PI X tg e (λσ H R=>t σ H R\/t' σ H R):=⟨λpins s σ H R I q=>q.elim (h.run pins s σ H R I) (h'.run pins s σ H R I)⟩
end L2
namespace Fc
open PySem PySem.Spec PyProof.Rows L2
variable{K:oU}{cm:CM}{W:WX}
section
variable(K:oU)(cm:CM)
def tG(g:G)(vs:List Nat):TG:=λv σ H Q=>∃ p e s d e',RE K p H e σ/\RS K cm p s H/\RV K p H d v/\g d e s=some e'/\∀ σ',RE K p H e' σ'->(∀ i,i∉vs->σ'[i]?=σ[i]?)->Q σ' H
def tGs(g:GL)(vs:List Nat):TGs:=λv σ H Q=>∃ p e s d e',RE K p H e σ/\RS K cm p s H/\RVs K p H d v/\g d e s=some e'/\∀ σ',RE K p H e' σ'->(∀ i,i∉vs->σ'[i]?=σ[i]?)->Q σ' H
end
abbrev JG(X:Cx)(cm:CM)(x:Expr)(g:G)(vs:List Nat):Prop:=PG X x (tG X.K cm g vs)
abbrev JGs(X:Cx)(cm:CM)(x:List Expr)(g:GL)(vs:List Nat):Prop:=PGs X x (tGs X.K cm g vs)
theorem RE.set{p:List Addr}{H:Hp}{e:Env}{σ:L2.St}(re:RE K p H e σ)(i:Nat){d:D}{v:V}(r:RV K p H d v):RE K p H (e.set i (some d)) (σ.set i (some v)):=by
 refine⟨by simp[re.1],λj d' h=>?_⟩;rw[qI]at h ⊢;by_cases hij:i=j
 . rw[if_pos hij]at h ⊢;split at h
   . rename_i hl;rw[if_pos (by rw[← re.1];exact hl)];cases h;exact⟨v,rfl,r⟩
   . cases h
 . rw[if_neg hij]at h ⊢;exact re.2 j d' h
theorem RE.unset{p:List Addr}{H:Hp}{e:Env}{σ:L2.St}(re:RE K p H e σ)(i:Nat):RE K p H (e.set i none) (σ.set i none):=by
 refine⟨by simp[re.1],λj d' h=>?_⟩;rw[qI]at h ⊢;by_cases hij:i=j
 . rw[if_pos hij]at h;split at h <;> cases h
 . rw[if_neg hij]at h ⊢;exact re.2 j d' h
section
variable{X:Cx}{es:List Expr}{a:Expr}{pos:Pos}
theorem zF(i:Nat){x:Str}(hN:X.N.Nodup)(hi:X.N[i]?=some x:=by rfl)(hx:Loc X.env.scope x:=by first | exact Or.inl rfl | exact Or.inr rfl)(hf:X.fn x=true\/X.env.scope.names.lookup x=some .local:=by first | exact .inl rfl | exact .inr rfl):JG X cm (.Name x pos) (gName i) [i]:=by
 refine(pg_name hN hi hx hf).imp ?_;rintro v σ H Q ⟨p,e,s,d,e',re,rs,rv,h,q⟩;cases h;refine q _ (re.set i rv) λj hj=>?_;rw[ql (λe=>hj (by simp[e]))]
theorem wB:JGs X cm [] gNil []:=by
 refine pgs_nil.imp ?_;rintro v σ H Q ⟨p,e,s,d,e',re,rs,rv,h,q⟩;unfold gNil at h;split at h
 . cases h;simp only[RVs]at rv;exact⟨rv,q σ re λ_ _=>rfl⟩
 . cases h
theorem zM{g:G}{r:GL}{vs ws:List Nat}(h1:JG X cm a g vs)(h2:JGs X cm es r ws)(hs:(assignEach (a::es) X.env).map (·.2)=assign a X.env::(assignEach es X.env).map (·.2):=by rfl):JGs X cm (a::es) (gCons g r) (vs++ws):=by
 refine(pgs_cons h1 h2 hs).imp ?_;rintro v σ H Q ⟨p,e,s,d,e',re,rs,rv,h,q⟩;unfold gCons at h;split at h
 . rename_i d ds;obtain⟨e1,h3,h4⟩:=qm.mp h;simp only[RVs]at rv;obtain⟨v,r',rfl,r1,r2⟩:=rv;refine⟨v,r',rfl,p,e,s,d,e1,re,rs,r1,h3,λσ1 re1 k1=>⟨p,e1,s,ds,e',re1,rs,r2,h4,λσ2 re2 k2=>q σ2 re2 λi hi=>?_⟩⟩;simp only[tZ,not_or]at hi;rw[k2 i hi.2,k1 i hi.1]
 . cases h
theorem wI{k:Nat}{r:GL}{vs:List Nat}{n:Nat}(hc:X.calm=true)(h:JGs X cm es r vs)(hn:(assignEach es X.env).length=n:=by rfl)(hst:(assignEach es X.env).findIdx? (·.1)=none:=by rfl):JG X cm (.Tuple es k pos) (gTup n r) vs:=by
 refine(PG.or (pg_tup hc h hn hst) (pg_lst hc h hn hst)).imp ?_;rintro v σ H Q ⟨p,e,s,d,e',re,rs,rv,h,q⟩;unfold gTup at h;split at h
 . rename_i ds;split at h
   . rename_i hl;obtain⟨a,xs,rfl,h1,rr⟩:=xV rv;exact .inl ⟨a,xs,rfl,SqT.of h1,by rw[← rr.length];exact hl,p,e,s,ds,e',re,rs,rr,h,q⟩
   . cases h
 . rename_i n';split at h
   . rename_i ds hs;split at h
     . rename_i hl;obtain⟨a,xs,rfl,_,h1,rr⟩:=yw rs rv hs;exact .inr ⟨a,xs,rfl,SqL.of h1,by rw[← rr.length];exact hl,p,e,s,ds,e',re,rs,rr,h,q⟩
     . cases h
   . cases h
 . cases h
end
variable(K cm W) in
def PoS(p:List Addr)(H:Hp)(r:Option R)(Dn:Ends):Prop:=match r with
 | none=>False
 | some (.nx e s)=>∀ p' H' σ',Fut p H p' H'->RS K cm p' s H'->RE K p' H' e σ'->Dn.nx σ' H'
 | some (.rt d s)=>∀ p' H' v,Fut p H p' H'->RS K cm p' s H'->RV K p' H' d v->Dn.rt v H'
 | some (.bk e s)=>∀ p' H' σ',Fut p H p' H'->RS K cm p' s H'->RE K p' H' e σ'->Dn.bk σ' H'
 | some (.ct e s)=>∀ p' H' σ',Fut p H p' H'->RS K cm p' s H'->RE K p' H' e σ'->Dn.ct σ' H'
 | some (.xc c fs e s)=>∀ p' H' σ' cls dd,Fut p H p' H'->RS K cm p' s H'->RE K p' H' e σ'->RX K cm p' H' c fs cls dd->W cls dd σ' H'
variable(K cm W) in
def tS(f:C):TS:=λDn σ H=>∃ p e s,RE K p H e σ/\RS K cm p s H/\PoS K cm W p H (f e s) Dn
abbrev JS(X:Cx)(cm:CM)(W:WX)(x:Stmt)(f:C):Prop:=PS X x (tS X.K cm W f)
abbrev JSs(X:Cx)(cm:CM)(W:WX)(x:List Stmt)(f:C):Prop:=PSs X x (tS X.K cm W f)
theorem PoS.fut{p p':List Addr}{H H':Hp}{r:Option R}{Dn:Ends}(h:PoS K cm W p H r Dn)(f:Fut p H p' H'):PoS K cm W p' H' r Dn:=by
 match r,h with
 | some (.nx _ _),h=>exact λp2 H2 v f2=>h p2 H2 v (f.trans f2)
 | some (.rt _ _),h=>exact λp2 H2 v f2=>h p2 H2 v (f.trans f2)
 | some (.bk _ _),h=>exact λp2 H2 v f2=>h p2 H2 v (f.trans f2)
 | some (.ct _ _),h=>exact λp2 H2 v f2=>h p2 H2 v (f.trans f2)
 | some (.xc _ _ _ _),h=>exact λp2 H2 σ' cls dd f2=>h p2 H2 σ' cls dd (f.trans f2)
theorem PoS.ex{α β:Type}{rel:List Addr->Hp->α->β->Prop}{p:List Addr}{H:Hp}{σ:L2.St}{e:Env}{r:Option (Res α)}{k:α->S->Option R}{Dn:Ends}(h:PoS K cm W p H (ex e r k) Dn)(re:RE K p H e σ) :
   Po K cm W rel p σ H r λx H1=>∃ y p1 s1,Fut p H p1 H1/\RS K cm p1 s1 H1/\rel p1 H1 y x/\PoS K cm W p1 H1 (k y s1) Dn:=by
 unfold Fc.ex at h;split at h
 . exact h
 . exact λp1 H1 v f rs r1=>⟨_,p1,_,f,rs,r1,PoS.fut h f⟩
 . exact λp1 H1 cls dd f rs rx=>h p1 H1 σ cls dd f rs (re.mono f) rx
section
variable{X:Cx}{st:Stmt}{rest sts:List Stmt}{a b c:Expr}{fa fb fc:E}{ft:T}{f g:C}{pos:Pos}
theorem yd:JSs X cm W [] yh:=by
 refine pss_nil.imp ?_;rintro D σ H ⟨p,e,s,re,rs,q⟩;exact q p H σ Fut.refl rs re
theorem zu(h:JS X cm W st f):JSs X cm W [st] f:=pss_one h
theorem PoS.seq{p:List Addr}{H:Hp}{e:Env}{s:S}{Dn:Ends}(h:PoS K cm W p H (zE f g e s) Dn):PoS K cm W p H (f e s) { Dn with nx:=tS K cm W g Dn }:=by
 unfold zE at h;split at h
 . rename_i e' s' hf;rw[hf]
   exact λp' H' σ' fu rs re=>⟨p',e',s',re,rs,PoS.fut h fu⟩
 . rename_i r hr
   cases hf:f e s with
   | none=>rw[hf]at h;exact h
   | some r =>
    rw[hf]at h
    cases r with
    | nx e' s'=>exact absurd hf (hr e' s')
    | _=>exact h
theorem zp(h1:JS X cm W st f)(h2:JSs X cm W rest g):JSs X cm W (st::rest) (zE f g):=by
 refine(pss_cons h1 h2).imp ?_;rintro D σ H ⟨p,e,s,re,rs,q⟩;exact⟨p,e,s,re,rs,q.seq⟩
theorem yN(ha:JE X cm W a fa)(hs:swapsWith a none pos.line X.env=pure false:=by rfl):JS X cm W (.Expr a pos) (zR fa):=by
 refine(ps_expr ha hs).imp ?_;rintro D σ H ⟨p,e,s,re,rs,q⟩;refine⟨p,e,s,re,rs,(PoS.ex (rel:=RV X.K) q re).imp ?_⟩;rintro x H1 ⟨y,p1,s1,f,rs1,r1,q⟩;exact q p1 H1 σ Fut.refl rs1 (re.mono f)
theorem ym(ha:JE X cm W a fa):JS X cm W (.Return (some a) pos) (ye fa):=by
 refine(ps_ret ha).imp ?_;rintro D σ H ⟨p,e,s,re,rs,q⟩;refine⟨p,e,s,re,rs,(PoS.ex (rel:=RV X.K) q re).imp ?_⟩;rintro x H1 ⟨y,p1,s1,f,rs1,r1,q⟩;exact q p1 H1 x Fut.refl rs1 r1
theorem yK(ht:JT X cm W c ft)(h1:JSs X cm W sts f)(h2:JSs X cm W rest g):JS X cm W (.If c sts rest pos) (cIf ft f g):=by
 refine(ps_if ht h1 h2).imp ?_;rintro D σ H ⟨p,e,s,re,rs,q⟩;refine⟨p,e,s,re,rs,(PoS.ex (rel:=rB) q re).imp ?_⟩;rintro x H1 ⟨y,p1,s1,f,rs1,r1,q⟩;obtain rfl:y=x:=r1
 cases y with
 | true=>exact iteT ⟨p1,e,s1,re.mono f,rs1,q⟩
 | false=>exact iteF ⟨p1,e,s1,re.mono f,rs1,q⟩
theorem PoS.set{p:List Addr}{H:Hp}{e:Env}{σ:L2.St}{g:G}{s:S}{Dn:Ends}{vs:List Nat}(h:PoS K cm W p H (zQ fa g e s) Dn)(re:RE K p H e σ) :
  Po K cm W (RV K) p σ H (fa e s) λx H1=>tG K cm g vs x σ H1 Dn.nx:=by
 refine(PoS.ex (rel:=RV K) h re).imp ?_;rintro x H1 ⟨y,p1,s1,f,rs1,r1,q⟩
 cases hg:g y e s1 with
 | none=>rw[hg]at q;exact q.elim
 | some e' =>
  rw[hg]at q;exact⟨p1,e,s1,y,e',re.mono f,rs1,r1,hg,λσ' re' _=>q p1 H1 σ' Fut.refl rs1 re'⟩
theorem zeo{tg:Expr}{g:G}{vs:List Nat}(ha:JE X cm W a fa)(hg:JG X cm tg g vs)(hs:swapsWithSole [tg] a pos.line X.env=pure false:=by rfl)(hw:swappedStores [tg] a X.env=pure none:=by rfl)
  (h1:(assignEach [tg] X.env).map (·.2)=[assign tg X.env]:=by rfl):JS X cm W (.Assign [tg] a pos) (zQ fa g):=by
 refine(ps_asg ha hg hs hw h1).imp ?_;rintro D σ H ⟨p,e,s,re,rs,q⟩;exact⟨p,e,s,re,rs,q.set re⟩
theorem zgR{p:List Addr}{H:Hp}{e:Env}{s:S}{σ:L2.St}{Q:L2.St->Hp->Prop}{i:Nat}{x:V}(h:tG K cm (gName i) [i] x σ H Q):L2.gName i x σ H Q:=by
 obtain⟨p,e,s,d,e',re,rs,rv,h,q⟩:=h;cases h;refine q _ (re.set i rv) λj hj=>?_;rw[ql (λe=>hj (by simp[e]))]
theorem yC(i:Nat){x:Str}{pos':Pos}(hN:X.N.Nodup)(ha:JE X cm W a fa)(hi:X.N[i]?=some x:=by rfl)(hx:Loc X.env.scope x:=by first | exact Or.inl rfl | exact Or.inr rfl)(hs:swapsWith a (some (.Name x pos')) pos.line X.env=pure false:=by rfl)
  (hf:X.fn x=true\/X.env.scope.names.lookup x=some .local:=by first | exact .inl rfl | exact .inr rfl):JS X cm W (.Assign [.Name x pos'] a pos) (zQ fa (gName i)):=by
 refine(ps_set hN hi hx ha hs hf).imp ?_;rintro D σ H ⟨p,e,s,re,rs,q⟩;exact⟨p,e,s,re,rs,(PoS.set q re (vs:=[i])).imp λx H1 h=>zgR (p:=p) (e:=e) (s:=s) h⟩
theorem zkR(i j:Nat){x y:Str}{fl:EL}{px py pt:Pos}{kt k2:Nat}{pt2:Pos}(hc:X.calm=true)(hN:X.N.Nodup)(ha:JA X cm W [a,b] fl)(hi:X.N[i]?=some x:=by rfl)(hj:X.N[j]?=some y:=by rfl)(hij:i≠j:=by decide)
   (hx:X.env.scope.names.lookup x=some .local:=by rfl) (hy:X.env.scope.names.lookup y=some .local:=by rfl)
   (hw:swappedStores [.Tuple [.Name x px,.Name y py] kt pt] (.Tuple [a,b] k2 pt2) X.env=pure (some [x,y]):=by rfl)
   (hs:swapsWithSole [.Tuple [.Name x px,.Name y py] kt pt] (.Tuple [a,b] k2 pt2) pos.line X.env=pure false:=by rfl) :
   JS X cm W (.Assign [.Tuple [.Name x px,.Name y py] kt pt] (.Tuple [a,b] k2 pt2) pos) (zfT i j fl):=by
 refine(ps_par hc hN hi hj hij hx hy ha hw hs).imp ?_;rintro D σ H ⟨p,e,s,re,rs,q⟩;refine⟨p,e,s,re,rs,(PoS.ex (rel:=RVs X.K) q re).imp ?_⟩;rintro xs H1 ⟨ds,p1,s1,f,rs1,r1,q⟩;split at q
 . obtain⟨u,v,rfl,ru,rv⟩:=zir r1;exact⟨u,v,rfl,q p1 H1 _ Fut.refl rs1 (((re.mono f).set i ru).set j rv)⟩
 . exact q.elim
theorem set_dict(hu:X.A.units+1<cLine):PSet X (λo i v H Q=>∃ a H4,o=.ref a/\DPut H a i v H4/\Q H4):=by
 intro pins s σ H o i v ov iv u Q I ro ri rv h;obtain⟨a,H4,rfl,g,q⟩:=h;cases (show ov=Value.ref a from ro)
 exact d_setItem hu I g ri rv λs4 I4=>⟨H4,I4,q⟩
theorem RKs.putK{κ:Type}[DecidableEq κ]{p:List Addr}{H:Hp}(k:κ){d:D}{v:V}(rv:RV K p H d v){ds:List (κ×D)}{vs:List (κ×V)}(r:RKs K p H ds vs):RKs K p H (kput ds k d) (L2.putK vs k v):=by
 have hany:∀{ds:List (κ×D)}{vs:List (κ×V)},RKs K p H ds vs->(ds.any λkv=>decide (kv.1=k))=vs.any λkv=>decide (kv.1=k):=by
   intro ds
   induction ds with
   | nil=>intro vs r;simp only[RKs]at r;rw[r];rfl
   | cons x ds ih =>
    intro vs r;simp only[RKs]at r;obtain⟨w,r',rfl,r1,r2⟩:=r;simp only[qD,ih r2]
 have hmap:∀{ds:List (κ×D)}{vs:List (κ×V)},RKs K p H ds vs->RKs K p H (ds.map λkv=>if kv.1=k then (kv.1,d)else kv) (vs.map λkv=>if kv.1=k then (kv.1,v)else kv):=by
   intro ds
   induction ds with
   | nil=>intro vs r;simp only[RKs]at r;rw[r];simp[RKs]
   | cons x ds ih =>
    intro vs r;simp only[RKs]at r;obtain⟨w,r',rfl,r1,r2⟩:=r;simp only[tK];by_cases hk:x.1=k
    . rw[if_pos hk,if_pos hk];simp only[RKs];exact⟨v,_,rfl,rv,ih r2⟩
    . rw[if_neg hk,if_neg hk];simp only[RKs];exact⟨w,_,rfl,r1,ih r2⟩
 have happ:∀{ds:List (κ×D)}{vs:List (κ×V)},RKs K p H ds vs->RKs K p H (ds++[(k,d)]) (vs++[(k,v)]):=by
   intro ds
   induction ds with
   | nil=>intro vs r;simp only[RKs]at r;rw[r];simp only[qP,RKs];exact⟨v,[],rfl,rv,rfl⟩
   | cons x ds ih =>
    intro vs r;simp only[RKs]at r;obtain⟨w,r',rfl,r1,r2⟩:=r;simp only[qQ,RKs];exact⟨w,_,rfl,r1,ih r2⟩
 unfold kput L2.putK;rw[hany r];split
 . exact hmap r
 . exact happ r
theorem zoo{p:List Addr}{s:S}{H:Hp}{n:Nat}{a:Addr}{o o':O}{k d:D}{y v:V}(rs:RS K cm p s H)(ha:p[n]?=some a)(h:s[n]?=some o)(rk:RV K p H k y)(rv:RV K p H d v)(e:dput o k d=some o') :
   ∃ u,DPut H a y v (upd H a u)/\Fut p H p (upd H a u)/\RS K cm p (s.set n o') (upd H a u):=by
 obtain⟨b,hb,q⟩:=rs.at h;rw[ha]at hb;cases hb;unfold dput at e;split at e
 . rename_i kvs;split at e
   . rename_i hl;obtain⟨k',e1,rfl⟩:=tW.mp e;obtain⟨u,hu,ws,rfl,c⟩:=q;have ek:=zfe e1 rk;subst ek;obtain⟨f,rs'⟩:=rs.put (o:=.dK (kput kvs k' d)) (u:=.dK (L2.putK ws k' v)) ha hu trivial ⟨_,rfl,c.putK k' rv⟩;exact⟨_,DPut.k hu (by rw[← c.length,sizeLine_eq];exact hl),f,rs'⟩
   . cases e
 . rename_i kvs;split at e
   . rename_i hl;split at e
     . rename_i ds;obtain⟨k',e1,rfl⟩:=tW.mp e;obtain⟨u,hu,ws,rfl,c⟩:=q;obtain⟨t,vs,rfl,ht,rr⟩:=xV rk;have ek:=zgl e1 rr;subst ek;obtain⟨f,rs'⟩:=rs.put (o:=.dT (kput kvs k' d)) (u:=.dT (L2.putK ws k' v)) ha hu trivial ⟨_,rfl,c.putK k' rv⟩;exact⟨_,DPut.t hu ht (by rw[← c.length,sizeLine_eq];exact hl),f,rs'⟩
     . cases e
   . cases e
 . cases e
theorem zcF{k:Nat}{pos':Pos}(hr:Room k X.A)(hb:JE X cm W b fb)(hc:JE X cm W c fc)(ha:JE X cm W a fa)
   (hsub:∀ v,assign (.Subscript b c pos') X.env v=(do
     let ov ← holding [v] (eval b X.env)
     let iv ← holding [v,ov] (eval c X.env)
     standAt pos'
     holding [v,ov,iv] (setItem ov iv v)
     release [v,ov,iv] []):=by intro _;rfl)
   (hs:swapsWithSole [.Subscript b c pos'] a pos.line X.env=pure false:=by rfl) (hw:swappedStores [.Subscript b c pos'] a X.env=pure none:=by rfl)
   (h1:(assignEach [.Subscript b c pos'] X.env).map (·.2)=[assign (.Subscript b c pos') X.env]:=by rfl):JS X cm W (.Assign [.Subscript b c pos'] a pos) (jE fb fc fa):=by
 refine(ps_asg ha (pg_sub hb hc (set_list.or (set_dict (hu_of hr))) hsub) hs hw h1).imp ?_;rintro D σ H ⟨p,e,s,re,rs,q⟩;refine⟨p,e,s,re,rs,(PoS.ex (rel:=RV X.K) q re).imp ?_⟩;rintro v H1 ⟨d1,p1,s1,f1,rs1,r1,q1⟩;refine⟨p1,e,s1,re.mono f1,rs1,(PoS.ex (rel:=RV X.K) q1 (re.mono f1)).imp ?_⟩;rintro o H2 ⟨d2,p2,s2,f2,rs2,r2,q2⟩;refine⟨p2,e,s2,(re.mono f1).mono f2,rs2,(PoS.ex (rel:=RV X.K) q2 ((re.mono f1).mono f2)).imp ?_⟩;rintro i H3 ⟨d3,p3,s3,f3,rs3,r3,q3⟩;have re3:=((re.mono f1).mono f2).mono f3;have r1':=(r1.mono f2).mono f3;have r2':=r2.mono f3;split at q3
 . rename_i n;split at q3
   . rename_i ds h;split at q3
     . rename_i kk;obtain⟨t,vs,rfl,hp,hH,rr⟩:=yw rs3 r2' h
       cases hj:ixN ds.length kk with
       | none=>rw[hj]at q3;exact q3.elim
       | some j =>
        rw[hj]at q3;obtain⟨f,rs'⟩:=rs3.put (o:=.lst (ds.set j d1)) (u:=.lst (vs.set j v)) hp hH trivial ⟨_,rfl,rr.set j r1'⟩;exact .inl ⟨t,vs,kk,j,rfl,yz r3,hH,by rw[← rr.length];exact hj,q3 p3 _ σ f rs' (re3.mono f)⟩
     . exact q3.elim
   . rename_i o' h0 h
     cases hd:dput o' d3 d1 with
     | none=>rw[hd]at q3;exact q3.elim
     | some o2 =>
       rw[hd]at q3;simp only[RV]at r2';obtain⟨t,ht,rfl⟩:=r2';obtain⟨u,g,f,rs'⟩:=zoo rs3 ht h r3 r1' hd;exact .inr ⟨t,_,rfl,g,q3 p3 _ σ f rs' (re3.mono f)⟩
   . exact q3.elim
 . exact q3.elim
theorem RKs.putF{p:List Addr}{H:Hp}(f:Str){d:D}{v:V}(rv:RV K p H d v):∀{ds:List (Str×D)}{vs:List (Str×V)},RKs K p H ds vs->RKs K p H (fput f d ds) (L2.putF f v vs)
 | [],vs,r=>by
  simp only[RKs]at r;subst r;simp only[fput,L2.putF,RKs];exact⟨v,[],rfl,rv,rfl⟩
 | (g,x)::ds,vs,r=>by
  simp only[RKs]at r;obtain⟨w,r',rfl,r1,r2⟩:=r;unfold fput L2.putF;by_cases hk:g=f
  . rw[if_pos hk,if_pos hk];simp only[RKs];exact⟨v,r',rfl,rv,r2⟩
  . rw[if_neg hk,if_neg hk];simp only[RKs];exact⟨w,_,rfl,r1,RKs.putF f rv r2⟩
theorem zib{f:Str}{pos':Pos}(T:FldOk X.K cm f)(hb:JE X cm W b fb)(ha:JE X cm W a fa)(hs:swapsWith a (some (.Attribute b f pos')) pos.line X.env=pure false:=by rfl):JS X cm W (.Assign [.Attribute b f pos'] a pos) (zlA f fb fa):=by
 refine(ps_fld hb ha hs).imp ?_;rintro D σ H ⟨p,e,s,re,rs,q⟩;refine⟨p,e,s,re,rs,(PoS.ex (rel:=RV X.K) q re).imp ?_⟩;rintro v H1 ⟨d1,p1,s1,f1,rs1,r1,q1⟩;refine⟨p1,e,s1,re.mono f1,rs1,(PoS.ex (rel:=RV X.K) q1 (re.mono f1)).imp ?_⟩;rintro o H2 ⟨d2,p2,s2,f2,rs2,r2,q2⟩;split at q2
 . rename_i n;split at q2
   . rename_i c fs h;split at q2
     . rename_i hl;simp only[RV]at r2;obtain⟨t,ht,rfl⟩:=r2;obtain⟨t',ht',u,hu,C,dx,gs,hC,rfl,rk⟩:=rs2.at h;rw[ht]at ht';cases ht';obtain⟨k1,k2⟩:=T.ins c C hC;obtain⟨fu,rs'⟩:=rs2.put (o:=.ins c (fput f d1 fs)) (u:=.ins C dx (L2.putF f v gs)) ht hu trivial ⟨C,dx,_,hC,rfl,rk.putF f (r1.mono f2)⟩
       have hlen:gs.length<1000:=by rw[← rk.length];omega
       exact⟨t,C,dx,gs,rfl,hu,k1,k2,hlen,q2 p2 _ σ fu rs' (((re.mono f1).mono f2).mono fu)⟩
     . exact q2.elim
   . exact q2.elim
 . exact q2.elim
end
end Fc
namespace Fc
open PySem PySem.Spec PyProof.Rows L2
variable{K:oU}{cm:CM}{W:WX}
def NF(X:Cx)(d:Addr):Prop:=∀ o' u',X.H_0 d≠some (.frz o' u')
def Ul(X:Cx)(P:Hp->Prop)(H':Hp):Prop:=P H'\/∃ d od u,H' d=some (.frz od u)/\NF X d/\P (upd H' d u)
section
variable{X:Cx}{e:Expr}{te:TE}{st:Stmt}{t:TS}
theorem zel(h:PE X e te):PE X e (λσ H Q=>te σ H λx H1=>Q x H1\/∃ d u,H1 d=some u/\Mut (some u)/\∀ od,NF X d->Q x (upd H1 d (.frz od u))):=by
 refine⟨λpins s σ H Q I q=>thn (h.run pins s σ H _ I q) ?_⟩;rintro v s1 ⟨x,H1,I1,r,q | ⟨d,u,h1,mu,q⟩⟩
 . exact⟨x,H1,I1,r,q⟩
 . obtain⟨od,I2⟩:=I1.lock h1 mu;exact⟨x,_,I2,r,q od (I1.nofrz h1 mu)⟩
theorem zfJ{pins:List (Addr×Obj)}{σ:L2.St}{H:Hp}{s:Shared}{P:Hp->Prop}(I:Inv X pins σ H s)(h:Ul X P H):∃ H',Inv X pins σ H' s/\P H':=by
 rcases h with h | ⟨d,od,u,h1,nf,h⟩
 . exact⟨H,I,h⟩
 . exact⟨_,I.unlock h1 nf,h⟩
theorem zdF(h:PE X e te):PE X e (λσ H Q=>te σ H λx H1=>Ul X (Q x) H1):=by
 refine⟨λpins s σ H Q I q=>thn (h.run pins s σ H _ I q) ?_⟩;rintro v s1 ⟨x,H1,I1,r,q⟩;obtain⟨H2,I2,q⟩:=zfJ I1 q;exact⟨x,H2,I2,r,q⟩
def ulE(X:Cx)(D:Ends):Ends:=⟨λσ=>Ul X (D.nx σ),λv=>Ul X (D.rt v),λσ=>Ul X (D.bk σ),λσ=>Ul X (D.ct σ)⟩
theorem zaV(h:PS X st t):PS X st (λD σ H=>t (ulE X D) σ H):=by
 refine⟨λpins s σ H D I q=>thn (h.run pins s σ H _ I q) ?_⟩;intro f s1 q
 cases f with
 | next =>
  obtain⟨σ',H1,I1,q⟩:=q;obtain⟨H2,I2,q⟩:=zfJ I1 q;exact⟨σ',H2,I2,q⟩
 | brk =>
  obtain⟨σ',H1,I1,q⟩:=q;obtain⟨H2,I2,q⟩:=zfJ I1 q;exact⟨σ',H2,I2,q⟩
 | cont =>
  obtain⟨σ',H1,I1,q⟩:=q;obtain⟨H2,I2,q⟩:=zfJ I1 q;exact⟨σ',H2,I2,q⟩
 | ret u =>
  obtain⟨v,σ',H1,I1,r,q⟩:=q;obtain⟨H2,I2,q⟩:=zfJ I1 q;exact⟨v,σ',H2,I2,r,q⟩
end
structure WalkD(K:oU)(cm:CM)(J:It)(ds:List D)(G:List Addr->Hp->Prop):Prop where
 go:∀ p H i,G p H->i<ds.length->J.go i H
 st:∀ p H,G p H->J.stop ds.length H
 yl:∀ p H s i x H',G p H->RS K cm p s H->i<ds.length->J.yld i H x H'->∃ d,ds[i]?=some d/\Fut p H p H'/\RS K cm p s H'/\RV K p H' d x
 fu:∀ p H p' H',G p H->Fut p H p' H'->G p' H'
def Drv(X:Cx)(cm:CM)(sk:SK)(p:List Addr)(H:Hp)(s:S)(R:It->Hp->Prop):Prop:=match sk with
 | .vals ds=>∀ J G,WalkD X.K cm J ds G->G p H->R J H
 | .list n k=>(∃ ds,s[n]?=some (.lst ds)/\ds.length=k)->∀ a,p[n]?=some a->R (Itl X.K a) H
 | .dict n ds=>match s[n]? with
  | some (.lck o)=>∀ J G,WalkD X.K cm J ds G->G p H->R J H
  | some o=>∀ a u od J G,p[n]?=some a->H a=some u->Mut (some u)->RC X.K cm p H a o u->NF X a->(∀ ys,u≠.lst ys)->WalkD X.K cm J ds G->G p (upd H a (.frz od u))->R J (upd H a (.frz od u))
  | none=>False
def PoI(X:Cx)(cm:CM)(W:WX)(p:List Addr)(σ:L2.St)(H:Hp)(r:Option (Res SK))(R:It->Hp->Prop):Prop:=match r with
 | none=>False
 | some (.ok sk s1)=>∀ p1 H1,Fut p H p1 H1->RS X.K cm p1 s1 H1->Drv X cm sk p1 H1 s1 R
 | some (.exc c fs s')=>∀ p' H' cls dd,Fut p H p' H'->RS X.K cm p' s' H'->RX X.K cm p' H' c fs cls dd->W cls dd σ H'
def JI(X:Cx)(cm:CM)(W:WX)(tg iter:Expr)(src:SrcE):Prop:=∃ wi:TI,PI X tg iter wi/\∀ p e s σ H R,RE X.K p H e σ->RS X.K cm p s H->PoI X cm W p σ H (src e s) R->wi σ H R
section
variable{X:Cx}{tg a b:Expr}{fa:E}{pos:Pos}
theorem zlx{a:Addr}{vs:List V}{ds:List D}:WalkD K cm (Itt K a) ds (λp H=>H a=some (.tup vs)/\RVs K p H ds vs) where
 go:=λp H i ⟨h,r⟩ hi=>⟨vs,vs[i]'(by rw[← r.length];exact hi),SqT.of h,by simp[← r.length,hi]⟩
 st:=λp H ⟨h,r⟩=>⟨vs,SqT.of h,by rw[← r.length];exact tX _⟩
 yl:=λp H s i x H' ⟨h,r⟩ rs hi ⟨e,y⟩=>by
  subst e
  have e1:ds[i]?=some ds[i]:=by simp[hi]
  obtain⟨v,h1,h2⟩:=r.get e1;have:=y vs (SqT.of h);rw[h1]at this;cases this;exact⟨ds[i],e1,Fut.refl,rs,h2⟩
 fu:=λp H p' H' ⟨h,r⟩ f=>⟨f.tup _ _ h,r.mono f⟩
theorem zlw{a:Addr}{vs:List V}{ds:List D}:WalkD K cm (Itt K a) ds (λp H=>StT K a vs/\RVs K p H ds vs) where
 go:=λp H i ⟨h,r⟩ hi=>⟨vs,vs[i]'(by rw[← r.length];exact hi),h.sq,by simp[← r.length,hi]⟩
 st:=λp H ⟨h,r⟩=>⟨vs,h.sq,by rw[← r.length];exact tX _⟩
 yl:=λp H s i x H' ⟨h,r⟩ rs hi ⟨e,y⟩=>by
  subst e
  have e1:ds[i]?=some ds[i]:=by simp[hi]
  obtain⟨v,h1,h2⟩:=r.get e1;have:=y vs h.sq;rw[h1]at this;cases this;exact⟨ds[i],e1,Fut.refl,rs,h2⟩
 fu:=λp H p' H' ⟨h,r⟩ f=>⟨h,r.mono f⟩
theorem zlv{z:Str}:WalkD K cm (Its z) (signs z) (λ_ _=>True) where
 go:=λp H i _ hi=>by
  have h:=hi;simp[signs]at h;exact h
 st:=λp H _=>by simp[signs,Its]
 yl:=λp H s i x H' _ rs hi ⟨e,c,hc,y⟩=>by
  subst e;refine⟨.str ⟨#[c]⟩,?_,Fut.refl,rs,by rw[y];exact km _⟩;unfold signs;rw[tU,Array.getElem?_toList,hc];rfl
 fu:=λ_ _ _ _ _ _=>True.intro
theorem zhb{i j:Int}:WalkD K cm (Itr i (j - i).toNat) (yx i j) (λ_ _=>True) where
 go:=λp H k _ hk=>by
  have h:=hk;simp only[yx,rA,List.length_range]at h;exact h
 st:=λp H _=>by
  show _<=_;simp only[yx,rA,List.length_range];omega
 yl:=λp H s k x H' _ rs hk ⟨e,y⟩=>by
  subst e;refine⟨.int (i+(k:Int)),?_,Fut.refl,rs,by rw[y];exact wu _⟩
  have hk':k<(j - i).toNat:=by simpa[yx]using hk
  unfold yx;rw[tU,qF hk'];rfl
 fu:=λ_ _ _ _ _ _=>True.intro
theorem zif{p:List Addr}{H:Hp}(k:Key):RV K p H (dOf k) (kV k):=by
 cases k with
 | inl i=>exact wu i
 | inr x=>exact km x
theorem RKs.at{κ:Type}{p:List Addr}{H:Hp}:∀{ds:List (κ×D)}{vs:List (κ×V)}{i:Nat}{k:κ}{v:V},RKs K p H ds vs->vs[i]?=some (k,v)->∃ d,ds[i]?=some (k,d)/\RV K p H d v
 | [],vs,i,k,v,r,e=>by simp only[RKs]at r;rw[r]at e;simp at e
 | x::ds,vs,i,k,v,r,e=>by
  simp only[RKs]at r;obtain⟨w,r',rfl,r1,r2⟩:=r
  cases i with
  | zero =>
   simp at e;obtain⟨rfl,rfl⟩:=e;exact⟨x.2,rfl,r1⟩
  | succ i =>
   obtain⟨d,h1,h2⟩:=RKs.at r2 (by simpa using e);exact⟨d,by simpa using h1,h2⟩
theorem zdM{d:Addr}{o:Obj}{ws:List (Key×V)}{kvs:List (Key×D)}:WalkD K cm (Itk d o ws) (kvs.map λkv=>dOf kv.1) (λp H=>H d=some (.frz o (.dK ws))/\RKs K p H kvs ws) where
 go:=λp H i ⟨h,r⟩ hi=>⟨h,by rw[← r.length];simpa using hi⟩
 st:=λp H ⟨h,r⟩=>⟨h,by rw[← r.length];simp⟩
 yl:=λp H s i x H' ⟨h,r⟩ rs hi ⟨e,k,v,h1,y⟩=>by
  subst e;obtain⟨d',h2,_⟩:=r.at h1;exact⟨dOf k,by rw[tU,h2];rfl,Fut.refl,rs,by rw[y];exact zif k⟩
 fu:=λp H p' H' ⟨h,r⟩ f=>⟨f.frz _ _ _ h,r.mono f⟩
theorem zkW{p:List Addr}{H:Hp}:∀ ks:List Key,RVs K p H (ks.map dOf) (ks.map kV)
 | []=>by simp[RVs]
 | k::ks=>by
  simp only[tK,RVs];exact⟨_,_,rfl,zif k,zkW ks⟩
theorem zha{d:Addr}{o:Obj}{ws:List (List Key×V)}{kvs:List (List Key×D)}:WalkD K cm (Itkt d o ws) (kvs.map λkv=>.tup (kv.1.map dOf)) (λp H=>H d=some (.frz o (.dT ws))/\RKs K p H kvs ws) where
 go:=λp H i ⟨h,r⟩ hi=>⟨h,by rw[← r.length];simpa using hi⟩
 st:=λp H ⟨h,r⟩=>⟨h,by rw[← r.length];simp⟩
 yl:=λp H s i x H' ⟨h,r⟩ rs hi ⟨e,k,v,q,h1,y,h3⟩=>by
  subst e;obtain⟨d',h2,_⟩:=r.at h1;refine⟨.tup (k.map dOf),by rw[tU,h2];rfl,Fut.refl,rs,?_⟩;rw[y];exact zaz h3 (zkW k)
 fu:=λp H p' H' ⟨h,r⟩ f=>⟨f.frz _ _ _ h,r.mono f⟩
theorem zje{d:Addr}{o:Obj}{ws:List (Key×V)}{kvs:List (Key×D)}:WalkD K cm (Itd d o ws) (kvs.map (·.2)) (λp H=>H d=some (.frz o (.dK ws))/\RKs K p H kvs ws) where
 go:=λp H i ⟨h,r⟩ hi=>⟨h,by rw[← r.length];simpa using hi⟩
 st:=λp H ⟨h,r⟩=>⟨h,by rw[← r.length];simp⟩
 yl:=λp H s i x H' ⟨h,r⟩ rs hi ⟨e,k,h1⟩=>by
  subst e;obtain⟨d',h2,rv⟩:=r.at h1;exact⟨d',by rw[tU,h2];rfl,Fut.refl,rs,rv⟩
 fu:=λp H p' H' ⟨h,r⟩ f=>⟨f.frz _ _ _ h,r.mono f⟩
theorem zgZ{d:Addr}{o:Obj}{ws:List (Key×V)}{kvs:List (Key×D)}:WalkD K cm (Iti d o ws) (kvs.map pairD) (λp H=>H d=some (.frz o (.dK ws))/\RKs K p H kvs ws) where
 go:=λp H i ⟨h,r⟩ hi=>⟨h,by rw[← r.length];simpa using hi⟩
 st:=λp H ⟨h,r⟩=>⟨h,by rw[← r.length];simp⟩
 yl:=λp H s i x H' ⟨h,r⟩ rs hi ⟨t,k,v,h1,y,h3,e⟩=>by
  subst e;obtain⟨d',h2,rv⟩:=r.at h1;have sm:=wR (u:=HO.tup [kV k,v]) h3;refine⟨pairD (k,d'),by rw[tU,h2];rfl,Fut.same sm,rs.same sm,?_⟩;rw[y];refine zaz upd_same ?_;simp only[RVs];exact⟨_,_,rfl,zif k,_,_,rfl,rv.mono (Fut.same sm),rfl⟩
 fu:=λp H p' H' ⟨h,r⟩ f=>⟨f.frz _ _ _ h,r.mono f⟩
theorem Fut0.lock{p:List Addr}{H:Hp}{a:Addr}{u:HO}{od:Obj}(h:H a=some u)(mu:Mut (some u)):Fut p H p (upd H a (.frz od u)):=Fut.put h mu
theorem dwalk{k:Src}{o:O}{ds:List D}{u:HO}{p:List Addr}{H H':Hp}{a:Addr}{od:Obj}(e:zgb k o=some ds)(c:RC K cm p H a o u)(f:Fut0 p H p H')(h:H' a=some (.frz od u)) :
   ((k=.seq\/k=.keys)/\((∃ ws,u=.dK ws/\∃ G,WalkD K cm (Itk a od ws) ds G/\G p H')\/(k=.seq/\∃ ws,u=.dT ws/\∃ G,WalkD K cm (Itkt a od ws) ds G/\G p H'))) \/
   (k=.items/\∃ ws,u=.dK ws/\∃ G,WalkD K cm (Iti a od ws) ds G/\G p H')\/(k=.vals/\∃ ws,u=.dK ws/\∃ G,WalkD K cm (Itd a od ws) ds G/\G p H'):=by
 unfold zgb at e;split at e
 . cases e;obtain⟨ws,rfl,c⟩:=c;exact .inl ⟨.inr rfl,.inl ⟨ws,rfl,_,zdM,h,c.yJ f⟩⟩
 . cases e
 . cases e;obtain⟨ws,rfl,c⟩:=c;exact .inl ⟨.inl rfl,.inl ⟨ws,rfl,_,zdM,h,c.yJ f⟩⟩
 . cases e;obtain⟨ws,rfl,c⟩:=c;exact .inl ⟨.inl rfl,.inr ⟨rfl,ws,rfl,_,zha,h,c.yJ f⟩⟩
 . cases e;obtain⟨ws,rfl,c⟩:=c;exact .inr (.inl ⟨rfl,ws,rfl,_,zgZ,h,c.yJ f⟩)
 . cases e;obtain⟨ws,rfl,c⟩:=c;exact .inr (.inr ⟨rfl,ws,rfl,_,zje,h,c.yJ f⟩)
 . cases e
def DW(k:Src)(a:Addr)(od:Obj)(u:HO)(R:It->Hp->Prop)(H':Hp):Prop :=
 ((k=.seq\/k=.keys)/\((∃ ws,u=.dK ws/\R (Itk a od ws) H')\/(k=.seq/\∃ ws,u=.dT ws/\R (Itkt a od ws) H'))) \/
  (k=.items/\∃ ws,u=.dK ws/\R (Iti a od ws) H')\/(k=.vals/\∃ ws,u=.dK ws/\R (Itd a od ws) H')
theorem zjx{k:Src}{o:O}{ds:List D}{u:HO}{p:List Addr}{H H':Hp}{a:Addr}{od:Obj}{R:It->Hp->Prop}(e:zgb k o=some ds)(c:RC K cm p H a o u)(f:Fut0 p H p H')(h:H' a=some (.frz od u))
   (q:∀ J G,WalkD K cm J ds G->G p H'->R J H'):DW k a od u R H':=by
 rcases dwalk e c f h with ⟨h1,⟨ws,h2,G,h3,h4⟩ | ⟨h5,ws,h2,G,h3,h4⟩⟩ | ⟨h1,ws,h2,G,h3,h4⟩ | ⟨h1,ws,h2,G,h3,h4⟩
 . exact .inl ⟨h1,.inl ⟨ws,h2,q _ _ h3 h4⟩⟩
 . exact .inl ⟨h1,.inr ⟨h5,ws,h2,q _ _ h3 h4⟩⟩
 . exact .inr (.inl ⟨h1,ws,h2,q _ _ h3 h4⟩)
 . exact .inr (.inr ⟨h1,ws,h2,q _ _ h3 h4⟩)
theorem zbD{k:Src}{o:O}{ds:List D}{u:HO}{p:List Addr}{H:Hp}{a:Addr}(e:zgb k o=some ds)(c:RC K cm p H a o u):Mut (some u):=by
 unfold zgb at e
 split at e <;> first
  | (cases e;done)
  | (obtain⟨ws,rfl,_⟩:=c;exact True.intro)
theorem zdT{k:Src}{o:O}{ds:List D}{u:HO}{p:List Addr}{H:Hp}{a:Addr}(e:zgb k o=some ds)(c:RC K cm p H a o u):∀ ys,u≠.lst ys:=by
 unfold zgb at e
 split at e <;> first
  | (cases e;done)
  | (obtain⟨ws,rfl,_⟩:=c;exact λys z=>by cases z)
theorem znn{k:Src}{n:Nat}{o:O}{ds:List D}{p:List Addr}{H:Hp}{s:S}{v:V}{R:It->Hp->Prop}(hs:s[n]?=some o)(e:zgb k (unl o)=some ds)(rs:RS X.K cm p s H)(rv:RV X.K p H (.ref n) v)(q:Drv X cm (.dict n ds) p H s R) :
  ∃ a,v=.ref a/\((∃ od u,H a=some (.frz od u)/\DW k a od u R H)\/∃ u,H a=some u/\Mut (some u)/\∀ od,NF X a->DW k a od u R (upd H a (.frz od u))):=by
 simp only[RV]at rv;obtain⟨a,ha,rfl⟩:=rv;obtain⟨b,hb,hr⟩:=rs.at hs;rw[ha]at hb;cases hb;refine⟨a,rfl,?_⟩;simp only[Drv,hs]at q
 cases o with
 | lck o' =>
  obtain⟨od,u,e1,_,c⟩:=hr;exact .inl ⟨od,u,e1,zjx e c Fut.refl.toFut0 e1 q⟩
 | err _ _=>simp[unl,zgb]at e
 | lst _ =>
  obtain⟨u,e1,c⟩:=hr;have mu:=zbD e c;exact .inr ⟨u,e1,mu,λod nf=>zjx e c (Fut0.lock e1 mu).toFut0 upd_same λJ G w g=>q a u od J G ha e1 mu c nf (zdT e c) w g⟩
 | dK _ =>
  obtain⟨u,e1,c⟩:=hr;have mu:=zbD e c;exact .inr ⟨u,e1,mu,λod nf=>zjx e c (Fut0.lock e1 mu).toFut0 upd_same λJ G w g=>q a u od J G ha e1 mu c nf (zdT e c) w g⟩
 | dT _ =>
  obtain⟨u,e1,c⟩:=hr;have mu:=zbD e c;exact .inr ⟨u,e1,mu,λod nf=>zjx e c (Fut0.lock e1 mu).toFut0 upd_same λJ G w g=>q a u od J G ha e1 mu c nf (zdT e c) w g⟩
 | dN _=>simp[unl,zgb]at e
 | ins _ _ =>
  obtain⟨u,e1,c⟩:=hr;have mu:=zbD e c;exact .inr ⟨u,e1,mu,λod nf=>zjx e c (Fut0.lock e1 mu).toFut0 upd_same λJ G w g=>q a u od J G ha e1 mu c nf (zdT e c) w g⟩
theorem PoI.cases{k:Src}{p:List Addr}{σ:L2.St}{H:Hp}{e:Env}{s:S}{R:It->Hp->Prop}(q:PoI X cm W p σ H (yG k fa e s) R) :
  (∃ c fs s',fa e s=some (.exc c fs s')/\∀ Q:VK,Po X.K cm W (RV X.K) p σ H (fa e s) Q)\/∃ d s1 sk,fa e s=some (.ok d s1)/\srcOf k d s1=some sk/\∀ p1 H1,Fut p H p1 H1->RS X.K cm p1 s1 H1->Drv X cm sk p1 H1 s1 R:=by
 unfold yG bnd at q
 cases h:fa e s with
 | none=>rw[h]at q;exact q.elim
 | some r =>
  rw[h]at q
  cases r with
  | exc c fs s'=>exact .inl ⟨c,fs,s',rfl,λQ=>q⟩
  | ok d s1 =>
   cases hs:srcOf k d s1 with
   | none=>simp only[hs]at q;exact q.elim
   | some sk =>
    simp only[hs]at q;exact .inr ⟨d,s1,sk,rfl,hs,q⟩
theorem xN(ha:JE X cm W a fa):JI X cm W tg a (yG .seq fa):=by
 refine⟨_,(pi_list ha).or ((pi_tup ha).or ((pi_str ha).or (pi_keys (zel ha)))),?_⟩;intro p e s σ H R re rs q
 rcases PoI.cases q with ⟨c,fs,s',h,q⟩ | ⟨d,s1,sk,h,hs,q⟩
 . exact .inl ⟨p,e,s,re,rs,q _⟩
 . unfold srcOf at hs;split at hs
   . rename_i ds;cases hs;refine .inr (.inl ⟨p,e,s,re,rs,?_⟩);rw[h];intro p1 H1 v f rs1 rv;obtain⟨t,vs,rfl,h1,rr⟩:=xV rv;exact⟨t,rfl,⟨vs,SqT.of h1⟩,q p1 H1 f rs1 _ _ zlx ⟨h1,rr⟩⟩
   . rename_i ds;cases hs;refine .inr (.inl ⟨p,e,s,re,rs,?_⟩);rw[h];intro p1 H1 v f rs1 rv;simp only[RV]at rv;obtain⟨t,vs,rfl,h1,rr⟩:=rv;exact⟨t,rfl,⟨vs,h1.sq⟩,q p1 H1 f rs1 _ _ zlw ⟨h1,rr⟩⟩
   . rename_i z;cases hs;refine .inr (.inr (.inl ⟨p,e,s,re,rs,?_⟩));rw[h];intro p1 H1 v f rs1 rv;exact⟨z,wQ rv,q p1 H1 f rs1 _ _ zlv True.intro⟩
   . rename_i n;split at hs
     . rename_i ds hn;cases hs;refine .inl ⟨p,e,s,re,rs,?_⟩;rw[h];intro p1 H1 v f rs1 rv;obtain⟨t,vs,rfl,hp,h1,rr⟩:=yw rs1 rv hn;exact⟨t,rfl,⟨vs,SqL.of h1⟩,q p1 H1 f rs1 ⟨ds,hn,rfl⟩ t hp⟩
     . rename_i o hn;obtain⟨ds,e1,rfl⟩:=tW.mp hs;refine .inr (.inr (.inr ⟨p,e,s,re,rs,?_⟩));rw[h];intro p1 H1 v f rs1 rv;obtain⟨t,rfl,⟨od,u,h1,dw⟩ | ⟨u,h1,mu,dw⟩⟩:=znn ‹_› e1 rs1 rv (q p1 H1 f rs1)
       . refine .inl ⟨t,od,rfl,?_⟩
         rcases dw with ⟨_,⟨ws,rfl,z⟩ | ⟨_,ws,rfl,z⟩⟩ | ⟨z,_⟩ | ⟨z,_⟩
         . exact .inl ⟨ws,h1,z⟩
         . exact .inr ⟨ws,h1,z⟩
         . cases z
         . cases z
       . refine .inr ⟨t,u,h1,mu,λod nf=>⟨t,od,rfl,?_⟩⟩
         rcases dw od nf with ⟨_,⟨ws,rfl,z⟩ | ⟨_,ws,rfl,z⟩⟩ | ⟨z,_⟩ | ⟨z,_⟩
         . exact .inl ⟨ws,upd_same,z⟩
         . exact .inr ⟨ws,upd_same,z⟩
         . cases z
         . cases z
     . cases hs
   . cases hs
theorem PoI.view{k:Src}(hk:k≠.seq){p:List Addr}{σ:L2.St}{H:Hp}{e:Env}{s:S}{R:It->Hp->Prop}(q:PoI X cm W p σ H (yG k fa e s) R){Q:VK}
   (hQ:∀ a od u H1,H1 a=some (.frz od u)->DW k a od u R H1->Q (.ref a) H1) :
   Po X.K cm W (RV X.K) p σ H (fa e s) λx H1=>Q x H1\/∃ d u,H1 d=some u/\Mut (some u)/\∀ od,NF X d->Q x (upd H1 d (.frz od u)):=by
 rcases PoI.cases q with ⟨c,fs,s',h,q⟩ | ⟨d,s1,sk,h,hs,q⟩
 . exact q _
 . rw[h];unfold srcOf at hs;split at hs
   . split at hs
     . exact absurd rfl hk
     . cases hs
   . split at hs
     . exact absurd rfl hk
     . cases hs
   . split at hs
     . exact absurd rfl hk
     . cases hs
   . rename_i n;split at hs
     . split at hs
       . exact absurd rfl hk
       . cases hs
     . rename_i o hn;obtain⟨ds,e1,rfl⟩:=tW.mp hs;intro p1 H1 v f rs1 rv;obtain⟨t,rfl,⟨od,u,h1,dw⟩ | ⟨u,h1,mu,dw⟩⟩:=znn ‹_› e1 rs1 rv (q p1 H1 f rs1)
       . exact .inl (hQ t od u H1 h1 dw)
       . exact .inr ⟨t,u,h1,mu,λod nf=>hQ t od u _ upd_same (dw od nf)⟩
     . cases hs
   . cases hs
theorem zgj{elts:List Expr}{kk:Nat}{tpos apos cpos:Pos}(ha:JE X cm W a fa)(hbase:attributeBase a "items" X.env (eval a X.env)=eval a X.env:=by rfl)(hline:(apos.endLine == cpos.line)=true:=by rfl) :
  JI X cm W (.Tuple elts kk tpos) (.Call (.Attribute a "items" apos) [] [] cpos) (yG .items fa):=by
 refine⟨_,pi_items (zel ha) hbase hline,?_⟩;intro p e s σ H R re rs q;refine⟨p,e,s,re,rs,PoI.view (λh=>by cases h) q λt od u H1 h1 dw=>?_⟩
 rcases dw with ⟨z | z,_⟩ | ⟨_,ws,rfl,z⟩ | ⟨z,_⟩ <;> first | (cases z;done) | exact⟨t,od,ws,rfl,h1,z⟩
theorem zmy{i:Int}(h:small i=true):-(2 ^ 62)<=i/\i<2 ^ 62:=by
 unfold small at h;simpa using h
theorem yR{pf pos:Pos}(hm:X.mg "range"=none)(ha:JE X cm W a fa)(hg:Gl X "range":=by rfl)(hs:starEach [a] X.env=[(false,eval a X.env)]:=by rfl) :
  JI X cm W tg (.Call (.Name "range" pf) [a] [] pos) (yf (eC (.int 0)) fa):=by
 refine⟨_,pi_range1 hg hm (zm ha zr (by rw[hs];rfl)) hs,?_⟩;intro p e s σ H R re rs q;refine⟨p,e,s,re,rs,?_⟩;show Po X.K cm W (RVs X.K) p σ H (za fa zj e s) _;unfold yf eC at q;unfold za zj;unfold bnd at q ⊢;simp only[bnd]at q ⊢
 cases h:fa e s with
 | none=>rw[h]at q;exact q.elim
 | some r =>
  rw[h]at q
  cases r with
  | exc c fs s'=>exact q
  | ok d s1 =>
   simp only[ret]at q ⊢;split at q
   . rename_i i j hi;cases hi;split at q
     . rename_i hsm;rw[sG]at hsm;intro p1 H1 vs f rs1 rr;obtain⟨x,rfl,rx⟩:=wN rr;have b2:=zmy hsm.2;refine⟨j,by rw[yz rx],b2.1,b2.2,?_⟩;have z:=q p1 H1 f rs1 _ _ zhb True.intro;rw[show(j - 0).toNat=j.toNat by rw[Int.sub_zero]]at z;exact z
     . exact q.elim
   . exact q.elim
end
section
variable{X:Cx}
def LoopW(J:It)(g:TG)(tb:TS)(Dn:Ends)(σ:L2.St)(H:Hp):Prop:=∃ W:Nat->Nat->L2.St->Hp->Prop,(∃ m,W 0 m σ H)/\∀ i m σ H,W i m σ H ->
 (J.stop i H/\Dn.nx σ H)\/(J.go i H/\∃ N:L2.St->Hp->Prop,(∀ σ' H',N σ' H'->∃ m',m'<m/\W (i+1) m' σ' H')/\∀ x H',J.yld i H x H'->g x σ H' λσ2 H2=>tb { Dn with nx:=N,ct:=N,bk:=Dn.nx } σ2 H2)
theorem zce{J:It}{ds:List D}{G:List Addr->Hp->Prop}(w:WalkD K cm J ds G){g:Fc.G}{vs:List Nat}{b:C}{p:List Addr}{e:Env}{s:S}{σ:L2.St}{H:Hp}{Dn:Ends}(hG:G p H)(re:RE K p H e σ)(rs:RS K cm p s H)(q:PoS K cm W p H (zdt g b ds e s) Dn) :
   LoopW J (tG K cm g vs) (tS K cm W b) Dn σ H:=by
 refine⟨λi m σ H=>i<=ds.length/\m=ds.length - i/\∃ p e s,G p H/\RE K p H e σ/\RS K cm p s H/\PoS K cm W p H (zdt g b (ds.drop i) e s) Dn,⟨_,rJ _,rfl,p,e,s,hG,re,rs,by simpa using q⟩,?_⟩;rintro i m σ H ⟨hi,rfl,p,e,s,hG,re,rs,q⟩;by_cases hlt:i<ds.length
 . refine .inr ⟨w.go p H i hG hlt,λσ' H'=>∃ p e s,G p H'/\RE K p H' e σ'/\RS K cm p s H'/\PoS K cm W p H' (zdt g b (ds.drop (i+1)) e s) Dn,λσ' H' n=>⟨ds.length - (i+1),by omega,hlt,rfl,n⟩,λx H' y=>?_⟩;obtain⟨d,e1,f,rs',rv⟩:=w.yl p H s i x H' hG rs hlt y
   have hd:ds.drop i=d::ds.drop (i+1):=by
    have e2:ds[i]=d:=by
     have:=tQ hlt;rw[this]at e1;exact Option.some.inj e1
    rw[← e2];exact rO hlt
   rw[hd]at q;unfold zdt at q
   cases hg:g d e s with
   | none=>rw[hg]at q;exact q.elim
   | some e' =>
    simp only[hg]at q;refine⟨p,e,s,d,e',re.mono f,rs',rv,hg,λσ' re' _=>⟨p,e',s,re',rs',?_⟩⟩;have q:=q.fut f;have hG':=w.fu p H p H' hG f
    cases hb:b e' s with
    | none=>rw[hb]at q;exact q.elim
    | some r =>
     rw[hb]at q
     cases r with
     | nx e2 s2=>exact λp2 H2 σ2 f2 rs2 re2=>⟨p2,e2,s2,w.fu _ _ _ _ hG' f2,re2,rs2,q.fut f2⟩
     | ct e2 s2=>exact λp2 H2 σ2 f2 rs2 re2=>⟨p2,e2,s2,w.fu _ _ _ _ hG' f2,re2,rs2,q.fut f2⟩
     | bk e2 s2=>exact q
     | rt d2 s2=>exact q
     | xc c fs e2 s2=>exact q
 . have e1:i=ds.length:=by omega
   subst e1;rw[List.drop_length]at q;exact .inl ⟨w.st p H hG,q p H σ Fut.refl rs re⟩
theorem zke{a:Addr}{n k:Nat}{g:Fc.G}{vs:List Nat}{b:C}{p:List Addr}{e:Env}{s:S}{σ:L2.St}{H:Hp}{Dn:Ends}(ha:p[n]?=some a)(re:RE K p H e σ)(rs:RS K cm p s H)(q:PoS K cm W p H (forL n g b k 0 e s) Dn) :
  LoopW (Itl K a) (tG K cm g vs) (tS K cm W b) Dn σ H:=by
 refine⟨λi m σ H=>∃ p e s,p[n]?=some a/\RE K p H e σ/\RS K cm p s H/\PoS K cm W p H (forL n g b m i e s) Dn,⟨k,p,e,s,ha,re,rs,q⟩,?_⟩;rintro i m σ H ⟨p,e,s,ha,re,rs,q⟩;have rn:RV K p H (.ref n) (.ref a):=wW ha
 cases m with
 | zero =>
  unfold forL at q;split at q
  . rename_i ds hd;split at q
    . rename_i hl
      have hd':s[n]?=some (.lst ds):=by
        unfold yu at hd;split at hd
        . rename_i h;cases hd;exact h
        . cases hd
      obtain⟨t,vs,h0,h1,h2,h3⟩:=yw rs rn hd';cases h0;exact .inl ⟨⟨vs,SqL.of h2,by rw[← h3.length,hl];exact tX _⟩,q p H σ Fut.refl rs re⟩
    . exact q.elim
  . exact q.elim
 | succ m =>
  unfold forL at q;split at q
  . rename_i ds hd;split at q
    . rename_i hl
      have hd':s[n]?=some (.lst ds):=by
        unfold yu at hd;split at hd
        . rename_i h;cases hd;exact h
        . cases hd
      obtain⟨t,ws,h0,h1,h2,h3⟩:=yw rs rn hd';cases h0;split at q
      . rename_i d hdi;obtain⟨v,hv,rv⟩:=h3.get hdi;refine .inr ⟨⟨ws,v,SqL.of h2,hv⟩,λσ' H'=>∃ p e s,p[n]?=some a/\RE K p H' e σ'/\RS K cm p s H'/\PoS K cm W p H' (forL n g b m (i+1) e s) Dn,λσ' H' z=>⟨m,by omega,z⟩,λx H' y=>?_⟩;obtain⟨rfl,y⟩:=y;have y:=y ws (SqL.of h2);rw[hv]at y;cases y
        cases hg:g d e s with
        | none=>simp only[hg]at q;exact q.elim
        | some e' =>
          simp only[hg]at q;refine⟨p,e,s,d,e',re,rs,rv,hg,λσ' re' _=>⟨p,e',s,re',rs,?_⟩⟩
          cases hb:b e' s with
          | none=>rw[hb]at q;exact q.elim
          | some r =>
           rw[hb]at q
           cases r with
           | nx e2 s2=>exact λp2 H2 σ2 f2 rs2 re2=>⟨p2,e2,s2,f2.pre _ _ ha,re2,rs2,q.fut f2⟩
           | ct e2 s2=>exact λp2 H2 σ2 f2 rs2 re2=>⟨p2,e2,s2,f2.pre _ _ ha,re2,rs2,q.fut f2⟩
           | bk e2 s2=>exact q
           | rt d2 s2=>exact q
           | xc c fs e2 s2=>exact q
      . exact q.elim
    . exact q.elim
  . exact q.elim
theorem zfK{n:Nat}{a:Addr}{od:Obj}{u:HO}{o:O}{p p':List Addr}{H H':Hp}{s:S}(ha:p[n]?=some a)(h0:H a=some u)(mu:Mut (some u))(c:RC K cm p H a o u)(nl:∀ ys,u≠.lst ys)(f:Fut p (upd H a (.frz od u)) p' H')(rs:RS K cm p' s H') :
  H' a=some (.frz od u)/\Fut p H p' (upd H' a u)/\RS K cm p' (s.set n o) (upd H' a u)/\Fut0 p' H' p' (upd H' a u):=by
 have hf:H' a=some (.frz od u):=f.frz a od u upd_same
 have f0:Fut0 p' H' p' (upd H' a u):=by
  have ne:∀ b w,H' b=some w->(∀ o ys,w=.frz o (.lst ys)->True)->(w≠.frz od u)->upd H' a u b=some w:=λb w e _ hw=>by
   rw[upd_ne]
   . exact e
   . rintro rfl;rw[hf]at e;cases e;exact hw rfl
  refine⟨λ_ _ e=>e,λb ys e=>ne b _ e (λ_ _ _=>True.intro) (by intro z;cases z),λb o' ys e=>ne b _ e (λ_ _ _=>True.intro) (λz=>by cases z;exact nl _ rfl),λb fs e=>ne b _ e (λ_ _ _=>True.intro) (by intro z;cases z)⟩
 have fl:Fut0 p H p' H':=(Fut0.lock (od:=od) h0 mu).toFut0.trans f.toFut0;have fa:=fl.trans f0;refine⟨hf,⟨fa,λb o' w e=>?_⟩,rs.zrn (f.pre _ _ ha) hf f0 ((c.yJ fa).ro upd_same),f0⟩
 have hb:b≠a:=by
  rintro rfl;rw[h0]at e;cases e;exact mu
 rw[upd_ne hb];exact f.frz b o' w (by rw[upd_ne hb];exact e)
theorem PoS.unlock{n:Nat}{a:Addr}{od:Obj}{u:HO}{o:O}{p:List Addr}{H:Hp}{r:Option R}{Dn:Ends}(nf:NF X a)(ha:p[n]?=some a)(h0:H a=some u)(mu:Mut (some u))(c:RC K cm p H a o u)(nl:∀ ys,u≠.lst ys)
  (hx:∀ c fs e s,r=some (.xc c fs e s)->∀ p' H' σ' cls dd,Fut p (upd H a (.frz od u)) p' H'->RS K cm p' s H'->RE K p' H' e σ'->RX K cm p' H' c fs cls dd->W cls dd σ' H')
  (q:PoS K cm W p H (zew n o r) Dn):PoS K cm W p (upd H a (.frz od u)) r (ulE X Dn):=by
 have key:∀{p' H' s},Fut p (upd H a (.frz od u)) p' H'->RS K cm p' s H'->H' a=some (.frz od u)/\Fut p H p' (upd H' a u)/\RS K cm p' (s.set n o) (upd H' a u)/\Fut0 p' H' p' (upd H' a u):=λf rs=>zfK ha h0 mu c nl f rs
 match r,q with
 | some (.nx e s),q =>
  intro p' H' σ' f rs re;obtain⟨k1,k2,k3,k4⟩:=key f rs;exact .inr ⟨a,od,u,k1,nf,q _ _ _ k2 k3 (re.yJ k4)⟩
 | some (.rt d s),q =>
  intro p' H' v f rs rv;obtain⟨k1,k2,k3,k4⟩:=key f rs;exact .inr ⟨a,od,u,k1,nf,q _ _ _ k2 k3 (RV.yJ k4 _ rv)⟩
 | some (.bk e s),q =>
  intro p' H' σ' f rs re;obtain⟨k1,k2,k3,k4⟩:=key f rs;exact .inr ⟨a,od,u,k1,nf,q _ _ _ k2 k3 (re.yJ k4)⟩
 | some (.ct e s),q =>
  intro p' H' σ' f rs re;obtain⟨k1,k2,k3,k4⟩:=key f rs;exact .inr ⟨a,od,u,k1,nf,q _ _ _ k2 k3 (re.yJ k4)⟩
 | some (.xc c fs e s),q=>exact hx c fs e s rfl
theorem ziT{n:Nat}{o:O}{r:Option R}{c:Str}{fs:List (Str×D)}{e:Env}{s:S}(h:r=some (.xc c fs e s)):zew n o r=r:=by subst h;rfl
theorem zkc{n:Nat}{s:S}{o:O}{f:S->Option R}(h:s[n]?=some (.lck o)):zcX n s f=f s:=by
 unfold zcX;rw[h]
theorem ziJ{n:Nat}{s:S}{o:O}{f:S->Option R}(h:s[n]?=some o)(hn:∀ o',o≠.lck o'):zcX n s f=zew n o (f (s.set n (.lck o))):=by
 unfold zcX;rw[h]
 cases o with
 | lck o'=>exact absurd rfl (hn o')
 | _=>rfl
theorem xU{tg iter:Expr}{src:SrcE}{g:Fc.G}{vs:List Nat}{body:List Stmt}{b:C}{pos:Pos}(hp:PassesOwn (model X.prog X.w) X.A X.env X.xe)(hc:X.calm=true)(hi:JI X cm W tg iter src)(hg:JG X cm tg g vs)(hb:JSs X cm W body b)
  (hs:∀ x,foldedSetIterable iter X.env x=pure x:=by intro _;rfl):JS X cm W (.For tg iter body [] pos) (xg src g b):=by
 obtain⟨wi,hi,hw⟩:=hi;refine⟨λpins s0 σ H Dn I q=>?_⟩;obtain⟨p,e,s,re,rs,q⟩:=q;have plain:∀(R:Ends),(PoI X cm W p σ H (src e s) λJ H1=>LoopW J (tG X.K cm g vs) (tS X.K cm W b) R σ H1)->tFor wi (tG X.K cm g vs) (tS X.K cm W b) R σ H:=λR z=>hw p e s σ H _ re rs z;unfold xg Fc.ex at q
 cases h:src e s with
 | none=>rw[h]at q;exact q.elim
 | some r =>
  cases r with
  | exc c fs s' =>
   rw[h]at q;refine(ps_for hp hc hi hg hb hs).run pins s0 σ H Dn I (plain Dn ?_);rw[h];exact λp1 H1 cls dd f rs1 rx=>q p1 H1 σ cls dd f rs1 (re.mono f) rx
  | ok sk s1 =>
   rw[h]at q
   cases sk with
   | vals ds =>
    refine(ps_for hp hc hi hg hb hs).run pins s0 σ H Dn I (plain Dn ?_);rw[h];exact λp1 H1 f rs1 J G w hG=>zce w hG (re.mono f) rs1 (PoS.fut q f)
   | list n k =>
    refine(ps_for hp hc hi hg hb hs).run pins s0 σ H Dn I (plain Dn ?_);rw[h];exact λp1 H1 f rs1 _ a ha=>zke ha (re.mono f) rs1 (PoS.fut q f)
   | dict n ds =>
    simp only at q;refine(zaV (ps_for hp hc hi hg hb hs)).run pins s0 σ H Dn I (plain (ulE X Dn) ?_);rw[h];intro p1 H1 f rs1;have q:=PoS.fut q f;have re1:=re.mono f;show Drv X cm (.dict n ds) p1 H1 s1 _
    cases hn:s1[n]? with
    | none=>unfold zcX at q;rw[hn]at q;exact q.elim
    | some o =>
     by_cases hl:∃ o',o=.lck o'
     . obtain⟨o',rfl⟩:=hl;rw[zkc hn]at q;simp only[Drv,hn];intro J G w hG
       have ul:∀{r:Option R},PoS X.K cm W p1 H1 r Dn->PoS X.K cm W p1 H1 r (ulE X Dn):=λ{r} q=>by
        match r,q with
        | some (.nx e s),q=>exact λp' H' σ' f rs re=>.inl (q p' H' σ' f rs re)
        | some (.rt e s),q=>exact λp' H' σ' f rs re=>.inl (q p' H' σ' f rs re)
        | some (.bk e s),q=>exact λp' H' σ' f rs re=>.inl (q p' H' σ' f rs re)
        | some (.ct e s),q=>exact λp' H' σ' f rs re=>.inl (q p' H' σ' f rs re)
        | some (.xc c fs e s),q=>exact q
       exact zce w hG re1 rs1 (ul q)
     . have hl':∀ o',o≠.lck o':=λo' z=>hl ⟨o',z⟩;rw[ziJ hn hl']at q
       have goal:∀ a u od J G,p1[n]?=some a->H1 a=some u->Mut (some u)->RC X.K cm p1 H1 a o u->NF X a->(∀ ys,u≠.lst ys)->WalkD X.K cm J ds G->G p1 (upd H1 a (.frz od u))->LoopW J (tG X.K cm g vs) (tS X.K cm W b) (ulE X Dn) σ (upd H1 a (.frz od u)):=by
        intro a u od J G ha h0 mu c nf nl w hG;have fl:=Fut0.lock (od:=od) (p:=p1) h0 mu;have rs2:=rs1.zrn (o:=.lck o) ha h0 fl.toFut0 ⟨od,u,upd_same,mu,c.yJ fl.toFut0⟩;refine zce w hG (re1.mono fl) rs2 (PoS.unlock nf ha h0 mu c nl ?_ q);intro c fs e' s' er p' H' σ' cls dd f' rs' re' rx;rw[ziT er,er]at q;exact q p' H' σ' cls dd (fl.trans f') rs' re' rx
       simp only[Drv,hn]
       cases o with
       | lck o'=>exact absurd rfl (hl' o')
       | _=>exact λa u od J G ha h0 mu c nf nl w hG=>goal a u od J G ha h0 mu c nf nl w hG
end
end Fc
namespace L2
open PySem
theorem PTs.imp{X:Cx}{x:List Expr}{t t':TT}(h:PTs X x t)(k:∀ σ H Q,t' σ H Q->t σ H Q):PTs X x t':=⟨λpins s σ H Q I q=>h.run pins s σ H Q I (k σ H Q q)⟩
end L2
namespace Fc
open PySem PySem.Spec PyProof.Rows L2
variable{K:oU}{cm:CM}{W:WX}
section
variable{X:Cx}{c:Expr}{t:T}{b:C}{body:List Stmt}{pos:Pos}
theorem zes(hp:PassesOwn (model X.prog X.w) X.A X.env X.xe)(hc:JT X cm W c t)(hb:JSs X cm W body b):JS X cm W (.While c body [] pos) (vq t b):=by
 refine(ps_while hp hc hb).imp ?_;rintro Dn σ H ⟨p,e,s,re,rs,q⟩;unfold vq at q;split at q
 . rename_i h;obtain⟨n,hn⟩:=pX h;rw[← hn]at q
   clear hn
   refine⟨λm σ H=>∃ p e s,RE X.K p H e σ/\RS X.K cm p s H/\PoS X.K cm W p H (wV t b m e s) Dn,⟨n,p,e,s,re,rs,q⟩,?_⟩;rintro m σ H ⟨p,e,s,re,rs,q⟩
   cases m with
   | zero=>exact q.elim
   | succ m =>
    unfold wV at q;refine⟨p,e,s,re,rs,(PoS.ex (rel:=rB) q re).imp ?_⟩;rintro k H1 ⟨k',p1,s1,f1,rs1,rk,q⟩;obtain rfl:k'=k:=rk
    cases k' with
    | true =>
     rw[if_pos rfl]at q ⊢;refine⟨λσ' H'=>∃ p e s,RE X.K p H' e σ'/\RS X.K cm p s H'/\PoS X.K cm W p H' (wV t b m e s) Dn,λσ' H' z=>⟨m,Nat.lt_succ_self _,z⟩,p1,e,s1,re.mono f1,rs1,?_⟩
     cases hb:b e s1 with
     | none=>rw[hb]at q;exact q.elim
     | some r =>
      rw[hb]at q
      cases r with
      | nx e2 s2=>exact λp2 H2 σ2 f2 rs2 re2=>⟨p2,e2,s2,re2,rs2,q.fut f2⟩
      | ct e2 s2=>exact λp2 H2 σ2 f2 rs2 re2=>⟨p2,e2,s2,re2,rs2,q.fut f2⟩
      | bk e2 s2=>exact q
      | rt d2 s2=>exact q
      | xc c fs e2 s2=>exact q
    | false =>
     rw[if_neg qJ]at q ⊢;exact q p1 H1 σ Fut.refl rs1 (re.mono f1)
 . exact q.elim
end
def Wf:WX:=λ_ _ _ _=>False
abbrev JTs(X:Cx)(cm:CM)(W:WX)(ifs:List Expr)(t:T):Prop:=PTs X ifs (tT X.K cm W t)
theorem wF{X:Cx}:JTs X cm W [] Fc.tYes:=by
 refine pts_nil.imp ?_;rintro σ H Q ⟨p,e,s,re,rs,q⟩;exact Po.ok q rs rfl
theorem uJ{X:Cx}{c:Expr}{t:T}(h:JT X cm W c t):JTs X cm W [c] t:=pts_one h
theorem RE.wipe{p:List Addr}{H:Hp}{e:Env}{σ:L2.St}(re:RE K p H e σ):∀ vs,RE K p H (Fc.wipe e vs) (L2.wipe σ vs)
 | []=>re
 | v::vs=>(RE.wipe re vs).unset v
theorem zeF(e:Env):∀ vs,(Fc.wipe e vs).length=e.length
 | []=>rfl
 | v::vs=>by simp[Fc.wipe,zeF e vs]
theorem zbI(σ:L2.St):∀(vs:List Nat) (i:Nat),(L2.wipe σ vs)[i]?=if i<σ.length then (if i∈vs then some none else σ[i]?)else none
 | [],i=>by
  by_cases h:i<σ.length
  . simp[L2.wipe,h]
  . simp[L2.wipe,h]
 | v::vs,i=>by
  show((L2.wipe σ vs).set v none)[i]?=_;rw[qI,zbI σ vs i,L2.wipe_length];by_cases hv:v=i
  . subst hv;by_cases h:v<σ.length
    . simp[h]
    . simp[h]
  . rw[if_neg hv];by_cases h:i<σ.length
    . simp only[h,if_true,tR];by_cases hi:i∈vs
      . simp[hi]
      . simp[hi,tY hv]
    . simp[h]
theorem zfN{σ σ':L2.St}{vs ws:List Nat}(hl:σ'.length=σ.length)(h:∀ i,i∉ws->σ'[i]?=(L2.wipe σ vs)[i]?)(hs:∀ i∈ws,i∈vs):L2.wipe σ' vs=L2.wipe σ vs:=by
 apply ph;intro i;rw[zbI,zbI,hl];by_cases hi:i<σ.length
 . simp only[hi,if_true];by_cases hv:i∈vs
   . simp[hv]
   . simp only[hv,if_false];have:=h i λz=>hv (hs i z);rw[this,zbI];simp[hi,hv]
 . simp[hi]
theorem zjX{D0:Nat}{Da:Addr}{d:D}{v:V}{s s':S}{p:List Addr}{H:Hp}(rs:RS K cm p s H)(rv:RV K p H d v)(hp:p[D0]?=some Da)(h:zcd D0 d s=some s') :
   ∃ acc,H Da=some (.lst acc)/\acc.length<sizeLine/\Fut p H p (upd H Da (.lst (acc++[v])))/\RS K cm p s' (upd H Da (.lst (acc++[v]))):=by
 unfold zcd at h;split at h
 . rename_i acc hs;split at h
   . rename_i hl;cases h;obtain⟨a,vs,h0,h1,h2,h3⟩:=yw rs (wW hp) hs;cases h0
     have hu:RC K cm p H Da (.lst (acc++[d])) (.lst (vs++[v])):=by
      refine⟨_,rfl,h3.append ?_⟩;simp only[RVs];exact⟨v,[],rfl,rv,rfl⟩
     obtain⟨f,rs'⟩:=rs.put hp h2 True.intro hu;exact⟨vs,h2,by rw[← h3.length,sizeLine_eq];exact hl,f,rs'⟩
   . cases h
 . cases h
def LcW(J:It)(g:TG)(tt:TT)(te:TE)(vs:List Nat)(Da:Addr)(σ:L2.St)(H1:Hp)(Qd:Hp->Prop):Prop:=∃ W:Nat->Nat->Hp->Prop,(∃ m,W 0 m (upd H1 Da (.lst [])))/\∀ i m H,W i m H ->
 (J.stop i H/\Qd H)\/(J.go i H/\∃ Nx:Hp->Prop,(∀ H',Nx H'->∃ m',m'<m/\W (i+1) m' H')/\∀ x H',J.yld i H x H'->g x (L2.wipe σ vs) H' λσ2 H2=>L2.wipe σ2 vs=L2.wipe σ vs/\tt σ2 H2 λb H3 =>
  if b=true then te σ2 H3 λy H4=>∃ acc,H4 Da=some (.lst acc)/\acc.length<sizeLine/\Nx (upd H4 Da (.lst (acc++[y])))else Nx H3)
section
variable{g:Fc.G}{gs vs:List Nat}{t:T}{el:E}{e:Env}{σ:L2.St}
theorem zjZ(hsub:∀ i∈gs,i∈vs)(hgl:∀ d e s e',g d e s=some e'->e'.length=e.length){p p0:List Addr}{H H0:Hp}{s:S}{d:D}{x:V}{D0:Nat}{Da:Addr}{k:S->Option S}{sF:S}{Nx:Hp->Prop}
    (re:RE K p H e σ) (rs:RS K cm p s H) (rv:RV K p H d x) (hD:p[D0]?=some Da) (f0:Fut p0 H0 p H)
    (h : (match g d (Fc.wipe e vs) s with
      | some σ1=>match t σ1 s with
        | some (.ok true s1)=>match el σ1 s1 with
          | some (.ok y s2)=>(zcd D0 y s2).bind k
          | _=>none
        | some (.ok false s1)=>k s1
        | _=>none
      | none=>none)=some sF)
    (nx:∀ p2 s2 H2,Fut p H p2 H2->RS K cm p2 s2 H2->k s2=some sF->Nx H2) :
    tG K cm g gs x (L2.wipe σ vs) H λσ2 H2=>L2.wipe σ2 vs=L2.wipe σ vs/\tT K cm Wf t σ2 H2 λb H3 =>
      if b=true then tD K cm Wf el σ2 H3 λy H4=>∃ acc,H4 Da=some (.lst acc)/\acc.length<sizeLine/\Nx (upd H4 Da (.lst (acc++[y])))else Nx H3:=by
  cases hg:g d (Fc.wipe e vs) s with
  | none=>rw[hg]at h;cases h
  | some e1 =>
    simp only[hg]at h;refine⟨p,Fc.wipe e vs,s,d,e1,re.wipe vs,rs,rv,hg,λσ2 re2 hs=>⟨zfN ?_ hs hsub,p,e1,s,re2,rs,?_⟩⟩
    . rw[← re2.1,hgl _ _ _ _ hg,zeF,re.1]
    . cases ht:t e1 s with
      | none=>rw[ht]at h;cases h
      | some r =>
        rw[ht]at h
        cases r with
        | exc c fs s'=>cases h
        | ok k1 s1 =>
          intro p1 H1 k2 f1 rs1 rk;obtain rfl:k1=k2:=rk
          cases k1 with
          | false =>
            rw[if_neg qJ];exact nx p1 s1 H1 f1 rs1 h
          | true =>
            rw[if_pos rfl];simp only at h;refine⟨p1,e1,s1,re2.mono f1,rs1,?_⟩
            cases he:el e1 s1 with
            | none=>rw[he]at h;cases h
            | some r =>
              rw[he]at h
              cases r with
              | exc c fs s'=>cases h
              | ok y s2 =>
                intro p2 H2 v f2 rs2 rv2;obtain⟨s3,h1,h2⟩:=qm.mp h;obtain⟨acc,a1,a2,a3,a4⟩:=zjX rs2 rv2 (f2.pre _ _ (f1.pre _ _ hD)) h1;exact⟨acc,a1,a2,nx p2 s3 _ ((f1.trans f2).trans a3) a4 h2⟩
theorem zgm(hsub:∀ i∈gs,i∈vs)(hgl:∀ d e s e',g d e s=some e'->e'.length=e.length){J:It}{ds:List D}{G:List Addr->Hp->Prop}(w:WalkD K cm J ds G){p:List Addr}{s:S}{H:Hp}{Q:VK}{Da:Addr}(hG:G p H)(re:RE K p H e σ)(rs:RS K cm p s H)
  (q:Po K cm W (RV K) p σ H (uf s λD0 s2=>lcV D0 vs g t el ds e s2) Q) (hDa:H Da=none):LcW J (tG K cm g gs) (tT K cm Wf t) (tD K cm Wf el) vs Da σ H (Q (.ref Da)):=by
 unfold uf at q;dsimp only at q
 cases hf:lcV s.length vs g t el ds e (s++[.lst []])with
 | none=>rw[hf]at q;exact q.elim
 | some sF =>
  rw[hf]at q;obtain⟨f1,rs1,e1⟩:=rs.new (o:=.lst []) (u:=.lst []) hDa ⟨[],rfl,by simp[RVs]⟩;refine⟨λi m H'=>i<=ds.length/\m=ds.length - i/\∃ p' s',G p' H'/\RS K cm p' s' H'/\p'[s.length]?=some Da/\Fut p H p' H'/\lcV s.length vs g t el (ds.drop i) e s'=some sF,⟨_,rJ _,rfl,p++[Da],s++[.lst []],w.fu _ _ _ _ hG f1,rs1,e1,f1,by simpa using hf⟩,?_⟩;rintro i m H' ⟨hi,rfl,p',s',hG',rs',hD',f',hF⟩;by_cases hlt:i<ds.length
  . refine .inr ⟨w.go p' H' i hG' hlt,λH'=>∃ p' s',G p' H'/\RS K cm p' s' H'/\p'[s.length]?=some Da/\Fut p H p' H'/\lcV s.length vs g t el (ds.drop (i+1)) e s'=some sF,λH' n=>⟨ds.length - (i+1),by omega,hlt,rfl,n⟩,λx H2 y=>?_⟩;obtain⟨d,e2,f2,rs2,rv⟩:=w.yl p' H' s' i x H2 hG' rs' hlt y
    have hd:ds.drop i=d::ds.drop (i+1):=by
     have e3:ds[i]=d:=by
      have:=tQ hlt;rw[this]at e2;exact Option.some.inj e2
     rw[← e3];exact rO hlt
    rw[hd]at hF;unfold lcV at hF;have f02:=f'.trans f2;refine zjZ hsub hgl (re.mono f02) rs2 rv hD' f02 hF λp3 s3 H3 f3 rs3 h3=>?_;exact⟨p3,s3,w.fu _ _ _ _ (w.fu _ _ _ _ hG' f2) f3,rs3,f3.pre _ _ hD',f02.trans f3,h3⟩
  . have e2:i=ds.length:=by omega
    subst e2;rw[List.drop_length]at hF;cases hF;exact .inl ⟨w.st p' H' hG',q p' H' _ f' rs' (wW hD')⟩
theorem xW{s:S}{n:Nat}{ds:List D}(h:yu s n=some ds):s[n]?=some (.lst ds):=by
 unfold yu at h;split at h
 . rename_i z;cases h;exact z
 . cases h
theorem lc_list(hsub:∀ i∈gs,i∈vs)(hgl:∀ d e s e',g d e s=some e'->e'.length=e.length){a:Addr}{n k:Nat}{p:List Addr}{s:S}{H:Hp}{Q:VK}{Da:Addr}(ha:p[n]?=some a)(re:RE K p H e σ)(rs:RS K cm p s H)
  (q:Po K cm W (RV K) p σ H (uf s λD0 s2=>lcL D0 n vs g t el k 0 e s2) Q) (hDa:H Da=none):LcW (Itl K a) (tG K cm g gs) (tT K cm Wf t) (tD K cm Wf el) vs Da σ H (Q (.ref Da)):=by
 unfold uf at q;dsimp only at q
 cases hf:lcL s.length n vs g t el k 0 e (s++[.lst []])with
 | none=>rw[hf]at q;exact q.elim
 | some sF =>
  rw[hf]at q;obtain⟨f1,rs1,e1⟩:=rs.new (o:=.lst []) (u:=.lst []) hDa ⟨[],rfl,by simp[RVs]⟩;refine⟨λi m H'=>∃ p' s',RS K cm p' s' H'/\p'[s.length]?=some Da/\Fut p H p' H'/\lcL s.length n vs g t el m i e s'=some sF,⟨k,p++[Da],s++[.lst []],rs1,e1,f1,hf⟩,?_⟩;rintro i m H' ⟨p',s',rs',hD',f',hF⟩;have rn:RV K p' H' (.ref n) (.ref a):=wW (f'.pre _ _ ha)
  cases m with
  | zero =>
   unfold lcL at hF;split at hF
   . rename_i ds hd;split at hF
     . rename_i hl;cases hF;obtain⟨t',ws,h0,h1,h2,h3⟩:=yw rs' rn (xW hd);cases h0;exact .inl ⟨⟨ws,SqL.of h2,by rw[← h3.length,hl];exact tX _⟩,q p' H' _ f' rs' (wW hD')⟩
     . cases hF
   . cases hF
  | succ m =>
   unfold lcL at hF;split at hF
   . rename_i ds hd;split at hF
     . rename_i hl;obtain⟨t',ws,h0,h1,h2,h3⟩:=yw rs' rn (xW hd);cases h0;split at hF
       . rename_i d hdi;obtain⟨v,hv,rv⟩:=h3.get hdi;refine .inr ⟨⟨ws,v,SqL.of h2,hv⟩,λH'=>∃ p' s',RS K cm p' s' H'/\p'[s.length]?=some Da/\Fut p H p' H'/\lcL s.length n vs g t el m (i+1) e s'=some sF,λH' z=>⟨m,by omega,z⟩,λx H2 y=>?_⟩;obtain⟨rfl,y⟩:=y;have y:=y ws (SqL.of h2);rw[hv]at y;cases y;refine zjZ hsub hgl (re.mono f') rs' rv hD' f' hF λp3 s3 H3 f3 rs3 h3=>?_;exact⟨p3,s3,rs3,f3.pre _ _ hD',f'.trans f3,h3⟩
       . cases hF
     . cases hF
   . cases hF
theorem zdz{n:Nat}{s:S}{o:O}{f:S->Option (Res D)}(h:s[n]?=some (.lck o)):vK n s f=f s:=by
 unfold vK;rw[h]
theorem zcc{n:Nat}{s:S}{o:O}{f:S->Option (Res D)}(h:s[n]?=some o)(hn:∀ o',o≠.lck o'):vK n s f=match f (s.set n (.lck o))with
  | some (.ok d s')=>some (.ok d (s'.set n o))
  | r=>r:=by
 unfold vK;rw[h]
 cases o with
 | lck o'=>exact absurd rfl (hn o')
 | _=>rfl
theorem Po.unlock{X:Cx}{n:Nat}{a:Addr}{od:Obj}{u:HO}{o:O}{p:List Addr}{H:Hp}{r:Option (Res D)}{Q:VK}(nf:NF X a)(ha:p[n]?=some a)(h0:H a=some u)(mu:Mut (some u))(c:RC K cm p H a o u)(nl:∀ ys,u≠.lst ys)
  (q:Po K cm W (RV K) p σ H (match r with
   | some (.ok d s')=>some (.ok d (s'.set n o))
   | r=>r) Q):Po K cm W (RV K) p σ (upd H a (.frz od u)) r λx H1=>Ul X (Q x) H1:=by
 have fl:=Fut0.lock (od:=od) (p:=p) h0 mu
 match r,q with
 | some (.ok d s),q =>
  intro p' H' v f rs rv;obtain⟨k1,k2,k3,k4⟩:=zfK (od:=od) ha h0 mu c nl f rs;exact .inr ⟨a,od,u,k1,nf,q _ _ _ k2 k3 (RV.yJ k4 _ rv)⟩
 | some (.exc c fs s),q=>exact λp' H' cls dd f rs rx=>q p' H' cls dd (fl.trans f) rs rx
theorem zjY{X:Cx}{tg iter:Expr}{src:SrcE}{wi:TI}(hw:∀ p e s σ H R,RE X.K p H e σ->RS X.K cm p s H->PoI X cm W p σ H (src e s) R->wi σ H R)(hsub:∀ i∈gs,i∈vs)(hgl:∀ d e s e',g d e s=some e'->e'.length=e.length)
  {p:List Addr}{s:S}{H:Hp}{Q:VK} (re:RE X.K p H e σ) (rs:RS X.K cm p s H) (q:Po X.K cm W (RV X.K) p σ H (eLc vs src g t el e s) Q) :
  tLc wi (tG X.K cm g gs) (tT X.K cm Wf t) (tD X.K cm Wf el) vs σ H λx H1=>Ul X (Q x) H1:=by
 refine hw p e s σ H _ re rs ?_;unfold eLc bnd at q
 cases h:src e s with
 | none=>rw[h]at q;exact q.elim
 | some r =>
  rw[h]at q
  cases r with
  | exc c fs s'=>exact q
  | ok sk s1 =>
   intro p1 H1 f rs1;have q:=Po.fut q f;have re1:=re.mono f
   cases sk with
   | vals ds=>exact λJ G w hG Da hDa=>zgm (Q:=λx H1=>Ul X (Q x) H1) hsub hgl w hG re1 rs1 (q.imp λv H z=>Or.inl z) hDa
   | list n k=>exact λ_ a ha Da hDa=>lc_list (Q:=λx H1=>Ul X (Q x) H1) hsub hgl ha re1 rs1 (q.imp λv H z=>Or.inl z) hDa
   | dict n ds =>
    simp only at q;show Drv X cm (.dict n ds) p1 H1 s1 _
    cases hn:s1[n]? with
    | none=>unfold vK at q;rw[hn]at q;exact q.elim
    | some o =>
     by_cases hl:∃ o',o=.lck o'
     . obtain⟨o',rfl⟩:=hl;rw[zdz hn]at q;simp only[Drv,hn];exact λJ G w hG Da hDa=>zgm (Q:=λx H1=>Ul X (Q x) H1) hsub hgl w hG re1 rs1 (q.imp λv H z=>Or.inl z) hDa
     . have hl':∀ o',o≠.lck o':=λo' z=>hl ⟨o',z⟩;rw[zcc hn hl']at q
       have goal:∀ a u od J G,p1[n]?=some a->H1 a=some u->Mut (some u)->RC X.K cm p1 H1 a o u->NF X a->(∀ ys,u≠.lst ys)->WalkD X.K cm J ds G->G p1 (upd H1 a (.frz od u))->∀ Da,upd H1 a (.frz od u) Da=none->LcW J (tG X.K cm g gs) (tT X.K cm Wf t) (tD X.K cm Wf el) vs Da σ (upd H1 a (.frz od u)) λH=>Ul X (Q (.ref Da)) H:=by
        intro a u od J G ha h0 mu c nf nl w hG Da hDa;have fl:=Fut0.lock (od:=od) (p:=p1) h0 mu;have rs2:=rs1.zrn (o:=.lck o) ha h0 fl.toFut0 ⟨od,u,upd_same,mu,c.yJ fl.toFut0⟩;exact zgm (Q:=λx H1=>Ul X (Q x) H1) hsub hgl w hG (re1.mono fl) rs2 (Po.unlock nf ha h0 mu c nl q) hDa
       simp only[Drv,hn]
       cases o with
       | lck o'=>exact absurd rfl (hl' o')
       | _=>exact λa u od J G ha h0 mu c nf nl w hG Da hDa=>goal a u od J G ha h0 mu c nf nl w hG Da hDa
end
section
variable{X:Cx}{elt tg iter:Expr}{ifs:List Expr}{scope:Scope}{own:List (Str×Nat)}{pos spos:Pos}{src:SrcE}{g:Fc.G}{gs:List Nat}{t:T}{el:E}
theorem zep(hc:X.calm=true)(hN:X.N.Nodup)(own:List (Str×Nat))(hi:JI X cm W tg iter src)
  (hg:∀(s:Shared) (H:Hp) (C:Addr) (cl:List (Str×Addr)) (fp:List Addr),JG (X.blk s H scope (compEnvC scope cl C X.env) fp) cm tg g gs)
  (ht:∀(s:Shared) (H:Hp) (C:Addr) (cl:List (Str×Addr)) (fp:List Addr),JTs (X.blk s H scope (compEnvC scope cl C X.env) fp) cm Wf ifs t)
  (he:∀(s:Shared) (H:Hp) (C:Addr) (cl:List (Str×Addr)) (fp:List Addr),JE (X.blk s H scope (compEnvC scope cl C X.env) fp) cm Wf elt el)
  (hgl:∀ d e s e',g d e s=some e'->e'.length=e.length) (ok:BlkOk X.N X.env.scope scope own:=by exact blkOk_by (by rfl)) (hsub:∀ i∈gs,i∈own.map (·.2):=by decide) (hs:∀ x,foldedSetIterable iter X.env x=pure x:=by intro _;rfl) :
  JE X cm W (.ListComp elt [⟨tg,iter,ifs,0⟩] scope pos) (eLc (own.map (·.2)) src g t el):=by
 obtain⟨wi,hi,hw⟩:=hi;refine(zdF (pe_lc (g:=tG X.K cm g gs) (tt:=tT X.K cm Wf t) (te:=tD X.K cm Wf el) hc hN hi ok hg ht he hs)).imp ?_;rintro σ H Q ⟨p,e,s,re,rs,q⟩;exact zjY (tg:=tg) (iter:=iter) hw hsub hgl re rs q
theorem zgH(hc:X.calm=true)(hN:X.N.Nodup)(i:Nat){y:Str}{py:Pos}(own:List (Str×Nat))(hi:JI X cm W tg iter src)
  (hg:∀(s:Shared) (H:Hp) (C:Addr) (cl:List (Str×Addr)) (fp:List Addr),JG (X.blk s H scope (compEnvC scope cl C X.env) fp) cm tg g gs)
  (ht:∀(s:Shared) (H:Hp) (C:Addr) (cl:List (Str×Addr)) (fp:List Addr),JTs (X.blk s H scope (compEnvC scope cl C X.env) fp) cm Wf ifs t)
  (he:∀(s:Shared) (H:Hp) (C:Addr) (cl:List (Str×Addr)) (fp:List Addr),JE (X.blk s H scope (compEnvC scope cl C X.env) fp) cm Wf elt el)
  (hgl:∀ d e s e',g d e s=some e'->e'.length=e.length) (hy:X.N[i]?=some y:=by rfl) (hyl:X.env.scope.names.lookup y=some .local:=by rfl)
  (hsw:swapsWith (.ListComp elt [⟨tg,iter,ifs,0⟩] scope pos) (some (.Name y py)) spos.line X.env=pure true:=by exact sw_true rfl rfl rfl (by decide +kernel)) (ok:BlkOk X.N X.env.scope scope own:=by exact blkOk_by (by rfl)) (hsub:∀ i∈gs,i∈own.map (·.2):=by decide) (hs:∀ x,foldedSetIterable iter X.env x=pure x:=by intro _;rfl) :
  JS X cm W (.Assign [.Name y py] (.ListComp elt [⟨tg,iter,ifs,0⟩] scope pos) spos) (zQ (eLc (own.map (·.2)) src g t el) (gName i)):=by
 obtain⟨wi,hi,hw⟩:=hi;refine(zaV (ps_setLc (g:=tG X.K cm g gs) (tt:=tT X.K cm Wf t) (te:=tD X.K cm Wf el) hc hN hy hyl hsw hi ok hg ht he hs)).imp ?_;rintro Dn σ H ⟨p,e,s,re,rs,q⟩;refine zjY (tg:=tg) (iter:=iter) (Q:=λx H1=>Dn.nx (σ.set i (some x)) H1) hw hsub hgl re rs ?_;exact(PoS.set q re (vs:=[i])).imp λx H1 h=>zgR (p:=p) (e:=e) (s:=s) h
end
theorem yj{i:Nat}:∀ d e s e',gName i d e s=some e'->e'.length=e.length:=by
 intro d e s e' h;cases h;simp
theorem zaT:∀ ds e s e',gNil ds e s=some e'->e'.length=e.length:=by
 intro d e s e' h;unfold gNil at h;split at h
 . cases h;rfl
 . cases h
theorem xG{g:Fc.G}{r:GL}(h1:∀ d e s e',g d e s=some e'->e'.length=e.length)(h2:∀ d e s e',r d e s=some e'->e'.length=e.length):∀ ds e s e',gCons g r ds e s=some e'->e'.length=e.length:=by
 intro d e s e' h;unfold gCons at h;split at h
 . obtain⟨e1,a,b⟩:=qm.mp h;rw[h2 _ _ _ _ b,h1 _ _ _ _ a]
 . cases h
theorem zfb{k:Nat}{r:GL}(h1:∀ d e s e',r d e s=some e'->e'.length=e.length):∀ d e s e',gTup k r d e s=some e'->e'.length=e.length:=by
 intro d e s e' h;unfold gTup at h;split at h
 . split at h
   . exact h1 _ _ _ _ h
   . cases h
 . split at h
   . split at h
     . exact h1 _ _ _ _ h
     . cases h
   . cases h
 . cases h
end Fc
namespace Fc
open PySem PySem.Spec PyProof.Rows L2
variable{K:oU}{cm:CM}{W:WX}
structure Rg(k:Nat)(A:Around):Prop where
 room:Room k A
 gd:A.guards=some []
theorem Rg.mono{j k:Nat}{A:Around}(r:Rg k A)(h:j<=k):Rg j A:=⟨r.room.mono h,r.gd⟩
theorem Rg.deeper{k:Nat}{A:Around}(r:Rg (k+1) A)(env:PySem.Env):Rg k (A.deeper env):=⟨r.room.deeper env,r.gd⟩
theorem Rg.make{k:Nat}{A:Around}(r:Rg (k+1) A)(C:Addr)(us:List Value)(kw:List (Str×Value)):Rg k (A.under (.builtin "type.__call__" ⟨.ref C::us,kw⟩)):=by
 refine⟨r.room.make C us kw,?_⟩;simp only[Around.under]
 have e:(Code.builtin "type.__call__" ⟨.ref C::us,kw⟩).guards=[]:=by
  first | rfl | simp[Code.guards,Code.isGuard,guardIds]
 rw[e];exact r.gd
structure FnG(P:Program)(w:World)(K:oU)(mg:Str->Option Value)(base:Heap)(k:Nat)(f:Addr)(fd:FuncData)(ps:List Str)(sp:Sp):Prop where
 len:∀ vs H Q E,sp vs H Q E->vs.length=ps.length
 run:∀(A:Around) (outer:List PySem.Env) (s:Shared) (H:Hp) (args:Args) (us:List Value) (vs:List V) (Q:VK) (E:XK),Rg k A->Env0 P w K mg base A outer s H->BindsTo s fd args (ps.zip us)->Vals vs us->sp vs H Q E ->
  codeAny (model P w) A (.call (.ref f) args) (CR (L2.CX P w) outer P w H s Q E) s
abbrev Wx(E:XK):WX:=λc d _ H=>E c d H
def spD(K:oU)(cm:CM)(n:Nat)(F:Fc.F):Sp:=λvs H Q E=>∃ p s ds,RS K cm p s H/\RVs K p H ds vs/\ds.length=n/\Po K cm (Wx E) (RV K) p [] H (F ds s) Q
theorem zet{p:List Addr}{H:Hp}{ds:List D}{vs:List V}{N:List Str}(r:RVs K p H ds vs):RE K p H (ds.map some++List.replicate (N.length - ds.length) none) (L2.start N vs):=by
 have hl:=r.length;refine⟨by simp[L2.start,hl],λi d h=>?_⟩;by_cases hi:i<ds.length
 . rw[sX (by simpa using hi)]at h;rw[tU]at h;obtain⟨d',h1,h2⟩:=tW.mp h;cases h2;obtain⟨v,h3,h4⟩:=r.get h1;refine⟨v,?_,h4⟩;unfold L2.start;rw[sX (by simpa[← hl]using hi),tU,h3];rfl
 . rw[qp (by simpa using hi),oF]at h;split at h <;> cases h
abbrev uH(P:Program)(w:World)(K:oU)(mg:Str->Option Value)(base:Heap)(N:List Str)(qual:Str)(scope:Scope)(f:Addr)(cdv:Value)(A:Around)(outer:List PySem.Env)(s:Shared)(H:Hp)(E:XK):Cx:=cxOf (L2.CX P w) P w K mg base N qual scope f cdv A outer s H E
section
variable{P:Program}{w:World}{mg:Str->Option Value}{base:Heap}{k:Nat}{f:Addr}{fd:FuncData}{x qual:Str}{params:Arguments}{body:List Stmt}{scope:Scope}{dvs:List V}{kws:List (Str×V)}{N ps:List Str}{b:C}
theorem FnG.of(F:FunD K x qual params body scope dvs kws f fd)(S:FnScope N ps scope)
  (hbody:∀(cdv:Value) (A:Around) (outer:List PySem.Env) (s:Shared) (H:Hp) (E:XK),Rg k (uH P w K mg base N qual scope f cdv A outer s H E).A->Takes (uH P w K mg base N qual scope f cdv A outer s H E) (Wx E) ->
   PassesOwn (model P w) (uH P w K mg base N qual scope f cdv A outer s H E).A (uH P w K mg base N qual scope f cdv A outer s H E).env (uH P w K mg base N qual scope f cdv A outer s H E).xe ->
   JSs (uH P w K mg base N qual scope f cdv A outer s H E) cm (Wx E) body b) :
  FnG P w K mg base (k+1) f fd ps (spD K cm ps.length (yg ps.length N.length b)):=by
 have len:∀ vs H Q E,spD K cm ps.length (yg ps.length N.length b) vs H Q E->vs.length=ps.length:=λvs H Q E ⟨p,s,ds,_,r,l,_⟩=>by rw[← r.length,l]
 obtain⟨oc,od,dV,kV,doc,pm,an,cdv,ct,osl,rfl,lk,hcd,_,_⟩:=F.ex;refine⟨len,λA outer s H args us vs Q E hr e0 hb r hsp=>?_⟩;have hl:=len _ _ _ _ hsp;have KX:K.In s.heap:=e0.mod.kin.keeps λb o e=>(e0.bs b o e).1;have lim:s.heap.NoLimit:=e0.mod.nolimit.keeps λb o e=>(e0.bs b o e).1
 have hkind:∀ y∈ps.zip us,scope.names.lookup y.1=some .local\/(scope.names.lookup y.1=some .cell/\((cellsFrom (s.heap.objs.size+1) scope.names []).lookup y.1).isSome=true):=λ⟨n,v⟩ hy =>
  (S.par n (List.of_mem_zip hy).1).elim .inl λq=>.inr ⟨q,PySem.W.cellsFrom_some _ _ _ (.inl q)⟩
 refine codeAny_call_function hr.room.depth (KX _ _ lk) rfl S.co S.gen rfl (PySem.W.codeRec_of KX hcd) (hb _ _ _ _ ?_);refine wpAny_newFunctionEnv_cells S.kind hkind λenv he s1 y=>?_;subst he;refine⟨lim.keeps y.toInCall.keep,codeAny_func ?_⟩;have ht:=hbody cdv A outer s H E (hr.deeper _) (takes_of (X:=uH P w K mg base N qual scope f cdv A outer s H E) rfl rfl rfl rfl) (passes_of (X:=uH P w K mg base N qual scope f cdv A outer s H E) rfl);have I:Inv (uH P w K mg base N qual scope f cdv A outer s H E) [] (L2.start N vs) H s1:=inv_start S hr.room.hd e0 hl r y;obtain⟨p,st,ds,rs,rv,hn,q⟩:=hsp
 have hq:tS K cm (Wx E) b { nx:=λ_ H'=>Q .non H',rt:=Q } (L2.start N vs) H:=by
  refine⟨p,_,st,zet rv,rs,?_⟩;unfold yg at q;rw[if_pos hn,← hn]at q
  cases e:b (ds.map some++List.replicate (N.length - ds.length) none) st with
  | none=>rw[e]at q;exact q.elim
  | some rr =>
   rw[e]at q
   cases rr with
   | nx e' s'=>exact λp' H' σ' f rs' _=>q p' H' .non f rs' zhM
   | rt d s'=>exact q
   | bk _ _=>exact q.elim
   | ct _ _=>exact q.elim
   | xc c fs e' s'=>exact λp' H' σ' cls dd f rs' _ rx=>q p' H' cls dd f rs' rx
 refine wpAny_mono (ht.run [] s1 (L2.start N vs) H _ I hq) (λfl s' hs=>?_) λe s' hs=>hs
 have fin:∀{σ':L2.St}{H':Hp}{v:V}{u:Value},Inv (uH P w K mg base N qual scope f cdv A outer s H E) [] σ' H' s'->RelV v u->Q v H'->CE outer P w H s Q u s' :=
  λ{σ' H' v u} J rv q=>⟨v,H',J.os,J.bare,J.base,J.hok,rv,q⟩
 cases fl with
 | ret u =>
  obtain⟨v,σ',H',J,rv,q⟩:=hs;exact fin J rv q
 | next =>
  obtain⟨σ',H',J,q⟩:=hs;exact fin (v:=V.non) (u:=Value.none) J rfl q
 | brk =>
  obtain⟨_,_,_,q⟩:=hs;exact False.elim q
 | cont =>
  obtain⟨_,_,_,q⟩:=hs;exact False.elim q
end
def BindD(K:oU)(fd:FuncData)(ps:List Str)(dl:List D):Prop:=∃ ds dvs,Vals dvs ds/\Binds K fd ps ds/\∀ p H,RVs K p H dl dvs
structure FnV(P:Program)(w:World)(K:oU)(mg:Str->Option Value)(base:Heap)(cm:CM)(k:Nat)(f:Addr)(F:Fc.F)(dfls:List (List D)):Prop where
 ex:∃ n fd ps,FnG P w K mg base k f fd ps (spD K cm n F)/\(∀ ds s,ds.length≠n->F ds s=none)/\∀ dl∈dfls,BindD K fd ps dl
theorem zan{np nn:Nat}{b:C}:∀ ds s,ds.length≠np->yg np nn b ds s=none:=λds s h=>by
 unfold yg;rw[if_neg h]
theorem Po.wish{p:List Addr}{σ:L2.St}{H:Hp}{r:Option (Res D)}{Q:VK}(q:Po K cm W (RV K) p σ H r Q):Po K cm (Wx λc d H=>W c d σ H) (RV K) p [] H r Q:=by
 match r,q with
 | some (.ok d s'),q=>exact q
 | some (.exc c fs s'),q=>exact q
section
variable{X:Cx}{k j:Nat}{f C:Addr}{F:Fc.F}{dfl:List D}{dfls:List (List D)}{x m:Str}{p pos apos:Pos}{e o:Expr}{es:List Expr}{fl:EL}{fo:E}
theorem zpD(V:FnV X.prog X.w X.K X.mg X.base cm k f F dfls)(hr:Rg j X.A)(hk:k<=j)(tk:Takes X W)(hd:dfl∈dfls){pins:List (Addr×Obj)}{σ:L2.St}{H:Hp}{s:Shared}{Q:VK}{us:List Value}{vs:List L2.V}{pa:List Addr}{st:S}{ds:List D}
  (I:Inv X pins σ H s) (r:Vals vs us) (rs:RS X.K cm pa st H) (rv:RVs X.K pa H ds vs) (q:Po X.K cm W (RV X.K) pa σ H (F (ds++dfl) st) Q):wpAny (model X.prog X.w) X.A (call (.ref f) us) (EP X pins σ Q) X.xe s:=by
 obtain⟨n,fd,ps,G,ar,bd⟩:=V.ex;obtain⟨dd,dvs,r1,hb,r2⟩:=bd dfl hd
 have hn:(ds++dfl).length=n:=Classical.byContradiction λz=>by
  rw[ar _ _ z]at q;exact q
 have sp:spD X.K cm n F (vs++dvs) H Q (λc d H=>W c d σ H):=⟨pa,st,ds++dfl,rs,rv.append (r2 pa H),hn,q.wish⟩
 have r3:Vals (vs++dvs) (us++dd):=r.append r1
 have hl:(us++dd).length=ps.length:=by rw[← r3.length];exact G.len _ _ _ _ sp
 refine wpAny_call (codeAny_mono (G.run X.A X.stack s H ⟨us,[]⟩ (us++dd) (vs++dvs) Q _ (hr.mono hk) I.env0 (hb s us I.kIn hl) r3 sp) λr s' hq=>?_)
 cases r with
 | error e=>exact tk _ _ (XE.of_call I (λ_ _ _ h=>h) hq)
 | ok fl =>
  cases fl with
  | ret u=>exact I.after hq
  | next=>exact False.elim hq
  | brk=>exact False.elim hq
  | cont=>exact False.elim hq
structure FnAt(P:Program)(w:World)(K:oU)(mg:Str->Option Value)(base:Heap)(cm:CM)(k:Nat)(x:Str)(F:Fc.F)(dfls:List (List D)):Prop where
 ex:∃ f,FnV P w K mg base cm k f F dfls/\mg x=some (.ref f)/\PySem.W.keepIn K (.ref f)=true
theorem zcC(V:FnAt X.prog X.w X.K X.mg X.base cm k x F dfls)(hr:Rg j X.A)(tk:Takes X W)(hk:k<=j)(hd:dfl∈dfls)(ha:JA X cm W (e::es) fl)(hg:Gl X x:=by rfl)(hdb:(x == ("__debug__":Str))=false:=by decide)
  (he:starEach (e::es) X.env=(false,eval e X.env)::starEach es X.env:=by rfl) (hpl:(backTo pos (starEach es X.env)).any (·.1)=false:=by rfl):JE X cm W (.Call (.Name x p) (e::es) [] pos) (zB F dfl fl):=by
 obtain⟨f,V,hm,kp⟩:=V.ex;refine⟨λpins s σ H Q I h=>?_⟩;obtain⟨pa,en,st,re,rs,q⟩:=h;refine wpAny_Call_Name_kw (ld_glob I hg hm ?_ hdb);refine PySem.W.callWith_K (h₀:=X.base) I.ok.mod.kin kp (thn (ha.run pos pins s σ H _ I ⟨pa,en,st,re,rs,Po.bnd (rel1:=RVs X.K) q⟩) λus s1 ⟨vs,H1,I1,r,q⟩=>⟨I1.kIn,?_⟩) he hpl;obtain⟨ds,p1,s1',f1,rs1,rv1,q⟩:=q;exact zpD V hr hk tk hd I1 r rs1 rv1 q
structure MtAt(P:Program)(w:World)(K:oU)(mg:Str->Option Value)(base:Heap)(cm:CM)(k:Nat)(c m:Str)(F:Fc.F)(dfls:List (List D)):Prop where
 ex:∃ C f,cm.ins c=some C/\L2.Cls K C/\Meth K C m f/\FnV P w K mg base cm k f F dfls
theorem tD.meth{c:Str}{σ:L2.St}{H:Hp}{Q:VK}(h:tD K cm W (zY c m F dfl fo fl) σ H Q):tD K cm W fo σ H λx H1=>∃ a C dx gs,cm.ins c=some C/\x=.ref a/\H1 a=some (.ins C dx gs)/\gs.lookup m=none/\tL K cm W fl σ H1 λvs H2=>∃ pa st d ds,RS K cm pa st H2/\RV K pa H2 d x/\RVs K pa H2 ds vs/\Po K cm W (RV K) pa σ H2 (F (d::(ds++dfl)) st) Q:=by
 obtain⟨p,e,s,re,rs,q⟩:=h;refine⟨p,e,s,re,rs,(Po.bnd (rel1:=RV K) q).imp ?_⟩;rintro v H1 ⟨d,p1,s1,f1,rs1,rv,q1⟩;split at q1
 . rename_i n;split at q1
   . rename_i c' fs hn;split at q1
     . rename_i hc;obtain⟨rfl,hm⟩:=hc;have rv':=rv;simp only[RV]at rv';obtain⟨a,ha,rfl⟩:=rv';obtain⟨b,hb,u,e1,C,dx,gs,hC,rfl,rk⟩:=rs1.at hn;rw[ha]at hb;cases hb;refine⟨a,C,dx,gs,hC,rfl,e1,?_,p1,e,s1,re.mono f1,rs1,(Po.bnd (rel1:=RVs K) q1).imp ?_⟩
       . have:∀{fs:List (Str×D)}{gs:List (Str×V)},RKs K p1 H1 fs gs->fs.lookup m=none->gs.lookup m=none:=by
          intro fs
          induction fs with
          | nil=>intro gs r _;simp only[RKs]at r;subst r;rfl
          | cons z fs ih =>
           intro gs r hm;simp only[RKs]at r;obtain⟨v,r',rfl,r1,r2⟩:=r;obtain⟨z1,z2⟩:=z;by_cases hz:m=z1
           . subst hz;simp[List.lookup]at hm
           . have hz':(m == z1)=false:=by simpa using hz
             simp only[List.lookup,hz']at hm ⊢;exact ih r2 hm
         exact this rk hm
       . rintro vs H2 ⟨ds,p2,s2,f2,rs2,rv2,q2⟩;exact⟨p2,s2,_,ds,rs2,RV.mono f2 _ rv,rv2,q2⟩
     . exact q1.elim
   . exact q1.elim
 . exact q1.elim
theorem zdG{c:Str}{pl:Sem Bool}(V:MtAt X.prog X.w X.K X.mg X.base cm k c m F dfls)(hr:Rg j X.A)(tk:Takes X W)(hk:k<=j)(hd:dfl∈dfls)(ho:JE X cm W o fo)(ha:JA X cm W (e::es) fl)
  (hst:starEach (e::es) X.env=(false,eval e X.env)::starEach es X.env:=by rfl) (hpl:(backTo pos (starEach es X.env)).any (·.1)=false:=by rfl)
  (ht:eval (.Call (.Attribute o m apos) (e::es) [] pos) X.env=(do
   let ov ← eval o X.env
   standAt apos.atName
   let (f,first) ← holding [ov] (getMethod ov m pl)
   callWith pos f first (backTo pos (starEach (e::es) X.env)) (backToKw pos (keywordEach [] X.env))):=by rfl) :
  JE X cm W (.Call (.Attribute o m apos) (e::es) [] pos) (zY c m F dfl fo fl):=by
 obtain⟨C,f,hC,cl,mt,V⟩:=V.ex;refine⟨λpins s σ H Q I h=>?_⟩;refine PySem.W.methodCall_KW (pl:=pl) (thn (ho.run pins s σ H _ I (tD.meth h)) λu s1 ⟨x,H1,I1,rx,a,C',dx,gs,hC',ex,ea,l,q⟩=>?_) ht;rw[hC]at hC';cases hC';subst ex;obtain rfl:u=Value.ref a:=rx;refine getmeth_ok I1 ea cl mt l ?_;refine PySem.W.callWith_K (first:=[.ref a]) (h₀:=X.base) I.ok.mod.kin mt.kp (thn (ha.run pos pins s1 σ H1 _ I1 q) λus s2 ⟨vs,H2,I2,r,pa,st,d,ds,rs,rv,rvs,q2⟩=>⟨I2.kIn,?_⟩) hst hpl;refine zpD (us:=.ref a::us) (vs:=L2.V.ref a::vs) (ds:=d::ds) V hr hk tk hd I2 (.cons rfl r) rs ?_ q2;simp only[RVs];exact⟨_,_,rfl,rv,rvs⟩
theorem xq{c:Str}{pl:Sem Bool}(V:MtAt X.prog X.w X.K X.mg X.base cm k c m F dfls)(hr:Rg j X.A)(tk:Takes X W)(hk:k<=j)(hd:dfl∈dfls)(ho:JE X cm W o fo)
  (ht:eval (.Call (.Attribute o m apos) [] [] pos) X.env=(do
   let ov ← eval o X.env
   standAt apos.atName
   let (f,first) ← holding [ov] (getMethod ov m pl)
   callWith pos f first (backTo pos (starEach [] X.env)) (backToKw pos (keywordEach [] X.env))):=by rfl) :
  JE X cm W (.Call (.Attribute o m apos) [] [] pos) (zY c m F dfl fo zj):=by
 obtain⟨C,f,hC,cl,mt,V⟩:=V.ex;refine⟨λpins s σ H Q I h=>?_⟩;refine PySem.W.methodCall_KW (pl:=pl) (thn (ho.run pins s σ H _ I (tD.meth h)) λu s1 ⟨x,H1,I1,rx,a,C',dx,gs,hC',ex,ea,l,q⟩=>?_) ht;rw[hC]at hC';cases hC';subst ex;obtain rfl:u=Value.ref a:=rx;refine getmeth_ok I1 ea cl mt l ?_;obtain⟨pa,en,st,re,rs,q⟩:=q;obtain⟨pb,sb,d,ds,rsb,rv,rvs,q⟩:=Po.ok (v:=([]:List L2.V)) q rs (by simp[RVs]);have e0:ds=[]:=pN.mp (by rw[rvs.length];rfl);subst e0;refine PySem.W.callWith_K0 (first:=[.ref a]) I1.kIn mt.kp (zpD (us:=[.ref a]) (vs:=[L2.V.ref a]) (ds:=[d]) V hr hk tk hd I1 (.cons rfl .nil) rsb ?_ q);simp only[RVs];exact⟨_,_,rfl,rv,rfl⟩
structure MkAt(P:Program)(w:World)(K:oU)(mg:Str->Option Value)(base:Heap)(cm:CM)(k:Nat)(c:Str)(F:Fc.F)(dfls:List (List D)):Prop where
 ex:∃ C f,cm.ins c=some C/\L2.Mk K C f/\mg c=some (.ref C)/\FnV P w K mg base cm k f F dfls
theorem zrw{c:Str}(hC:cm.ins c=some C)(M:L2.Mk X.K C f)(V:FnV X.prog X.w X.K X.mg X.base cm k f F dfls)(hr:Rg j X.A)(hk:k+1<=j)(tk:Takes X W)(hd:dfl∈dfls){pins:List (Addr×Obj)}{σ:L2.St}{H:Hp}{s:Shared}{Q:VK}{us:List Value}{vs:List L2.V}{pa:List Addr}{st:S}{ds:List D}
  (I:Inv X pins σ H s) (r:Vals vs us) (rs:RS X.K cm pa st H) (rv:RVs X.K pa H ds vs)
  (q:Po X.K cm W (RV X.K) pa σ H (match F (.ref st.length::(ds++dfl)) (st++[.ins c []])with
    | some (.ok .non s')=>some (.ok (.ref st.length) s')
    | some (.exc x fs s')=>some (.exc x fs s')
    | _=>none) Q):wpAny (model X.prog X.w) X.A (call (.ref C) us) (EP X pins σ Q) X.xe s:=by
 obtain⟨n,fd,ps,G,ar,bd⟩:=V.ex;obtain⟨dd,dvs,r1,hb,r2⟩:=bd dfl hd;have hx:H (s.heap.objs.size+1)=none:=I.hok.fresh (pq _);have hdx:H s.heap.objs.size=none:=I.hok.fresh (tX _);have ne:s.heap.objs.size+1≠s.heap.objs.size:=Nat.succ_ne_self _;have k1:=wR (u:=HO.own (s.heap.objs.size+1)) hdx
 have hx2:(upd H s.heap.objs.size (.own (s.heap.objs.size+1))) (s.heap.objs.size+1)=none:=by rw[upd_ne ne];exact hx
 obtain⟨f1,rs1,e1⟩:=(rs.same k1).new (o:=.ins c []) (u:=.ins C s.heap.objs.size []) hx2 ⟨C,_,[],hC,rfl,by simp[RKs]⟩;have ft:=(Fut.same (p:=pa) k1).trans f1
 have hn:(D.ref st.length::(ds++dfl)).length=n:=Classical.byContradiction λz=>by
  rw[ar _ _ z]at q;exact q
 have I2:=Inv.made (C:=C) I
 have sp:spD X.K cm n F (L2.V.ref (s.heap.objs.size+1)::(vs++dvs)) (upd (upd H s.heap.objs.size (.own (s.heap.objs.size+1))) (s.heap.objs.size+1) (.ins C s.heap.objs.size [])) (λv H2=>v=.non/\Q (.ref (s.heap.objs.size+1)) H2) (λc d H=>W c d σ H):=by
  refine⟨_,_,.ref st.length::(ds++dfl),rs1,?_,hn,?_⟩
  . simp only[RVs];exact⟨_,_,rfl,wW e1,(rv.mono ft).append (r2 _ _)⟩
  . cases hf:F (.ref st.length::(ds++dfl)) (st++[.ins c []])with
    | none=>rw[hf]at q;exact q.elim
    | some rr =>
     rw[hf]at q
     cases rr with
     | exc x fs s'=>exact λp' H' cls dd f rs' rx=>q p' H' cls dd (ft.trans f) rs' rx
     | ok d s' =>
      cases d with
      | non=>exact λp' H' v f rs' rv'=>⟨zbs rv',q p' H' _ (ft.trans f) rs' (wW (f.pre _ _ e1))⟩
      | _=>exact q.elim
 have r3:Vals (L2.V.ref (s.heap.objs.size+1)::(vs++dvs)) (Value.ref (s.heap.objs.size+1)::(us++dd)):=.cons rfl (r.append r1)
 have hl:(Value.ref (s.heap.objs.size+1)::us++dd).length=ps.length:=by
  have e:=r3.length;rw[G.len _ _ _ _ sp]at e;exact e.symm
 refine wpAny_call (make_map (f:=f) I.kIn M.makes M.init (beq_iff_eq.mp M.fn) (codeAny_mono (G.run _ X.stack _ _ ⟨Value.ref (s.heap.objs.size+1)::us,[]⟩ (Value.ref (s.heap.objs.size+1)::(us++dd)) _ _ _ ((hr.mono hk).make C us [])
  (I2.env0.make C us []) (hb _ (Value.ref (s.heap.objs.size+1)::us) I2.kIn hl) r3 sp) λr s' hq'=>?_))
 cases r with
 | error e=>exact tk _ _ (XE.of_call I2 (λ_ _ _ h=>h) hq')
 | ok fl =>
  cases fl with
  | ret u =>
    obtain⟨v,H',I3,rv',ev,q3⟩:=I2.after hq';subst ev;exact⟨rv',⟨L2.V.ref (s.heap.objs.size+1),H',I3,rfl,q3⟩⟩
  | next=>exact False.elim hq'
  | brk=>exact False.elim hq'
  | cont=>exact False.elim hq'
theorem zkP{c:Str}(V:MkAt X.prog X.w X.K X.mg X.base cm k c F dfls)(hr:Rg j X.A)(tk:Takes X W)(hk:k+1<=j)(hd:dfl∈dfls)(ha:JA X cm W (e::es) fl)(hg:Gl X c:=by rfl)(hdb:(c == ("__debug__":Str))=false:=by decide)
  (he:starEach (e::es) X.env=(false,eval e X.env)::starEach es X.env:=by rfl) (hpl:(backTo pos (starEach es X.env)).any (·.1)=false:=by rfl):JE X cm W (.Call (.Name c p) (e::es) [] pos) (zbP c F dfl fl):=by
 obtain⟨C,f,hC,M,hm,V⟩:=V.ex;refine⟨λpins s σ H Q I h=>?_⟩;obtain⟨pa,en,st,re,rs,q⟩:=h;refine wpAny_Call_Name_kw (ld_glob I hg hm ?_ hdb);refine PySem.W.callWith_K (h₀:=X.base) I.ok.mod.kin M.kp (thn (ha.run pos pins s σ H _ I ⟨pa,en,st,re,rs,Po.bnd (rel1:=RVs X.K) q⟩) λus s1 ⟨vs,H1,I1,r,q⟩=>⟨I1.kIn,?_⟩) he hpl;obtain⟨ds,p1,s1',f1,rs1,rv1,q⟩:=q;exact zrw hC M V hr hk tk hd I1 r rs1 rv1 q
end
theorem vM{X:Cx}:Takes X Wf:=λu s' ⟨_,_,_,_,_,_,_,_,_,_,_,_,_,_,_,_,w⟩=>w.elim
end Fc
namespace Fc
open PySem
def enc(s:S)(d:D):PyData:=(dat s 60 d).getD .none
def zaK(xs:List PyData):Bool:=(xs.all λx=>match x with
 | .tuple (_::_)=>true
 | _=>false)||xs.all λx=>match x with
 | .none=>false
 | .tuple _=>false
 | _=>true
def zbt(s:S)(ds:List D):Bool:=(dats s 60 ds).isSome&&sz ds.length&&((ds.map (enc s)).all λx=>(ds.map (enc s)).all λy=>PySem.W.alike x y)&&zaK (ds.map (enc s))
def zbB(s:S)(ds:List D):List D:=ds.mergeSort (PySem.W.dataLe false (enc s))
def yX:List D->M D:=λxs s=>match xs with
 | [.ref n]=>match s[n]? with
  | some (.lst ds)=>if zbt s ds then new (.lst (zbB s ds)) s else none
  | _=>none
 | _=>none
def zgu:D->M D:=λx s=>match x with
 | .ref n=>match s[n]? with
  | some (.lst ds)=>new (.lst ds.reverse) s
  | _=>none
 | _=>none
end Fc
namespace Fc
open PySem PySem.Spec PyProof.Rows L2
variable{cm:CM}{W:WX}
section
variable{K:oU}
mutual
theorem zeR(s:S):∀(n:Nat) (d:D) {x:PyData},dat s n d=some x->x.depth<=n
 | n,.non,x,h=>by cases n <;> (simp only[dat]at h;cases h;simp[PyData.depth])
 | n,.bl b,x,h=>by cases n <;> (simp only[dat]at h;cases h;simp[PyData.depth])
 | n,.int b,x,h=>by cases n <;> (simp only[dat]at h;cases h;simp[PyData.depth])
 | n,.str b,x,h=>by cases n <;> (simp only[dat]at h;cases h;simp[PyData.depth])
 | n,.rol b,x,h=>by cases n <;> (simp only[dat]at h;cases h)
 | 0,.tup b,x,h=>by simp only[dat]at h;cases h
 | 0,.ref b,x,h=>by simp only[dat]at h;cases h
 | 0,.stu b,x,h=>by simp only[dat]at h;cases h
 | n+1,.tup ds,x,h=>by
  simp only[dat,tW]at h;obtain⟨xs,h,rfl⟩:=h;have:=jF s n ds h;simp only[PyData.depth];omega
 | n+1,.stu ds,x,h=>by
  simp only[dat,tW]at h;obtain⟨xs,h,rfl⟩:=h;have:=jF s n ds h;simp only[PyData.depth];omega
 | n+1,.ref a,x,h=>by
  simp only[dat]at h;split at h
  . rename_i ds hl;obtain⟨xs,h',rfl⟩:=tW.mp h;have:=jF s n ds h';simp only[PyData.depth];omega
  . cases h
theorem jF(s:S):∀(n:Nat) (ds:List D) {xs:List PyData},dats s n ds=some xs->PyData.depthAll xs<=n
 | n,[],xs,h=>by cases n <;> (simp only[dats]at h;cases h;simp[PyData.depthAll])
 | n,d::ds,xs,h=>by
  simp only[dats]at h;split at h
  . rename_i x xs' e1 e2;cases h;have h1:=zeR s n d e1;have h2:=jF s n ds e2;simp only[PyData.depthAll];omega
  . cases h
end
theorem zho{s:S}:∀{ds:List D}{xs:List PyData},dats s 60 ds=some xs->(∀ d∈ds,dat s 60 d=some (enc s d))
 | [],_,_,d,h=>by cases h
 | e::ds,xs,h,d,hd=>by
  simp only[dats]at h;split at h
  . rename_i x xs' e1 e2
    rcases tR.mp hd with rfl | hd
    . unfold enc;rw[e1];rfl
    . exact zho e2 d hd
  . cases h
theorem zgd{p:List Addr}{H:Hp}{R:Value->D->Prop}:∀{ds:List D}{vs:List L2.V}{us:List Value},RVs K p H ds vs->Vals vs us->(∀ d∈ds,∀ v u,RV K p H d v->RelV v u->R u d)->PySem.W.EachIs R us ds
 | [],_,_,r,v,h=>by
  simp only[RVs]at r;subst r;cases v;exact .nil
 | d::ds,_,_,r,v,h=>by
  simp only[RVs]at r;obtain⟨x,r',rfl,r1,r2⟩:=r
  cases v with
  | cons a b=>exact .cons (h d (tH) x _ r1 a) (zgd r2 b λd' hd=>h d' (tV _ hd))
theorem zkv{p:List Addr}{H:Hp}:∀{ds:List D}{us:List Value},PySem.W.EachIs (λu d=>∃ v,RV K p H d v/\RelV v u) us ds->∃ vs,RVs K p H ds vs/\Vals vs us
 | [],_,h=>by cases h;exact⟨[],by simp[RVs],.nil⟩
 | d::ds,_,h=>by
  cases h with
  | cons a b =>
   obtain⟨v,h1,h2⟩:=a;obtain⟨vs,h3,h4⟩:=zkv b;refine⟨v::vs,?_,.cons h2 h4⟩;simp only[RVs];exact⟨v,vs,rfl,h1,h3⟩
end
section
variable{X:Cx}
theorem s_sorted{k:Nat}(hr:Room k X.A):SN X cm (.builtin "sorted") yX:=by
 refine⟨λvs H Q=>∃ W p s σ ds,RS X.K cm p s H/\RVs X.K p H ds vs/\Po X.K cm W (RV X.K) p σ H (yX ds s) Q,?_,λW p s σ H vs ds Q rs r q=>⟨W,p,s,σ,ds,rs,r,q⟩⟩;rintro pins s σ H vs us Q I ru ⟨W,p,st,σ',ds,rs,rv,q⟩;unfold yX at q;split at q
 . rename_i n;split at q
   . rename_i ds hn;split at q
     . rename_i hok;obtain⟨x,rfl,rx⟩:=wN rv;obtain⟨a,ws,rfl,hp,ha,rw'⟩:=yw rs rx hn;obtain⟨its,r2,hl,hz⟩:=I.list (SqL.of (K:=X.K) ha);rw[Vals.ref1 ru];unfold zbt at hok;simp only[sG,sH]at hok;obtain⟨⟨⟨h1,h2⟩,h3⟩,h4⟩:=hok;obtain⟨xs,h1⟩:=Option.isSome_iff_exists.mp h1;have he:=zho h1;have hal:PySem.W.AllAlike (ds.map (enc st)):=λd hd d' hd'=>h3 d hd d' hd'
       have hk:PySem.W.Sortable (ds.map (enc st)):=by
         unfold zaK at h4;rw[qR,sH,sH]at h4
         rcases h4 with h4 | h4
         . refine .inl λd hd=>?_;have:=h4 d hd;split at this
           . exact⟨_,_,rfl⟩
           . cases this
         . refine .inr λd hd=>?_;have:=h4 d hd;split at this
           . cases this
           . cases this
           . rename_i g1 g2;exact⟨λz=>g1 z,λxs z=>g2 xs z⟩
       refine PySem.W.sorted_data (R:=λu d=>∃ v,RV X.K p H d v/\RelV v u) (bs:=ds) (enc:=enc st) hl.isList (zgd rw' r2 λd hd v u h1 h2=>⟨v,h1,h2⟩)
         (zgd rw' r2 λd hd v u h1 h2=>Dp.reads I _ v u (zbL rs 60 d h1 (he d hd)) h2) hal hk (zaM h2) (λb hb=>?_) λout ho eo=>?_
       . have:=zeR st 60 b (he b hb);have:=hr.units;omega
       . obtain⟨ys,y1,y2⟩:=zkv eo;obtain⟨c,hc⟩:=sortedAll_at s.heap its out.toArray;have hd:H (s.heap.objs.size+1)=none:=I.hok.fresh (pq _);refine⟨.ref (s.heap.objs.size+1),upd H (s.heap.objs.size+1) (.lst ys),I.laid (t':=s.toks) (λb o e=>sortedAll_old e) (pq _) ⟨?_,out,c,y2,hc⟩,rfl,?_⟩
         . rw[y2.length,ho];exact zaM h2
         . exact Po.newl q rs y1 hd
     . exact q.elim
   . exact q.elim
 . exact q.elim
end
section
theorem zig{K:oU}{p:List Addr}{H:Hp}:∀ xs:List Int,RVs K p H (xs.map D.int) (xs.map L2.V.int)
 | []=>by simp[RVs]
 | x::xs=>by
  simp only[tK,RVs];exact⟨_,_,rfl,wu x,zig xs⟩
end
end Fc
namespace Fc
open PySem PySem.Spec PyProof.Rows L2
variable{K:oU}{cm:CM}
theorem zoQ{P:Program}{w:World}{mg mb:Str->Option Value}{k:Nat}{fa a:Addr}{fd:FuncData}{x:Str}{Fn:Fc.F}{s1:Shared}{vs:List Value}{ns:List Int}{H:Hp}
  (KX:K.In s1.heap) (hns:s1.heap.Ns mainGlobals mg) (hb:s1.heap.Ns builtinsNs mb) (hbb:∀ x:Str,x≠"__name__"->mb x=bootBuiltins x) (hlim:s1.heap.NoLimit) (hg:s1.gens=#[])
  (ha:s1.heap.get? a=some { cls:=.type "list",data:=.seq vs.toArray }) (hr:Rg k callerA)
  (F:∀ base:Heap,K.In base->base.Ns mainGlobals mg->FnG P w K mg base k fa fd [x] (spD K cm 1 Fn)) (hbind:∀(s:Shared) (u:Value),BindsTo s fd ⟨[u],[]⟩ [(x,u)])
  (hF:∃ s',Fn [.rol (ns.map D.int)] []=some (.ok (.bl true) s')) (hO:Only H) (hS:SqL K H a (ns.map V.int)) (hok:HOk P w H s1.heap) (hA:∀ b,H b≠none->b=a) (hK:H a≠none->K.lookup a=none) :
  codeAny (model P w) callerA (.call (.ref fa) ⟨[.ref a],[]⟩) (λr s'=>r=.ok (.ret (.bool true))/\OldK s1.heap s'.heap/\s'.os=s1.os/\AllBare s'.gens) s1:=by
 have out:∀{b:Addr},H b=none\/b=a:=λ{b}=>by
  cases q:H b with
  | none=>exact .inl rfl
  | some u=>exact .inr (hA b (by rw[q];simp))
 have stays:∀{b:Addr}{o:Obj},s1.heap.get? b=some o->H b=none->(hidT s1.heap H).get? b=some o:=λe n=>hidT_get e n
 have nsK:∀{b:Addr}{m:Str->Option Value},s1.heap.Ns b m->(hidT s1.heap H).Ns b m:=λ{b m} ⟨o,es,ep,e,d,r⟩=>by
  refine⟨o,es,ep,stays e ?_,d,r⟩
  rcases out (b:=b)with z | rfl
  . exact z
  . rw[ha]at e;cases e;have d':Data.seq vs.toArray _=Data.dict es ep:=d;cases d'
 have hKb:K.In (hidT s1.heap H):=λb o e=>stays (KX b o e) (by
  rcases out (b:=b)with z | rfl
  . exact z
  . cases q:H b with
    | none=>rfl
    | some u=>rw[hK (by rw[q];simp)]at e;cases e)
 have hM:Mod K mg (hidT s1.heap H):=⟨hKb,nsK hns,⟨mb,nsK hb,hbb⟩,let ⟨mc,h1,h2⟩:=hlim;⟨mc,nsK h1,h2⟩⟩
 have noFr:∀ b:Addr,b∉frs []:=λb z=>absurd (show b∈([]:List Addr)from z) (by simp)
 have e0:Env0 P w K mg (hidT s1.heap H) callerA [] s1 H:=⟨rfl,hM,λb o e=>of_hidT e,Nat.le_of_eq (hidT_size _ _),trivial,λb z=>absurd z (noFr b),hok,.of_eq hg⟩
 obtain⟨sF,hF⟩:=hF
 have sp:spD K cm 1 Fn [V.ref a] H (λv _=>v=.bl true) (λ_ _ _=>False):=by
  refine⟨[],[],[.rol (ns.map D.int)],⟨rfl,pA,λn o b h=>by simp at h⟩,?_,rfl,?_⟩
  . simp only[RVs,RV];exact⟨_,_,rfl,⟨a,_,rfl,RolAt.of hO hS,zig ns⟩,rfl⟩
  . rw[hF];exact λp' H' v _ _ rv=>zaJ rv
 refine codeAny_mono ((F _ hKb (nsK hns)).run callerA [] s1 H ⟨[.ref a],[]⟩ [.ref a] [V.ref a] _ _ hr e0 (hbind s1 (.ref a)) (.cons rfl .nil) sp) λr s' h=>?_
 cases r with
 | error e =>
  obtain⟨_,_,_,_,_,_,_,_,_,_,_,_,z⟩:=h;exact z.elim
 | ok fl =>
  cases fl with
  | next=>exact h.elim
  | brk=>exact h.elim
  | cont=>exact h.elim
  | ret u =>
    obtain⟨v,H',os,bare,un,hok',r',q⟩:=h;have q':v=.bl true:=q;subst q';obtain rfl:u=Value.bool true:=r';refine⟨rfl,OldK.of_keep λb o e=>?_,os,bare⟩
    cases q:H b with
    | none=>exact un.keep b o e q (noFr b) (by simp)
    | some u =>
     rcases hO b with z | ⟨ob,xs,z⟩
     . rw[q]at z;cases z
     . have z2:=un.frzs b ob _ z;obtain⟨e1,_⟩:=hok b _ z;obtain⟨e2,_⟩:=hok' b _ z2;rw[e]at e1;cases e1;exact e2
theorem znf{l:PySem.W.OpenLaw}{n k:Nat}{q:Program}{loose:List Str}{XP:(Str->Option Value)->Heap->Prop}{YP:World->Heap->Prop}{d:DefRec}{x:Str}{Fn:Fc.F}
  (hn:l.most=some n) (hn2:n<=sizeLine) (hdf:d.params.defaults=[]) (hr:Rg k callerA) (hF:∀ ns:List Int,ns.length<=n->∃ s',Fn [.rol (ns.map D.int)] []=some (.ok (.bl true) s'))
  (F:∀(w:World) (mg:Str->Option Value) (fa:Addr) (h:Heap),YP w h->h.Ns mainGlobals mg->mg d.name=some (.ref fa) ->
    ∃(K:oU) (cm:CM) (fd:FuncData),K.In h/\(∀(s:Shared) (u:Value),BindsTo s fd ⟨[u],[]⟩ [(x,u)])/\∀ base:Heap,K.In base->base.Ns mainGlobals mg->FnG l.prog w K mg base k fa fd [x] (spD K cm 1 Fn)) :
  PySem.W.WalkO q loose XP YP l.row.toRowW d [] (λf vs=>PySem.call f vs):=by
 refine Att.attach_call hn hdf λw s0 s1 mg mb fa o pm cd doc a vs ns G Y ho hd hcd hmg hobj hints hlen hg=>?_;obtain⟨K,cm,fd,KX,hb,F⟩:=F w mg fa _ Y G.T.g hmg;have rv:=vals_ints hints;have lenV:=hints.length;have hl:ns.length<=sizeLine:=rN hlen hn2;have run:=λ{H:Hp}=>zoQ (H:=H) (cm:=cm) KX G.T.g G.T.b G.T.builtins G.T.nolimit hg hobj hr F hb (hF ns hlen)
 cases hk:K.lookup a with
 | some o =>
  have e:=KX a o hk;rw[hobj]at e;cases e;exact run (H:=λ_=>none) (λ_=>.inl rfl) (.inr ⟨_,vs.toArray,_,hk,rfl,rfl,rfl,by rw[pY,lenV];exact hl,by simpa using rv⟩) (λb u z=>by cases z) (λb z=>absurd rfl z) λz=>absurd rfl z
 | none =>
  refine run (H:=λb=>if b=a then some (.frz { cls:=.type "list",data:=.seq vs.toArray } (.lst (ns.map V.int)))else none) (λb=>?_) (.inl (.inr ⟨_,if_pos rfl⟩)) (λb u z=>?_) (λb z=>?_) λ_=>hk
  . by_cases hb:b=a
    . exact .inr ⟨_,_,if_pos hb⟩
    . exact .inl (if_neg hb)
  . dsimp only at z;by_cases hb:b=a
    . rw[if_pos hb]at z;cases z;subst hb;exact⟨hobj,by rw[rA];exact hl,vs,_,rv,hobj⟩
    . rw[if_neg hb]at z;cases z
  . by_cases hb:b=a
    . exact hb
    . rw[if_neg hb]at z;exact absurd rfl z
theorem zfX{k:Nat}(h:3*k+200<recursionLimit:=by decide)(h2:16*k+300<cLine:=by decide)(hd:callerA.depth+3*k+5<recursionLimit:=by decide)(hu:callerA.units+16*k+200<cLine:=by decide):Rg k callerA:=⟨⟨rfl,hd,hu⟩,rfl⟩
theorem yV{x qual:Str}{params:Arguments}{body:List Stmt}{scope:Scope}{kws:List (Str×V)}{f:Addr}{fd:FuncData}{ps:List Str}(F:FunD K x qual params body scope [] kws f fd)
  (h:∀(kV doc pm:Value) (an:Option Addr) (cdv ct:Value) (us:List Value),us.length=ps.length->bindArgs (PySem.W.fnOf x qual params body scope .none kV doc pm an cdv ct) ⟨us,[]⟩=pure (ps.zip us)):BindD K fd ps [] :=
 ⟨[],[],.nil,F.bindsN h,λp H=>by simp[RVs]⟩
theorem zhA{mg:Str->Option Value}{x:Str}{i:Int}(h:∃ t,mg x=some (.int i t)):GlobC K mg x (.int i):=⟨let ⟨t,e⟩:=h;⟨V.int i,_,e,⟨t,rfl⟩,λ_ _=>wu i⟩⟩
theorem zlQ{mg:Str->Option Value}{x z:Str}(h:∃ t,mg x=some (.str z t)):GlobC K mg x (.str z):=⟨let ⟨t,e⟩:=h;⟨V.str z,_,e,⟨t,rfl⟩,λ_ _=>km z⟩⟩
theorem fnAt_of{P:Program}{w:World}{mg:Str->Option Value}{base:Heap}{k:Nat}{f:Addr}{fd:FuncData}{x:Str}{ps:List Str}{np nn:Nat}{b:C}{dfls:List (List D)}(G:FnG P w K mg base k f fd ps (spD K cm np (yg np nn b)))(hm:mg x=some (.ref f))(kp:PySem.W.keepIn K (.ref f)=true)
 (hb:∀ dl∈dfls,BindD K fd ps dl):FnAt P w K mg base cm k x (yg np nn b) dfls:=⟨⟨f,⟨np,fd,ps,G,zan,hb⟩,hm,kp⟩⟩
theorem zod{κ:Type}{p:κ->Prop}{a:κ}(h:p a):∀ x∈[a],p x:=λx hx=>by
 rcases tR.mp hx with rfl | hx
 . exact h
 . cases hx
theorem all_cons{κ:Type}{p:κ->Prop}{a:κ}{l:List κ}(h:p a)(hl:∀ x∈l,p x):∀ x∈a::l,p x:=λx hx=>by
 rcases tR.mp hx with rfl | hx
 . exact h
 . exact hl x hx
theorem all_nil{κ:Type}{p:κ->Prop}:∀ x∈([]:List κ),p x:=λx hx=>by cases hx
theorem zrs{X:Cx}{W:WX}{a:Expr}{fa:E}{k:Nat}{p1 p2 p3 pos:Pos}(ha:JE X cm W a fa):JE X cm W (.Subscript a (.Slice none none (some (.UnaryOp .USub (.Constant (.int 1) k p1) p2)) p3) pos) (e1 zgu fa):=by
 refine(pe_revL ha).imp λσ H Q q=>?_;obtain⟨p,e,s,re,rs,q⟩:=tD.bnd q;refine⟨p,e,s,re,rs,q.imp ?_⟩;rintro x H1 ⟨p,e,s,d,re,rs,r1,q⟩;unfold zgu at q;split at q
 . rename_i n;split at q
   . rename_i ds hn;obtain⟨t,vs,rfl,_,h1,rr⟩:=yw rs r1 hn;refine⟨t,vs,rfl,SqL.of h1,λb hb=>Po.newl q rs ?_ hb⟩;refine RVs.of_get (by simp[rr.length]) λi d v e1 e2=>?_;have hl:=rr.length
     have hi:i<ds.length:=by
      have:=(su.mp e1).1;simpa using this
     rw[List.getElem?_reverse hi]at e1;rw[List.getElem?_reverse (by rw[← hl];exact hi),← hl]at e2;obtain⟨w,w1,w2⟩:=rr.get e1;rw[e2]at w1;cases w1;exact w2
   . exact q.elim
 . exact q.elim
end Fc
namespace Fc
open PySem PySem.Spec PyProof.Rows L2
variable{cm:CM}{W:WX}
def wz:List String:=["NoneType","bool","int","str","tuple","list","dict"]
structure IsCF(K:oU)(cm:CM)(mg:Str->Option Value)(x:Str)(sub:List Str):Prop where
 ex:∃ A,mg x=some (.ref A)/\(∀ t∈wz,PySem.W.kitOne K (.type t) (.ref A)=some false)/\∀ c C,cm.ins c=some C->C8.InsC K C/\PySem.W.kitOne K (.ref C) (.ref A)=some (sub.contains c)
end Fc
namespace Fc
open PySem PySem.Spec PyProof.Rows L2
variable{W:WX}
def zuH(K:oU)(C f:Addr):Bool:=match K.lookup C with
 | some ⟨.type "type",_,.cls cd,sl⟩=>(match cd.mro,sl.toList with
  | [.ref C',.type "object"],[_,_,_,_,some (.builtin n),_]=>decide (C'=C)&&(decide (n="object.__new__")&&(!cd.hasDel&&(PySem.W.nsOkIn K cd.ns&&(He.eqO (PySem.W.nsIn K cd.ns "__eq__") (some (some (.ref f)))&&He.eqO (PySem.W.nsIn K cd.ns "__ne__") (some none)))))
  | _,_=>false)&&(match K.lookup f with
   | some o=>decide (o.cls=.type "function")
   | none=>false)
 | _=>false
end Fc
namespace Fc
open PySem PySem.Spec PyProof.Rows L2
variable{W:WX}
section
variable{X:Cx}{pins:List (Addr×Obj)}{σ:L2.St}{H:Hp}{s:Shared}
theorem zlX(I:Inv X pins σ H s){H':Hp}{h':Heap}{t':Nat}(k:∀ b u,s.heap.get? b=some u->h'.get? b=some u)(old:∀ b,b<s.heap.objs.size->H' b=H b)(sm:∀ b o,H b=some o->H' b=some o)
   (new:∀ b o,H' b=some o->H b=none->ObjOk X.prog X.w H' h' b o):Inv X pins σ H' { s with heap:=h',toks:=t' }:=by
 refine I.un ⟨λb u q _ _ _=>k b u q,λb u q _ _ _=>⟨u.slots,k b u q⟩,λb u q n _=>?_,λb u q _=>⟨u,k b u q⟩,λb xs q=>sm b _ q,λb o u q=>sm b _ q,λb ps q=>⟨#[],?_⟩⟩ λb u e=>?_
 . rw[old b (Heap.lt_size q)];exact n
 . rw[sm b _ q];simp
 . cases hb:H b with
   | none=>exact new b u e hb
   | some u0 =>
    have z:=sm b u0 hb;rw[e]at z;cases z;exact(I.hok b u hb).stay (λc v _ q=>k c v q) (λc q=>sm c _ q) λc xs q=>sm c _ q
def zpu:V->List V->Hp->VK->Prop:=λx xs H Q=>∃(a:Addr) (kvs:List (L2.Key×V)),x=.ref a/\xs=[]/\H a=some (.dK kvs)/\∀ p,H p=none->Q (.ref p) (upd H p (L2.DX.itemsO p a))
theorem zkk:MtR X "dict.items" zpu:=by
 intro pins s σ H x xs v us Q I rx rxs h;obtain⟨a,kvs,rfl,rfl,ha,q⟩:=h;cases rx;cases rxs;obtain⟨z,hd,vs,rel,dd⟩:=dk_of I.hok ha;obtain⟨es,ep,hm,_,_⟩:=dd.raw;refine DT.callItems (es:=es) (ep:=ep) hd hm ?_;have hf:H s.heap.objs.size=none:=I.hok.fresh (tX _);exact⟨.ref s.heap.objs.size,upd H s.heap.objs.size (L2.DX.itemsO s.heap.objs.size a),I.laid (t':=s.toks) (λb u e=>Heap.get?_push_of_some _ e) (tX _) (L2.DX.itemsO_ok (Heap.get?_push_size _ rfl)),rfl,q _ hf⟩
def zpv:List V->Hp->VK->Prop:=λxs H Q=>∃(r a:Addr) (kvs:List (L2.Key×V)),xs=[.ref r]/\H r=some (L2.DX.itemsO r a)/\H a=some (.dK kvs) /\
 ∀(H':Hp) (l:Addr) (as:List Addr),Same H H'->H l=none->as.length=kvs.length->H' l=some (.lst (as.map V.ref))->(∀(i:Nat) b kv,as[i]?=some b->kvs[i]?=some kv->H' b=some (.tup [kV kv.1,kv.2]))->Q (.ref l) H'
theorem zfW(hc:X.calm=true):CallR X (.type "list") zpv:=by
 intro pins s σ H xs us Q I r h;obtain⟨p,a,kvs,rfl,hp,ha,q⟩:=h;obtain rfl:=Vals.ref1 r;have view:s.heap.IsItemsView p a:=(show ObjOk X.prog X.w H s.heap p (L2.DX.itemsO p a)from I.hok p _ hp).1;obtain⟨z,hd,vs,rel,dd⟩:=dk_of I.hok ha;obtain⟨es,ep,hm,hsz,hev⟩:=dd.raw
 have hlen:es.size=kvs.length:=by rw[hsz];exact rel.length.symm
 refine PySem.W.dil_call (I.ok.hd hc) view hm (by rw[hlen];exact z) λh' tk acc c as hk hS hl hG hacc=>?_;have nd:as.Nodup:=List.Pairwise.imp (λh=>qb h) hG.rise
 have hal:as.length=kvs.length:=by rw[hl,hlen]
 have tupOf:∀(i:Nat) (b:Addr),as[i]?=some b->∃ kv,kvs[i]?=some kv/\ObjOk X.prog X.w H h' b (.tup [kV kv.1,kv.2]):=by
   intro i b hb;obtain⟨hi,hg⟩:=hG.pairs i b hb
   have hik:i<kvs.length:=by omega
   have hv:i<vs.length:=by rw[← rel.length];exact hik
   refine⟨kvs[i],tQ hik,?_⟩;obtain⟨w',hw,h1,h2⟩:=paired_get (G:=λ(p:L2.Key×V) (q:L2.Key×Value)=>p.1=q.1/\RelV p.2 q.2) rel (tQ hik);obtain⟨k1,k2⟩:=hev i hi w'.1 w'.2 (by rw[hw]);refine⟨by rw[sizeLine_eq];simp,[es[i].key,es[i].val],?_,_,hg,rfl,0,rfl⟩;refine .cons ?_ (.cons ?_ .nil)
   . rw[h1];exact relV_key k1
   . rw[k2];exact h2
 let H':Hp:=λb=>if b=s.heap.objs.size then some (.lst (as.map V.ref))else match as.findIdx? (λx=>x=b)with
   | some i=>match kvs[i]? with
     | some kv=>some (.tup [kV kv.1,kv.2])
     | none=>H b
   | none=>H b
 have big:∀ b∈as,s.heap.objs.size<b:=hG.above;have hL:H s.heap.objs.size=none:=I.hok.fresh (tX _);have hAs:∀ b∈as,H b=none:=λb hb=>I.hok.fresh (Nat.le_of_lt (big b hb));have e1:H' s.heap.objs.size=some (.lst (as.map V.ref)):=if_pos rfl
 have e2:∀ b,b≠s.heap.objs.size->b∉as->H' b=H b:=λb h1 h2=>by
   show(if b=s.heap.objs.size then _ else _)=_;rw[if_neg h1]
   have:as.findIdx? (λx=>decide (x=b))=none:=by
     rw[List.findIdx?_eq_none_iff];intro x hx;simp;intro e;exact h2 (e ▸ hx)
   rw[this]
 have e3:∀(i:Nat) b kv,as[i]?=some b->kvs[i]?=some kv->H' b=some (.tup [kV kv.1,kv.2]):=λi b kv h1 h2=>by
   have hb:=rH h1;show(if b=s.heap.objs.size then _ else _)=_;rw[if_neg (pB (big b hb))]
   have:as.findIdx? (λx=>decide (x=b))=some i:=by
     rw[List.findIdx?_eq_some_iff_getElem];obtain⟨hi,e⟩:=su.mp h1;refine⟨hi,by simp[e],λj hj=>?_⟩;simp;intro z;have:=(List.getElem_inj nd (h₀:=by omega) (h₁:=hi)).mp (z.trans e.symm);omega
   rw[this];simp only[h2]
 have sm:Same H H':=λb o e=>by
   rw[e2 b (λz=>by rw[z,hL]at e;cases e) λz=>by rw[hAs b z]at e;cases e];exact e
 refine⟨.ref s.heap.objs.size,H',zlX I hk (λb hb=>e2 b (qb hb) λz=>absurd (big b z) (by omega)) sm (λb o e n=>?_),rfl,q H' _ as sm hL hal e1 e3⟩;by_cases hb:b=s.heap.objs.size
 . subst hb;rw[e1]at e;cases e;refine⟨by rw[rA,hal];exact z,as.map Value.ref,c,?_,?_⟩
   . have:∀ l:List Addr,Vals (l.map V.ref) (l.map Value.ref):=λl=>by
      induction l with
      | nil=>exact .nil
      | cons x l ih=>exact .cons rfl ih
     exact this as
   . rw[hS];congr 2;rw[← hacc]
 . by_cases hm':b∈as
   . obtain⟨i,hi⟩:=oG.mp hm';obtain⟨kv,hkv,ok⟩:=tupOf i b hi;rw[e3 i b kv hi hkv]at e;cases e;exact ok.stay (λc v _ q=>q) (λc q=>sm c _ q) λc xs q=>sm c _ q
   . rw[e2 b hb hm',n]at e;cases e
end
end Fc
namespace Fc
open PySem PySem.Spec PyProof.Rows L2
variable{cm:CM}{W:WX}
theorem zpC{K:oU}{p:List Addr}{s:S}{H H':Hp}{l:Addr}{o:O}(rs:RS K cm p s H)(sm:Same H H')(hl:H l=none)(ro:RO K cm (p++[l]) H' l o):Fut p H (p++[l]) H'/\RS K cm (p++[l]) (s++[o]) H'/\(p++[l])[s.length]?=some l:=by
 have f0:Fut p H p H':=Fut.same sm;have f:Fut p H (p++[l]) H':=.mk' (λn a e=>by rw[sX (su.mp e).1];exact e) f0.tup f0.frz f0.xd;have hm:=rs.zgs hl;refine⟨f,⟨by simp[rs.len],?_,λn o' b h1 h2=>?_⟩,by rw[← rs.len];simp⟩
 . rw[rY];refine⟨rs.nd,by simp,λx hx y hy e=>?_⟩;simp at hy;subst hy;subst e;exact hm hx
 . by_cases hn:n<s.length
   . rw[sX hn]at h1;rw[sX (by rw[rs.len];exact hn)]at h2;have q:=rs.ob n o' b h1 h2;obtain⟨u,e⟩:=q.some;exact q.keep f ((sm b u e).trans e.symm)
   . have e:n=s.length:=by
      have:=(su.mp h1).1;simp at this;omega
     subst e;simp at h1;subst h1;rw[← rs.len]at h2;simp at h2;subst h2;exact ro
theorem zgJ{K:oU}{κ:Type}{p:List Addr}{H:Hp}:∀{ds:List (κ×D)}{vs:List (κ×V)}{i:Nat}{d:κ×D},RKs K p H ds vs->ds[i]?=some d->∃ v,vs[i]?=some (d.1,v)/\RV K p H d.2 v
 | [],_,_,_,_,e=>by simp at e
 | d::ds,_,0,_,h,e=>by
  simp only[RKs]at h;obtain⟨v,r,e',h1,_⟩:=h;simp at e;subst e;exact⟨v,by rw[e'];rfl,h1⟩
 | d::ds,_,i+1,d',h,e=>by
  simp only[RKs]at h;obtain⟨v,r,e',_,h2⟩:=h;obtain⟨w,q1,q2⟩:=zgJ (i:=i) (d:=d') h2 (by simpa using e);exact⟨w,by rw[e'];simpa using q1,q2⟩
theorem zkV{K:oU}{κ:Type}{p:List Addr}{H:Hp}:∀{ds:List (κ×D)}{vs:List (κ×V)},RKs K p H ds vs->ds.length=vs.length
 | [],_,h=>by simp only[RKs]at h;rw[h];rfl
 | d::ds,_,h=>by
  simp only[RKs]at h;obtain⟨v,r,e,_,h2⟩:=h;rw[e,rG,rG,zkV h2]
theorem zrx{K:oU}{p:List Addr}{H:Hp}(k:L2.Key):RV K p H (dOf k) (kV k):=by
 cases k <;> simp[dOf,kV,RV]
def zaS:D->M D:=λx s=>match x with
 | .ref n=>match s[n]? with
  | some (.dK kvs)=>new (.lst (kvs.map pairD)) s
  | _=>none
 | _=>none
section
variable{X:Cx}{a:Expr}{fa:E}
theorem zmm{p1 pos apos cpos:Pos}(hc:X.calm=true)(ha:JE X cm W a fa)(hm:X.mg "list"=none)(hg:Gl X "list":=by rfl)(hbase:attributeBase a "items" X.env (eval a X.env)=eval a X.env:=by rfl)(hline:(apos.endLine == cpos.line)=true:=by rfl)
   (he:starEach [.Call (.Attribute a "items" apos) [] [] cpos] X.env=(false,eval (.Call (.Attribute a "items" apos) [] [] cpos) X.env)::starEach [] X.env:=by rfl) (hpl:(backTo pos (starEach [] X.env)).any (·.1)=false:=by rfl) :
   JE X cm W (.Call (.Name "list" p1) [.Call (.Attribute a "items" apos) [] [] cpos] [] pos) (e1 zaS fa):=by
 refine(pe_callTy (zfW hc) hg hm (by decide +kernel) (pa_cons (pe_bm0 PySem.F.plainAttrs_dict PySem.F.slot_dict_items PySem.F.type_dict_items zkk ha hbase hline) pa_nil he) (he:=he) (hpl:=hpl)).imp λσ H Q q=>?_;obtain⟨p,e,s,re,rs,q⟩:=tD.bnd q;refine⟨p,e,s,re,rs,q.imp ?_⟩;rintro v H1 ⟨p,e,s,d,re,rs,r1,q⟩;unfold zaS at q;split at q
 . rename_i n;split at q
   . rename_i kvs hn;simp only[RV]at r1;obtain⟨t,ht,rfl⟩:=r1;obtain⟨t',ht',u,h1,ws,rfl,rk⟩:=rs.at hn;rw[ht]at ht';cases ht';refine⟨.inr (.inr (.inl ⟨rfl,.inl ⟨_,h1⟩⟩)),t,ws,rfl,rfl,h1,λr hr=>?_⟩;have sm0:=wR (u:=L2.DX.itemsO r t) hr;refine⟨r,t,ws,rfl,upd_same,sm0 _ _ h1,λH' l as sm hl hal hlst htup=>?_⟩;have sm1:Same H1 H':=λb o e=>sm b o (sm0 b o e)
     have hl1:H1 l=none:=by
      by_cases z:l=r
      . rw[z];exact hr
      . rw[upd_ne z]at hl;exact hl
     have f0:Fut p H1 (p++[l]) H':=.mk' (λn a e=>by rw[sX (su.mp e).1];exact e) (Fut.same (p:=p) sm1).tup (Fut.same (p:=p) sm1).frz (Fut.same (p:=p) sm1).xd
     have ro:RO X.K cm (p++[l]) H' l (.lst (kvs.map pairD)):=by
      refine⟨_,hlst,_,rfl,RVs.of_get (by simp[hal,zkV rk]) λi d v e1 e2=>?_⟩;rw[tU]at e1 e2;obtain⟨kv,h3,rfl⟩:=tW.mp e1;obtain⟨b,h4,rfl⟩:=tW.mp e2;obtain⟨w,h5,h6⟩:=zgJ rk h3;have h7:=htup i b (kv.1,w) h4 h5;simp only[pairD,RV,RVs];exact⟨b,_,rfl,h7,_,_,rfl,zrx kv.1,_,_,rfl,h6.mono f0,rfl⟩
     obtain⟨f,rs',e'⟩:=zpC rs sm1 hl1 ro;exact q _ H' _ f rs' (wW e')
   . exact q.elim
 . exact q.elim
end
end Fc
namespace Fc
open PySem PySem.Spec PyProof.Rows L2
variable{K:oU}
def znj(K:oU)(cs:List Str):CM:=⟨λc=>if c∈cs then some (He.ga K c)else none,λ_=>none,none⟩
theorem znk{cs:List Str}{c:Str}{C:Addr}(h:(znj K cs).ins c=some C):c∈cs/\C=He.ga K c:=by
 unfold znj at h;dsimp only at h;split at h
 . rename_i hc;cases h;exact⟨hc,rfl⟩
 . cases h
theorem zsI{cs:List Str}{c:Str}(h:c∈cs):(znj K cs).ins c=some (He.ga K c):=if_pos h
def zuc(K:oU)(C:Addr):Bool:=He.eqO (PySem.W.findIn K (.ref C) "__class__") (some (some (.builtin "object.__class__"))) &&
 (He.eqO (PySem.W.specialIn K (.builtin "object.__class__") "__get__") (some (some (.builtin "getset_descriptor.__get__"))) &&
 (decide (PySem.W.takesIn K (.builtin "object.__class__")=some true)&&(decide (PySem.W.mroIn K C (.type "object")=some true)&&decide (PySem.W.kitOne K (.ref C) (.ref C)=some true))))
theorem zoI{C:Addr}(c:Cls K C)(h:zuc K C=true):C8.InsC K C:=by
 obtain⟨h1,h⟩:=He.ba h;obtain⟨h2,h⟩:=He.ba h;obtain⟨h3,h⟩:=He.ba h;obtain⟨h4,h5⟩:=He.ba h;exact⟨c,He.eqO_ok h1,He.eqO_ok h2,of_decide_eq_true h3,of_decide_eq_true h4,of_decide_eq_true h5⟩
def zpt(K:oU)(A:Addr):Bool:=wz.all λt=>decide (PySem.W.kitOne K (.type t) (.ref A)=some false)
def zrk(K:oU)(C A:Addr)(b:Bool):Bool:=decide (PySem.W.kitOne K (.ref C) (.ref A)=some b)
def exB(cs:List Str)(isx:List (Str×List Str))(eqs flds:List Str)(ms:List (Str×Str))(K:oU):Bool :=
 (cs.all λc=>(He.Fa.cls c).ok K&&((He.Fa.mkr c).ok K&&((He.Fa.glo c).ok K&&(zuc K (He.ga K c)&&flds.all λf=>(He.Fa.noat c f).ok K)))) &&
 ((isx.all λx=>(He.Fa.glo x.1).ok K&&(zpt K (He.ga K x.1)&&cs.all λc=>zrk K (He.ga K c) (He.ga K x.1) (x.2.contains c))) &&
 ((eqs.all λc=>zuH K (He.ga K c) (He.ma K (He.ga K c) "__eq__"))&&ms.all λm=>(He.Fa.meth m.1 m.2).ok K))
section
variable{cs:List Str}{isx:List (Str×List Str)}{eqs flds:List Str}{ms:List (Str×Str)}{h:Heap}{mg:Str->Option Value}
structure ExOk(cs:List Str)(isx:List (Str×List Str))(eqs flds:List Str)(ms:List (Str×Str))(K:oU):Prop where
 ok:exB cs isx eqs flds ms K=true
theorem ExOk.c1(e:ExOk cs isx eqs flds ms K){c:Str}(hc:c∈cs):Cls K (He.ga K c)/\Mk K (He.ga K c) (He.ma K (He.ga K c) "__init__")/\(He.Fa.glo c).ok K=true/\C8.InsC K (He.ga K c)/\∀ f∈flds,NoAttr K (He.ga K c) f:=by
 obtain⟨h1,_⟩:=He.ba e.ok;have h2:=sH.mp h1 c hc;obtain⟨a1,h2⟩:=He.ba h2;obtain⟨a2,h2⟩:=He.ba h2;obtain⟨a3,h2⟩:=He.ba h2;obtain⟨a4,a5⟩:=He.ba h2;exact⟨He.cls_ok a1,He.mkr_ok a2,a3,zoI (He.cls_ok a1) a4,λf hf=>He.noat_ok (sH.mp a5 f hf)⟩
theorem ExOk.fld(e:ExOk cs isx eqs flds ms K){f:Str}(hf:f∈flds):FldOk K (znj K cs) f:=by
 refine⟨λc C hC=>?_,λc C hC=>by cases hC⟩;obtain⟨hc,rfl⟩:=znk hC;obtain⟨a,_,_,_,b⟩:=e.c1 hc;exact⟨a,b f hf⟩
theorem ExOk.is(e:ExOk cs isx eqs flds ms K)(X:K.In h)(G:h.Ns mainGlobals mg){x:Str}{sub:List Str}(hx:(x,sub)∈isx):IsCF K (znj K cs) mg x sub:=by
 obtain⟨_,h1⟩:=He.ba e.ok;obtain⟨h1,_⟩:=He.ba h1;have h2:=sH.mp h1 _ hx;obtain⟨a1,h2⟩:=He.ba h2;obtain⟨a2,a3⟩:=He.ba h2;refine⟨_,He.glo_ok X G a1,λt ht=>of_decide_eq_true (sH.mp a2 t ht),λc C hC=>?_⟩;obtain⟨hc,rfl⟩:=znk hC;obtain⟨_,_,_,b,_⟩:=e.c1 hc;exact⟨b,of_decide_eq_true (sH.mp a3 c hc)⟩
theorem ExOk.meth(e:ExOk cs isx eqs flds ms K){c m:Str}(hm:(c,m)∈ms):Meth K (He.ga K c) m (He.ma K (He.ga K c) m):=by
 obtain⟨_,h1⟩:=He.ba e.ok;obtain⟨_,h1⟩:=He.ba h1;obtain⟨_,h1⟩:=He.ba h1;exact He.meth_ok (sH.mp h1 _ hm)
end
end Fc
namespace Fc
open PySem PySem.Spec PyProof.Rows L2
variable{cm:CM}{W:WX}
section
variable{X:Cx}
theorem s_list(hc:X.calm=true):SN X cm (.type "list") zab:=by
 refine⟨λxs H Q=>(∃ p ys,xs=[.ref p]/\(SqL X.K H p ys\/SqT X.K H p ys)/\∀ l,H l=none->Q (.ref l) (upd H l (.lst ys)))\/(∃(a:Addr) (kvs:List (Key×V)),xs=[.ref a]/\Rd H a (.dK kvs)/\∀ p,H p=none->Q (.ref p) (upd H p (.lst (kvs.map λkv=>kV kv.1)))),
   λpins s σ H xs us Q I r h=>h.elim (λh=>call_list_of pins s σ H xs us Q I r h) (λh=>call_listD hc pins s σ H xs us Q I r h),λW p s σ H xs ds Q rs rv q=>?_⟩
 unfold zab at q;split at q
 . rename_i ds;obtain⟨x,rfl,rx⟩:=wN rv;obtain⟨t,vs,rfl,h1,rr⟩:=xV rx;exact .inl ⟨t,vs,rfl,.inr (SqT.of h1),λl hl=>Po.newl q rs rr hl⟩
 . rename_i n;obtain⟨x,rfl,rx⟩:=wN rv;split at q
   . rename_i ds hn;obtain⟨t,vs,rfl,_,h1,rr⟩:=yw rs rx hn;exact .inl ⟨t,vs,rfl,.inl (SqL.of h1),λl hl=>Po.newl q rs rr hl⟩
   . rename_i kvs hn;simp only[RV]at rx;obtain⟨t,ht,rfl⟩:=rx;obtain⟨t',ht',u,h1,ws,rfl,rk⟩:=rs.at hn;rw[ht]at ht';cases ht';refine .inr ⟨t,ws,rfl,.inl h1,λl hl=>Po.newl q rs ?_ hl⟩;refine RVs.of_get (by simp[rk.length]) λi d v e1 e2=>?_;rw[tU]at e1 e2;obtain⟨kv,h3,rfl⟩:=tW.mp e1;obtain⟨w,h5,_⟩:=zgJ rk h3;rw[h5]at e2;cases e2;exact zif kv.1
   . exact q.elim
 . exact q.elim
end
end Fc
namespace Fc
open PySem PySem.Spec PyProof.Rows L2
structure EScope(n:Str)(sc:Scope):Prop where
 kind:sc.kind=.function
 co:sc.isCoroutine=false
 gen:sc.isGenerator=false
 self:sc.names.lookup ("self":Str)=some .local
 par:sc.names.lookup n=some .local
 sup:sc.names.lookup ("super":Str)=some .globalImplicit
 cls:sc.names.lookup ("__class__":Str)=some .free
 nocell:∀ y∈sc.names,y.2≠.cell
 free1:∀ y∈sc.names,y.2=.free->y.1=("__class__":Str)
 ne:("self":Str)≠n
section
variable{P:Program}{w:World}{K:oU}{mg:Str->Option Value}{base:Heap}
abbrev uM(qual:Str)(sc:Scope)(L f cda cc:Addr):PySem.Env:=PySem.W.ksEnv qual sc L f (.ref cda) cc
def uA(P:Program)(w:World)(K:oU)(mg:Str->Option Value)(base:Heap)(n qual:Str)(sc:Scope)(f cda cc:Addr)(A:Around)(outer:List PySem.Env)(s:Shared)(H:Hp)(E:XK):Cx where
 prog:=P
 w:=w
 K:=K
 mg:=mg
 base:=base
 A:=A.deeper (uM qual sc s.heap.objs.size f cda cc)
 N:=["self",n]
 s_0:=s
 H_0:=H
 env:=uM qual sc s.heap.objs.size f cda cc
 outer:=outer
 stack:=uM qual sc s.heap.objs.size f cda cc::outer
 ex:=[]
 calm:=true
 fn:=λx=>decide (x≠("__class__":Str))
 pn:=[]
 xe:=λe s'=>wpAny (model P w) (A.deeper (uM qual sc s.heap.objs.size f cda cc)) (leaving (uM qual sc s.heap.objs.size f cda cc) e) (λ_ s''=>L2.CX P w outer H s E e s'') (λe' s''=>L2.CX P w outer H s E e' s'') s'
theorem zeP{cc c:Addr}{x:Str}(h:List.lookup x [(("__class__":Str),cc)]=some c):x="__class__"/\c=cc:=by
 by_cases e:x=("__class__":Str)
 . subst e;simp[List.lookup]at h;exact⟨rfl,h.symm⟩
 . have e':(x == ("__class__":Str))=false:=by simpa using e
   simp[List.lookup,e']at h
theorem zlW{n qual:Str}{sc:Scope}{f cda cc C:Addr}{A:Around}{outer:List PySem.Env}{s:Shared}{h1:Heap}{tk:Nat}{H:Hp}{E:XK}{u0 u1:Value}{v0 v1:V}{cl:Value}{cld:Option Addr}{csl:Array (Option Value)}
   (S:EScope n sc) (hcell:K.lookup cc=some ⟨cl,cld,.cell (some (.ref C)),csl⟩) (hd:A.handled=none) (e0:Env0 P w K mg base A outer s H) (r0:RelV v0 u0) (r1:RelV v1 u1)
   (hns:h1.Ns s.heap.objs.size (λx=>[(("self":Str),u0),(n,u1)].reverse.lookup x)) (hk:∀ b o,s.heap.get? b=some o->h1.get? b=some o) :
   Inv (uA P w K mg base n qual sc f cda cc A outer s H E) [] [some v0,some v1] H { s with heap:=h1,toks:=tk }:=by
 have noA:∀ b:Addr,b∉(uA P w K mg base n qual sc f cda cc A outer s H E).ex:=λb z=>absurd (show b∈([]:List Addr)from z) (by simp);have hb:=e0.mod.kin _ _ hcell;have hs:=(e0.bs _ _ hb).1
 refine⟨⟨e0.mod,S.kind,rfl,rfl,tX _,λy z c h1 h2=>?_,λy hy=>?_,λy c hf h=>?_,λ_=>hd,Around.frames_deeper e0.frames,.inr ⟨rfl,rfl⟩,λb z=>absurd z (noA b),e0.bs,e0.bsz,λb _ _=>noA b,λb z=>absurd z (noA b),e0.funs,e0.frf⟩,
   rfl,e0.bare,Un.kept hk,⟨_,hns,λi y v h1 h2 h3=>?_⟩,λy c h=>?_,e0.hok.fresh (tX _),λy c h=>?_,λp hp=>absurd (show p∈([]:List (Addr×Obj))from hp) (by simp),e0.hok.kept hk,rfl⟩
 . rw[(zeP h1).1,(zeP h2).1]
 . have hy:sc.names.lookup y=some .cell\/sc.names.lookup y=some .free:=hy
   rcases hy with hy | hy
   . exact absurd rfl (S.nocell _ (PySem.mem_of_lookup hy))
   . have e:=S.free1 _ (PySem.mem_of_lookup hy) rfl;dsimp only at e;subst e;exact⟨cc,rfl⟩
 . exact absurd (zeP h).1 (of_decide_eq_true hf)
 . match i,h1,h2 with
   | 0,h1,h2 =>
     obtain rfl:("self":Str)=y:=by simpa using (show(["self",n]:List Str)[0]?=some y from h1)
     obtain rfl:v0=v:=by simpa using h2
     refine⟨u0,r0,.inl ⟨S.self,?_⟩⟩
     have e:(("self":Str) == n)=false:=by simpa using S.ne
     simp[List.lookup,e]
   | 1,h1,h2 =>
     obtain rfl:n=y:=by simpa using (show(["self",n]:List Str)[1]?=some y from h1)
     obtain rfl:v1=v:=by simpa using h2
     refine⟨u1,r1,.inl ⟨S.par,?_⟩⟩;simp[List.lookup]
   | i+2,h1,h2=>simp at h2
 . obtain⟨_,rfl⟩:=zeP h;exact⟨_,⟨_,hk _ _ hs,rfl⟩⟩
 . obtain⟨_,rfl⟩:=zeP h;exact(e0.bs _ _ hb).2
end
structure ErrK(P:Program)(K:oU)(mg:Str->Option Value)(n qual:Str)(sc:Scope)(body:List Stmt)(C f cda cc:Addr)(fd:FuncData):Prop where
 fn:∃ name params dV kV doc pm an ct,fd=PySem.W.ksFn name qual params body sc dV kV doc pm an (.ref cda) ct cc/\∃ ar,(params.posonlyargs++params.args).head?=some ar/\ar.arg=("self":Str)
 at_:∃ oc od osl,K.lookup f=some ⟨oc,od,.func fd,osl⟩
 code:PySem.W.codeIn K (.ref cda) qual=true
 codeAt:∃ ccl cdd vs ccs file tf,K.lookup cda=some ⟨ccl,cdd,.fields vs,ccs⟩/\vs[2]?=some (.str file tf)/\((P.main.file:Str) == file)=true
 cell:∃ cl cld csl,K.lookup cc=some ⟨cl,cld,.cell (some (.ref C)),csl⟩
 T:OexC K C
 mro:PySem.W.mroIn K C (.ref C)=some true
 sup:PySem.W.ks_superIn K C C "__init__"=some (some (.builtin "ValueError.__init__"))
 subV:PySem.W.subIn K (.ref C) (.type "ValueError")=some true
 third:PySem.W.nsIn K cStatics "thirdparty.any"=some none
 msup:mg "super"=none
 top:(P.main.scope.names.lookup ("super":Str)).isSome=false
 noF:PySem.W.findIn K (.ref C) n=some none
 sc:EScope n sc
section
variable{P:Program}{w:World}{K:oU}{mg:Str->Option Value}{base:Heap}{A:Around}{outer:List PySem.Env}{s0:Shared}{H0:Hp}{E0:XK}{n qual:Str}{sc:Scope}{body:List Stmt}{C f cda cc:Addr}{fd:FuncData}{p0 p1 pa pn pc pe:Pos}{a:Addr}{v:V}{H:Hp}{s:Shared}{E:Value->Shared->Prop}
theorem ziC(k:ErrK P K mg n qual sc body C f cda cc fd)(I:Inv (uA P w K mg base n qual sc f cda cc A outer s0 H0 E0) [] [some (.ref a),some v] H s)(e:H a=some (exo a C none))
  {pl:Sem Bool} (hint:interactive (uM qual sc s0.heap.objs.size f cda cc)=false) (hsw:swapsWith (.Call (.Attribute (.Call (.Name "super" p0) [] [] p1) "__init__" pa) [.Name n pn] [] pc) none pe.line (uM qual sc s0.heap.objs.size f cda cc)=pure false)
  (hev:eval (.Call (.Attribute (.Call (.Name "super" p0) [] [] p1) "__init__" pa) [.Name n pn] [] pc) (uM qual sc s0.heap.objs.size f cda cc)=(do
    let ov ← attributeBase (.Call (.Name "super" p0) [] [] p1) "__init__" (uM qual sc s0.heap.objs.size f cda cc) (eval (.Call (.Name "super" p0) [] [] p1) (uM qual sc s0.heap.objs.size f cda cc))
    standAt pa.atName
    let (g0,first) ← holding [ov] (getMethod ov "__init__" pl)
    callWith pc g0 first (backTo pc (starEach [.Name n pn] (uM qual sc s0.heap.objs.size f cda cc))) []))
  (hst:starEach [.Name n pn] (uM qual sc s0.heap.objs.size f cda cc)=(false,eval (.Name n pn) (uM qual sc s0.heap.objs.size f cda cc))::starEach [] (uM qual sc s0.heap.objs.size f cda cc)) (hpl:(backTo pc (starEach [] (uM qual sc s0.heap.objs.size f cda cc))).any (·.1)=false)
  (hdn:(n == ("__debug__":Str))=false) (hcn:(n == ("__classdict__":Str))=false) :
  _root_.PySem.wpAt (model P w) (uA P w K mg base n qual sc f cda cc A outer s0 H0 E0).A (.func body (uM qual sc s0.heap.objs.size f cda cc)) (exec (.Expr (.Call (.Attribute (.Call (.Name "super" p0) [] [] p1) "__init__" pa) [.Name n pn] [] pc) pe) (uM qual sc s0.heap.objs.size f cda cc))
    (λfl s'=>fl=.next/\Inv (uA P w K mg base n qual sc f cda cc A outer s0 H0 E0) [] [some (.ref a),some v] H s') (uA P w K mg base n qual sc f cda cc A outer s0 H0 E0).xe s:=by
 obtain⟨name,params,dV,kV,doc,pm,an,ct,hfd,ar,hp,har⟩:=k.fn;obtain⟨oc,od,osl,hf⟩:=k.at_;obtain⟨ccl,cdd,vs,ccs,file,tf,hcda,hvs,hfile⟩:=k.codeAt;obtain⟨cl,cld,csl,hcell⟩:=k.cell;obtain⟨t1,he⟩:=exo_at I.hok e;have hsc:=k.sc;obtain⟨mb,hb1,hb2⟩:=I.mod.blt;have hk0:(uM qual sc s0.heap.objs.size f cda cc).scope.kind=.function:=I.ok.kind
 have hks:(uM qual sc s0.heap.objs.size f cda cc).kindOf "super"=some .globalImplicit:=by exact hsc.sup
 have hkc:(uM qual sc s0.heap.objs.size f cda cc).kindOf "__class__"=some .free:=by exact hsc.cls
 have hka:(uM qual sc s0.heap.objs.size f cda cc).kindOf "self"=some .local:=by exact hsc.self
 have hkn:(uM qual sc s0.heap.objs.size f cda cc).kindOf n=some .local:=by exact hsc.par
 have hcs:(uM qual sc s0.heap.objs.size f cda cc).cells.lookup ("__class__":Str)=some cc:=rfl;have hfu:(uM qual sc s0.heap.objs.size f cda cc).func=some f:=rfl;have hco:(uM qual sc s0.heap.objs.size f cda cc).code=.ref cda:=rfl
 have hpar:(fd.params.posonlyargs++fd.params.args).head?=some ar:=by rw[hfd];exact hp
 obtain⟨cd,hcd⟩:∃ cd,PySem.W.clsIn K C=some cd:=by
  have:=k.sup;unfold PySem.W.ks_superIn at this
  cases hc:PySem.W.clsIn K C with
  | none=>rw[hc]at this;cases this
  | some cd=>exact⟨cd,rfl⟩
 have hsup:=k.sup;unfold PySem.W.ks_superIn at hsup;rw[hcd]at hsup
 obtain⟨oD,hD1,hD2⟩:∃ oD,K.lookup C=some oD/\oD.data=.cls cd:=by
  unfold PySem.W.clsIn at hcd;split at hcd
  . rename_i c d cd' sl ho;cases hcd;exact⟨_,ho,rfl⟩
  . cases hcd
 have iat:∀{h:Heap},h.get? a=some ({ cls:=.ref C,dict:=none,data:=.fields #[.ref t1,.none,.none,.none,.bool false,.none] }:Obj)->PySem.W.InstAt h a ({ cls:=.ref C,dict:=none,data:=.fields #[.ref t1,.none,.none,.none,.bool false,.none] }:Obj) C none:=λz=>⟨z,rfl,rfl,trivial⟩
 refine PySem.ks_wpAt_Expr_any (PySem.ks_wpAt_MethodCall ?_ hev) hint hsw;refine PySem.ks_wpAt_super_base hks hkc rfl hfu (I.kIn _ _ hf) rfl hpar hco (I.kIn _ _ hcda) rfl hvs hfile k.top ?_;refine PySem.W.ks_loadName_global hk0 hks (Calls.loadGlobal_builtin (I.mod.glob.keeps I.bk) k.msup (hb1.keeps I.bk) ((hb2 _ (by decide)).trans PyProof.Rows.Boot.«super») ⟨rfl,?_⟩);refine wpAny_loadName_free hk0 hkc hcs ⟨_,I.kIn _ _ hcell,rfl⟩ ?_;obtain⟨m,hn,hl⟩:=I.loc;obtain⟨u,rv,lk⟩:=hl 0 "self" (.ref a) (rfl) rfl (.inl (by exact hsc.self));obtain rfl:u=Value.ref a:=rv
 have hm:m "self"=some (.ref a):=by
  rcases lk with ⟨_,z⟩ | ⟨z,_⟩
  . exact z
  . rcases z with z | z
    . have z':=hka.symm.trans z;cases z'
    . have z':=hka.symm.trans z;cases z'
 rw[har];refine wpAny_loadName_local hk0 hka hn hm ?_;refine PySem.ks_wpAny_isType_cls (I.kIn _ _ hD1) hD2 ⟨rfl,?_⟩;obtain⟨hh,g,d,t,os⟩:=s;refine PySem.ks_wpAny_call_super (I.kIn _ _ hD1) hD2 he rfl (λc z=>by cases z) (PySem.W.looks_mroIn I.kIn k.mro) (λh1 e1 k1=>?_);have I1:Inv (uA P w K mg base n qual sc f cda cc A outer s0 H0 E0) [] [some (.ref a),some v] H ⟨h1,g,d,t,os⟩:=I.kept (t':=t) k1;have he1:=k1 _ _ he;refine PySem.W.kxs_getMethod PySem.W.kxs_ValueError e1 (PySem.W.looks_opaque I1.kIn k.third) (l₀:=cd.mro) (λA Q E s kk q=>wpAny_bind ((PySem.W.looks_clsIn I1.kIn hcd) A _ E s kk (wpAny_pure q))) rfl I1.kIn hsup ((iat he1).type.andThen (PySem.W.looks_subIn I1.kIn k.subV)) (PySem.W.ks_ne I1.kIn (iat he1) hcd) rfl ?_;have k2:∀ b o,h1.get? b=some o->(h1.push (PySem.W.kxs_mw "ValueError.__init__" a)).get? b=some o:=λb o z=>Heap.get?_push_of_some _ z;have I2:Inv (uA P w K mg base n qual sc f cda cc A outer s0 H0 E0) [] [some (.ref a),some v] H ⟨h1.push (PySem.W.kxs_mw "ValueError.__init__" a),g,d,t+1,os⟩:=I1.kept (t':=t+1) k2;have he2:=k2 _ _ he1;have hu2:(h1.push (PySem.W.kxs_mw "ValueError.__init__" a)).get? h1.objs.size=some (PySem.W.kxs_mw "ValueError.__init__" a):=Heap.get?_push_at rfl rfl;have hfr:H h1.objs.size=none:=I1.hok.fresh (tX _)
 have I3:Inv (uA P w K mg base n qual sc f cda cc A outer s0 H0 E0) [(h1.objs.size,PySem.W.kxs_mw "ValueError.__init__" a)] [some (.ref a),some v] H ⟨h1.push (PySem.W.kxs_mw "ValueError.__init__" a),g,d,t+1,os⟩:=I2.pins_of λp hp=>by
  rcases sS.mp hp with rfl
  exact⟨hu2,hfr,λz=>absurd I1.lt (by rw[← z];exact pC _),I1.nofs (tX _),λv z=>by cases z⟩
 have ha:PA (uA P w K mg base n qual sc f cda cc A outer s0 H0 E0) [.Name n pn] (tCons (tVar 1) tNil):=pa_cons (pe_var (i:=1) rfl (.inl hsc.par) hdn hcn) pa_nil hst;have hrun:=ha.run pc _ _ _ _ (λxs H1=>xs=[v]/\H1=H) I3 ⟨v,rfl,rfl,rfl⟩;show wpAny _ _ (callWith pc (.ref h1.objs.size) [] (backTo pc (starEach [.Name n pn] (uM qual sc s0.heap.objs.size f cda cc))) []) _ _ _
 have hcall:∀ us s3,AP (uA P w K mg base n qual sc f cda cc A outer s0 H0 E0) [(h1.objs.size,PySem.W.kxs_mw "ValueError.__init__" a)] [some (.ref a),some v] (λxs H1=>xs=[v]/\H1=H) us s3 ->
    PySem.W.KxsAt "ValueError.__init__" h1.objs.size a s3.heap/\wpAny (model P w) (uA P w K mg base n qual sc f cda cc A outer s0 H0 E0).A (call (.ref h1.objs.size) us) (λ_ s'=>Flow.next=Flow.next/\Inv (uA P w K mg base n qual sc f cda cc A outer s0 H0 E0) [] [some (.ref a),some v] H s') (uA P w K mg base n qual sc f cda cc A outer s0 H0 E0).xe s3:=by
  rintro us s3 ⟨xs,H3,I4,rv,rfl,rfl⟩;have hu:=(I4.pin _ (pD _ (List.mem_singleton_self _))).1;refine⟨hu,?_⟩
  have hz:us.length<=sizeLine:=by
    have:=rv.length;rw[← this,sizeLine_eq];simp
  obtain⟨nm,q,N,bs,bm,sn,sub,ab,col,dd,k0,k1',k2',k3,k5,hC,hbm⟩:=k.T.cls;obtain⟨t2,he3⟩:=exo_at I4.hok e;obtain⟨hp3,g3,d3,tk3,os3⟩:=s3;refine wpAny_call (codeAny_of_tree ?_);show wpAny _ _ (callAny (.ref h1.objs.size) ⟨us,[]⟩) _ _ _;simp only[callAny];refine wpAny_bind (wpAny_load hu ?_);simp only[PySem.W.kxs_mw,show(Value.type "method-wrapper" == Value.type "method"||Value.type "method-wrapper" == Value.type "builtin_function_or_method"||Value.type "method-wrapper" == Value.type "method-wrapper")=true by decide,if_true];refine PySem.W.KFB.if_so (by decide) ?_;refine wpAny_bind (PySem.W.check_bound_init PySem.F.excBase_ValueError.toExcCallFacts (I4.kIn _ _ hC) he3 rfl ?_);refine wpAny_bind (wpAny_pure (wpAny_pure ?_));refine⟨plainId_quiet PySem.F.excBase_ValueError.init.plain _,codeAny_builtin PySem.F.excBase_ValueError.initEntry ?_⟩;refine PySem.W.exc_init_tree (cls:=.ref C) (t0:=t2) (dv:=none) (c2:=.none) (c3:=.none) (b4:=.bool false) he3 hz λh' kk e' _=>?_;have J:=I4.write (t':=tk3) (x:=a) (e:=a) (o:=exo a C none) (by rw[e];exact True.intro) (.inl rfl) kk ⟨_,e'⟩ (exo_ok e')
  have eu:upd H3 a (exo a C none)=H3:=by
    funext b;by_cases hb:b=a
    . rw[hb,upd_same,e]
    . rw[upd_ne hb]
  rw[eu]at J;exact⟨by trivial,J.pins_of λp hp=>absurd hp (by simp)⟩
 have h:=thn hrun hcall;have hst':starEach [.Name n pn] (uA P w K mg base n qual sc f cda cc A outer s0 H0 E0).env=(false,eval (.Name n pn) (uA P w K mg base n qual sc f cda cc A outer s0 H0 E0).env)::starEach [] (uA P w K mg base n qual sc f cda cc A outer s0 H0 E0).env:=hst;rw[hst']at h;rw[hst];exact PySem.W.kxs_callWith (i:="ValueError.__init__") (x:=a) (by show(false||(backTo pc (starEach [] (uM qual sc s0.heap.objs.size f cda cc))).any (·.1))=false;rw[hpl];rfl) (Calls.evalArgs_plain h)
end
abbrev zjy(n:Str)(p0 p1 pa pn pc pe q1 q2 q3 q4:Pos):List Stmt :=
 [.Expr (.Call (.Attribute (.Call (.Name "super" p0) [] [] p1) "__init__" pa) [.Name n pn] [] pc) pe,.Assign [.Attribute (.Name "self" q1) n q2] (.Name n q3) q4]
structure EText(n qual:Str)(sc:Scope)(p0 p1 pa pn pc pe q1 q2 q3 q4:Pos):Prop where
 int:∀ L f cda cc,interactive (uM qual sc L f cda cc)=false
 sw:∀ L f cda cc,swapsWith (.Call (.Attribute (.Call (.Name "super" p0) [] [] p1) "__init__" pa) [.Name n pn] [] pc) none pe.line (uM qual sc L f cda cc)=pure false
 ev:∃ pl:Nat->Addr->Addr->Addr->Sem Bool,∀ L f cda cc,eval (.Call (.Attribute (.Call (.Name "super" p0) [] [] p1) "__init__" pa) [.Name n pn] [] pc) (uM qual sc L f cda cc)=(do
  let ov ← attributeBase (.Call (.Name "super" p0) [] [] p1) "__init__" (uM qual sc L f cda cc) (eval (.Call (.Name "super" p0) [] [] p1) (uM qual sc L f cda cc))
  standAt pa.atName
  let (g0,first) ← holding [ov] (getMethod ov "__init__" (pl L f cda cc))
  callWith pc g0 first (backTo pc (starEach [.Name n pn] (uM qual sc L f cda cc))) [])
 st:∀ L f cda cc,starEach [.Name n pn] (uM qual sc L f cda cc)=(false,eval (.Name n pn) (uM qual sc L f cda cc))::starEach [] (uM qual sc L f cda cc)
 pl:∀ L f cda cc,(backTo pc (starEach [] (uM qual sc L f cda cc))).any (·.1)=false
 sw2:∀ L f cda cc,swapsWith (.Name n q3) (some (.Attribute (.Name "self" q1) n q2)) q4.line (uM qual sc L f cda cc)=pure false
 dn:(n == ("__debug__":Str))=false
 cn:(n == ("__classdict__":Str))=false
section
variable{P:Program}{w:World}{K:oU}{mg:Str->Option Value}{base:Heap}{n qual:Str}{sc:Scope}{C f cda cc:Addr}{fd:FuncData}{p0 p1 pa pn pc pe q1 q2 q3 q4:Pos}
def znP(C:Addr)(n:Str):Sp:=λvs H Q _=>∃(a:Addr) (v:V),vs=[.ref a,v]/\H a=some (exo a C none)/\∀ dx,H dx=none->dx≠a->Q .non (upd (upd H dx (exd dx [(n,v)])) a (exo a C (some dx)))
theorem zqB{k:Nat}(e:ErrK P K mg n qual sc (zjy n p0 p1 pa pn pc pe q1 q2 q3 q4) C f cda cc fd)(t:EText n qual sc p0 p1 pa pn pc pe q1 q2 q3 q4):FnG P w K mg base (k+1) f fd ["self",n] (znP C n):=by
 have len:∀ vs H Q E,znP C n vs H Q E->vs.length=(["self",n]:List Str).length:=λvs H Q E ⟨_,_,h,_⟩=>by rw[h];rfl
 refine⟨len,λA outer s H args us vs Q E hr e0 hb r hsp=>?_⟩;obtain⟨a,v,rfl,ea,q⟩:=hsp;have KX:K.In s.heap:=e0.mod.kin.keeps λb o e=>(e0.bs b o e).1;have lim:s.heap.NoLimit:=e0.mod.nolimit.keeps λb o e=>(e0.bs b o e).1;obtain⟨name,params,dV,kV,doc,pm,an,ct,hfd,ar,hp,har⟩:=e.fn;obtain⟨oc,od,osl,hf⟩:=e.at_;obtain⟨cl,cld,csl,hcell⟩:=e.cell;have hS:=e.sc
 cases r with
 | @cons _ u0 _ ur ra rr =>
 cases rr with
 | @cons _ u1 _ ur2 rb rr2 =>
 cases rr2;subst hfd;refine PySem.ks_codeAny_call_defAt (fd:=PySem.W.ksFn name qual params (zjy n p0 p1 pa pn pc pe q1 q2 q3 q4) sc dV kV doc pm an (.ref cda) ct cc) (body:=zjy n p0 p1 pa pn pc pe q1 q2 q3 q4) (binds:=[("self",u0),(n,u1)]) hr.room.depth (KX _ _ hf) rfl lim (PySem.W.codeRec_of KX e.code) rfl hb hS.nocell (λy hy=>?_) (λh1 hns hk=>?_) hS.co hS.gen hS.kind
 . simp only[tR,rK,or_false]at hy
   rcases hy with rfl | rfl
   . exact hS.self
   . exact hS.par
 have I:Inv (uA P w K mg base n qual sc f cda cc A outer s H E) [] [some (.ref a),some v] H { s with heap:=h1,toks:=s.toks+2 }:=zlW hS hcell hr.room.hd e0 ra rb hns hk;obtain⟨pl,hev⟩:=t.ev;refine PySem.ks_wpAt_execs_cons (PySem.ks_wpAt_mono (ziC e I ea (t.int _ _ _ _) (t.sw _ _ _ _) (hev _ _ _ _) (t.st _ _ _ _) (t.pl _ _ _ _) t.dn t.cn) (λfl s' hs=>?_) λ_ _ z=>z);obtain⟨rfl,I1⟩:=hs
 have ht:PSs (uA P w K mg base n qual sc f cda cc A outer s H E) [.Assign [.Attribute (.Name "self" q1) n q2] (.Name n q3) q4] (tOst K n (tVar 0) (tVar 1)) :=
   pss_one (ps_ost (pe_var (i:=0) rfl (.inl hS.self)) (pe_var (i:=1) rfl (.inl hS.par) t.dn t.cn) (t.sw2 _ _ _ _))
 have hq:tOst K n (tVar 0) (tVar 1) { nx:=λ_ H'=>Q .non H',rt:=Q } [some (.ref a),some v] H :=
   ⟨v,rfl,.ref a,rfl,a,C,rfl,e.T,e.noF,.inl ⟨ea,λdx h1 h2=>q dx h1 h2⟩⟩
 refine wpAt_of_wpAny (wpAny_mono (ht.run [] s' _ H _ I1 hq) (λfl s2 hs=>?_) λ_ _ z=>z)
 have fin:∀{σ':L2.St}{H':Hp}{v:V}{u:Value},Inv (uA P w K mg base n qual sc f cda cc A outer s H E) [] σ' H' s2->RelV v u->Q v H'->CE outer P w H s Q u s2 :=
   λ{σ' H' v u} J rv q=>⟨v,H',J.os,J.bare,J.base,J.hok,rv,q⟩
 cases fl with
 | ret u =>
   obtain⟨v,σ',H',J,rv,q⟩:=hs;exact fin J rv q
 | next =>
   obtain⟨σ',H',J,q⟩:=hs;exact fin (v:=V.non) (u:=Value.none) J rfl q
 | brk =>
   obtain⟨_,_,_,q⟩:=hs;exact False.elim q
 | cont =>
   obtain⟨_,_,_,q⟩:=hs;exact False.elim q
end
structure ErrAt(P:Program)(w:World)(K:oU)(mg:Str->Option Value)(base:Heap)(cm:CM)(k:Nat)(c n:Str)(dfls:List (List D)):Prop where
 ex:∃ C f fd,cm.err c=some C/\mg c=some (.ref C)/\OexC K C/\FnG P w K mg base k f fd ["self",n] (znP C n)/\PySem.W.findIn K (.ref C) "__init__"=some (some (.ref f))/\PySem.W.typeIn K (.ref f)=some (.type "function")/\∀ dl∈dfls,BindD K fd ["self",n] dl
section
variable{X:Cx}{cm:CM}{W:WX}{k j:Nat}{c n:Str}{dfls:List (List D)}{p pos rpos:Pos}
theorem zqZ{C f:Addr}{fd:FuncData}{ds:List Value}{dvs vs:List V}{us:List Value}{v:V}{pins:List (Addr×Obj)}{σ:L2.St}{H:Hp}{s:Shared}{Q:XK}(hT:OexC X.K C)(hF:FnG X.prog X.w X.K X.mg X.base k f fd ["self",n] (znP C n))
  (hi:PySem.W.findIn X.K (.ref C) "__init__"=some (some (.ref f))) (ht:PySem.W.typeIn X.K (.ref f)=some (.type "function")) (hr:Rg j X.A) (hk:k+1<=j) (tk:Takes X W) (hb:Binds X.K fd ["self",n] ds) (hd:Vals dvs ds) (I:Inv X pins σ H s) (hv:Vals vs us) (he:vs++dvs=[v])
  (q:∀ dx,H dx=none->Q (.ref C) (some dx) (upd H dx (.xd [(n,v)]))):wpAny (model X.prog X.w) X.A (call (.ref C) us) (MkP X pins σ Q) X.xe s:=by
 obtain⟨nm,qn,N,bs,bm,sn,sub,ab,col,dd,k0,k1,k2,k3,k5,hC,hbm⟩:=hT.cls;obtain⟨hp,g,dr,tk0,os⟩:=s;have hsz:hp.objs.size<=hp.objs.size+1:=pq _;have hn:H (hp.objs.size+1)=none:=I.hok.fresh hsz
 have hus:us.length<=sizeLine:=by
  have h1:vs.length<=1:=by have:=congrArg List.length he;simp at this;omega
  rw[← Paired.length hv,sizeLine_eq];omega
 have keep:∀ b o,hp.get? b=some o->((hp.push (PySem.W.kdv_tup us)).push (PySem.HandSPX.excO C hp.objs.size)).get? b=some o:=λb o z=>Heap.get?_push_of_some _ (Heap.get?_push_of_some _ z)
 have hat:((hp.push (PySem.W.kdv_tup us)).push (PySem.HandSPX.excO C hp.objs.size)).get? (hp.objs.size+1)=some (PySem.HandSPX.excO C hp.objs.size):=by heap_get
 have J:Inv X pins σ (upd H (hp.objs.size+1) (exo (hp.objs.size+1) C none)) ⟨(hp.push (PySem.W.kdv_tup us)).push (PySem.HandSPX.excO C hp.objs.size),g,dr,tk0,os⟩ :=
  I.laid (t':=tk0) (a:=hp.objs.size+1) (o:=exo (hp.objs.size+1) C none) keep hsz (exo_ok hat)
 have rr:Vals (V.ref (hp.objs.size+1)::(vs++dvs)) (Value.ref (hp.objs.size+1)::(us++ds)):=.cons rfl (hv.append hd)
 have sp:znP C n (V.ref (hp.objs.size+1)::(vs++dvs)) (upd H (hp.objs.size+1) (exo (hp.objs.size+1) C none)) (λu H2=>u=.non/\∃(d:Addr) (fs:List (Str×V)),H2 (hp.objs.size+1)=some (exo (hp.objs.size+1) C (some d))/\H2 d=some (exd d fs)/\H d=none/\Q (.ref C) (some d) (upd (del H2 (hp.objs.size+1)) d (.xd fs))) (λ_ _ _=>False):=by
  rw[he];refine⟨_,v,rfl,upd_same,λdx h1 h2=>⟨rfl,dx,[(n,v)],upd_same,?_,?_,?_⟩⟩
  . rw[upd_ne h2,upd_same]
  . rw[upd_ne h2]at h1;exact h1
  . have h1':H dx=none:=by rw[upd_ne h2]at h1;exact h1
    have e:upd (del (upd (upd (upd H (hp.objs.size+1) (exo (hp.objs.size+1) C none)) dx (exd dx [(n,v)])) (hp.objs.size+1) (exo (hp.objs.size+1) C (some dx))) (hp.objs.size+1)) dx (.xd [(n,v)])=upd H dx (.xd [(n,v)]):=by
     funext b;by_cases hb:b=dx
     . rw[hb,upd_same,upd_same]
     . rw[upd_ne hb,upd_ne hb];by_cases hb2:b=hp.objs.size+1
       . rw[hb2,del_same,hn]
       . rw[del_ne hb2,upd_ne hb2,upd_ne hb,upd_ne hb2]
    rw[e];exact q dx h1'
 have hlen:(Value.ref (hp.objs.size+1)::us++ds).length=(["self",n]:List Str).length:=by
  have z:=rr.length;rw[he]at z;simpa using z.symm
 refine wpAny_call (PySem.HandSPX.call_own PySem.F.excBase_ValueError (λY=>PySem.HandSPX.refsVE_contains Y bm hbm) (I.kIn _ _ hC) (PySem.W.looks_findIn I.kIn hi) (λself=>PySem.W.bind_fn I.kIn self ht) hus
  (codeAny_mono (hF.run _ X.stack _ _ ⟨Value.ref (hp.objs.size+1)::us,[]⟩ (Value.ref (hp.objs.size+1)::(us++ds)) _ _ (λ_ _ _=>False) ((hr.mono hk).make C us []) (J.env0.make C us []) (hb _ (Value.ref (hp.objs.size+1)::us) J.kIn hlen) rr sp) λr s' hq=>?_))
 cases r with
 | error er=>exact tk _ _ (XE.of_call J (λ_ _ _ z=>z.elim) hq)
 | ok f0 =>
  cases f0 with
  | ret u =>
    obtain⟨u',H2,os2,ag2,un2,hok2,ru,eu,d,fs,ea,ed,hd1,q2⟩:=hq;subst eu;obtain⟨h2,g2,d2,t2,os'⟩:=s';exact⟨ru,mk_end (raises_own hT.exC hT.tyC) I hsz keep un2 hok2 os2 ag2 ea ed hd1 q2⟩
  | next=>exact False.elim hq
  | brk=>exact False.elim hq
  | cont=>exact False.elim hq
variable{a:Expr}{fa:E}
theorem zgr{K:oU}{dvs:List V}(h:∀ p H,RVs K p H [] dvs):dvs=[]:=by
 have:=h [] (λ_=>none);simpa[RVs]using this
theorem ug(V:ErrAt X.prog X.w X.K X.mg X.base cm k c n dfls)(h0:[]∈dfls)(hr:Rg j X.A)(hk:k+1<=j)(hc:X.calm=true)(tk:Takes X W)(ha:JE X cm W a fa)(hg:Gl X c:=by rfl)(hdb:(c == ("__debug__":Str))=false:=by decide)
  (hst:starEach [a] X.env=(false,eval a X.env)::starEach [] X.env:=by rfl) (hpl:(backTo pos (starEach [] X.env)).any (·.1)=false:=by rfl):JS X cm W (.Raise (some (.Call (.Name c p) [a] [] pos)) none rpos) (xj c n fa):=by
 obtain⟨C,f,fd,hC,hm,hT,hF,hi,ht,hb⟩:=V.ex;obtain⟨ds,dvs,hv,hbd,hz⟩:=hb [] h0;obtain rfl:=zgr hz
 have mk:PMk X (.Call (.Name c p) [a] [] pos) (λσ H Q=>tD X.K cm W fa σ H λv H1=>∀ dx,H1 dx=none->Q (.ref C) (some dx) (upd H1 dx (.xd [(n,v)]))):=by
  intro pins s σ H Q I h;refine wpAny_Call_Name_kw (ld_glob I hg hm ?_ hdb);have ps:PA X [a] (tCons (tD X.K cm W fa) tNil):=pa_cons ha pa_nil hst;refine PySem.W.callWith_K (h₀:=X.base) I.ok.mod.kin hT.kC (thn (ps.run pos pins s σ H (λvs H1=>∃ v,vs=[v]/\∀ dx,H1 dx=none->Q (.ref C) (some dx) (upd H1 dx (.xd [(n,v)]))) I ?_) λus s1 ⟨vs,H1,I1,r1,v,ev,q⟩=>⟨I1.kIn,?_⟩) hst hpl
  . obtain⟨p,e,st,re,rs,q⟩:=h;exact⟨p,e,st,re,rs,q.imp λv H1 q=>⟨v,rfl,q⟩⟩
  . exact zqZ hT hF hi ht hr hk tk hbd hv I1 r1 (by rw[ev];rfl) q
 refine(ps_raise hc tk mk).imp ?_;rintro D σ H ⟨p,e,s,re,rs,q⟩;refine⟨p,e,s,re,rs,(PoS.ex (rel:=RV X.K) q re).imp ?_⟩;rintro v H1 ⟨d,p1,s1,f1,rs1,r1,q⟩ dx hdx;have sm:=wR (u:=HO.xd [(n,v)]) hdx;refine q p1 _ σ (.ref C) (some dx) (Fut.same sm) (rs1.same sm) ((re.mono f1).mono (Fut.same sm)) ⟨C,hC,rfl,[(n,v)],upd_same,?_⟩;simp only[RKs];exact⟨v,[],rfl,r1.mono (Fut.same sm),rfl⟩
end
structure CatAt(K:oU)(cm:CM)(mg:Str->Option Value)(x:Str)(sub:List Str):Prop where
 ex:∃ A,mg x=some (.ref A)/\∀ c C,cm.err c=some C->PySem.W.exmOne K (.ref C) (.ref A)=some (sub.contains c)
end Fc
namespace PySem.W
open PySem PySem.Spec PySem.Calls PyProof.Rows
section
variable{prog:Program}{w:World}{A:Around}{E:Value->Shared->Prop}{s:Shared}{K:Frag}{x D:Addr}{ox:Obj}{od:Option Obj}
theorem zgf{C:Addr}{nm:Str}{v gt:Value}(c1:(clsIn K C).isSome=true)(c2:findIn K (.ref C) nm=some (some v))(c3:specialIn K v "__get__"=some (some gt))(c4:takesIn K v=some true):findObj K C od nm=some (.bind gt v):=by
 cases c5:clsIn K C with
 | none=>rw[c5]at c1;cases c1
 | some cd =>
  unfold findObj;rw[c5,Option.bind_some,c2,Option.bind_some];simp[c3,c4]
theorem ziz{Q:Option Value->Shared->Prop}(e:L2.ExcC K D)(KI:K.In s.heap)(I:InstAt s.heap x ox D od)(h:Q (some (.ref D)) { s with toks:=s.toks+1 }):wpAny (model prog w) A (getAttr? (.ref x) "__class__") Q E s:=by
 have fnd:findObj K D od "__class__"=some (.bind (.builtin "getset_descriptor.__get__") (.builtin "object.__class__")) :=
  zgf (by obtain⟨cd,z,_⟩:=any_some e.hd;rw[z];rfl) e.ha e.hn e.ht
 obtain⟨hp,gn,dw,tk,os⟩:=s;have T0:=I.type (M:=model prog w);have T1:=looks_findIn (M:=model prog w) KI e.hg;have T2:=looks_findIn (M:=model prog w) KI e.hk;have T3:=looks_find (M:=model prog w) KI I fnd;have isB:Looks (model prog w) hp (isInstance (.ref x) (.type "BaseException")) true:=T0.andThen (looks_subIn KI e.hs);have n0:(false&&onTheHeap (Value.builtin "BaseException.__getattribute__"))=false:=rfl
 have n1:(onTheHeap (Value.ref D)&&Value.builtin "BaseException.__getattribute__" == Value.builtin "object.__getattribute__")=false:=by
  have z:(Value.builtin "BaseException.__getattribute__" == Value.builtin "object.__getattribute__")=false:=by
   decide +kernel
  rw[z];rfl
 unfold getAttr? getAttrBy?;unfold getAttrBy;refine wpAny_bind (wpAny_mkText (wpAny_bind (wpAny_attempt (wpAny_holding (wpAny_bind (T0.at (wpAny_bind (T1.at ?_))))))));show wpAny _ _ (if (onTheHeap (Value.ref D)&&_)=true then _ else _) _ _ _;rw[n1,if_neg qJ];unfold getAttrByItsOwn hookBefore;refine wpAny_bind ?_;rw[if_pos (show onTheHeap (Value.ref D)=true from rfl)];refine T2.at ?_;refine wpAny_bind (wpAny_attempt (wpAny_holding ?_));unfold callGetattribute;rw[n0,if_neg qJ];unfold boundAndCalled;rw[PySem.F.excAttr_ValueError.ga.bind (.ref x)];refine wpAny_bind (wpAny_pure ?_);show wpAny _ _ (call (.builtin "BaseException.__getattribute__") [.ref x,.str "__class__" tk]) _ _ _;refine wpAny_call (codeAny_call_builtin PySem.F.excAttr_ValueError.ga.plain PySem.F.entry_bexc_ga ?_);refine @check_slot (model prog w) _ _ ⟨hp,gn,dw,tk+1,os⟩ "BaseException.__getattribute__" "BaseException" "__getattribute__" (.ref x) [.str "__class__" tk] [] _ (by decide +kernel) (by decide +kernel) isB (PySem.F.args_bexc_ga (.ref x) (.str "__class__" tk)) ?_;unfold Builtin.«object.__getattribute__»;refine wpAny_bind (wpAny_of_eq (a:=((Value.ref x:Value),[Value.str "__class__" tk])) (by first | rfl | (simp only[slotArgs];rfl)) ?_);refine wpAny_bind (wpAny_pure (wpAny_bind (T0.at (wpAny_bind (T3.at ?_)))));show wpAny _ _ (holding [_] (call (.builtin "getset_descriptor.__get__") [.builtin "object.__class__",.ref x,.ref D]) >>= ret) _ _ _;refine wpAny_bind (wpAny_holding (wpAny_call (class_get (s:=⟨hp,gn,dw,tk+1,os⟩) (ox:=ox) (od:=od) KI I e.hm ?_)));refine wpAny_pure ?_;show wpAny _ _ (handedOut (.ref D)) _ _ _;rw[handedOut_of (v:=.ref D) rfl]
 first
  | exact wpAny_pure (wpAny_pure h)
  | exact wpAny_pure h
  | exact wpAny_pure (wpAny_bind (wpAny_pure (wpAny_pure h)))
theorem zoA(e:L2.ExcC K D):KitX K (.ref x) (.ref D) (λh=>InstAt h x ox D od) where
 ty:=λ_ _ _ I=>I.type
 it:=λ_ _ KI _=>by
  obtain⟨cd,z,_⟩:=any_some e.hd;unfold clsIn at z;split at z
  . rename_i c1 d1 cd1 sl1 ho;intro A1 Q1 E1 s1 k q;unfold isType loadHead;exact wpAny_bind (wpAny_loadPart (k _ _ (KI _ _ ho)) (wpAny_pure q))
  . cases z
 ne:=λh tp dd its n sl KI htp=>by
  obtain⟨cd,z,_⟩:=any_some e.hd;refine Bool.eq_false_iff.mpr λq=>?_;have e2:D=tp:=Value.ref.inj (beq_iff_eq.mp q);subst e2;unfold clsIn at z;split at z
  . rename_i c1 d1 cd1 sl1 ho;have y:=(KI _ _ ho).symm.trans htp;cases y
  . cases z
 ca:=λKI I k=>ziz e KI I k
end
end PySem.W
namespace Fc
open PySem PySem.Spec PyProof.Rows L2
def zqi(sub:List Str):D->M D:=λx s=>match x with
 | .ref n=>match s[n]? with
  | some (.ins c _)=>some (.ok (.bl (sub.contains c)) s)
  | some (.err c _)=>some (.ok (.bl (sub.contains c)) s)
  | some (.lst _)=>some (.ok (.bl false) s)
  | some (.dK _)=>some (.ok (.bl false) s)
  | some (.dT _)=>some (.ok (.bl false) s)
  | _=>none
 | .rol _=>none
 | .stu _=>none
 | _=>some (.ok (.bl false) s)
def ztt(K:oU):List V->Hp->VK->Prop:=λxs H Q=>∃(a C:Addr) (dd:Option Addr) (cv:V) (u:Value) (b:Bool),xs=[.ref a,cv]/\(∀ z,RelV cv z->z=u)/\H a=some (ErrO a C dd)/\(∀ x,dd=some x->∃ gs,H x=some (.xd gs))/\ExcC K C/\PySem.W.kitOne K (.ref C) u=some b/\Q (.bl b) H
section
variable{X:Cx}{cm:CM}{W:WX}
theorem zlN{pins:List (Addr×Obj)}{σ:L2.St}{H:Hp}{s:Shared}{a C:Addr}{dd:Option Addr}(I:Inv X pins σ H s)(ha:H a=some (ErrO a C dd))(hd:∀ x,dd=some x->∃ gs,H x=some (.xd gs)):∃ oe od,PySem.W.InstAt s.heap a oe C od:=by
 have h1:ObjOk X.prog X.w H s.heap a (ErrO a C dd):=I.hok a _ ha;obtain⟨⟨oe,vs,e1,e2,e3,e4⟩,_⟩:=h1
 cases dd with
 | none=>exact⟨oe,none,e1,e2,by unfold PySem.W.notCls;rw[e4],by rw[e3];trivial⟩
 | some dd =>
  obtain⟨gs,hd⟩:=hd dd rfl;have h2:ObjOk X.prog X.w H s.heap dd (.xd gs):=I.hok dd _ hd;obtain⟨mA,hns,_⟩:=h2;obtain⟨od,ho,_⟩:=lookIn_ns hns;exact⟨oe,some od,e1,e2,by unfold PySem.W.notCls;rw[e4],by rw[e3];exact ho⟩
theorem zjl:CallR X (.builtin "isinstance") (λxs H Q=>rIsi X.K xs H Q\/ztt X.K xs H Q):=by
 intro pins s σ H xs us Q I r h
 rcases h with h | ⟨a,C,dd,cv,u,b,rfl,hcv,ha,hd,ec,e,q⟩
 . exact call_isi pins s σ H xs us Q I r h
 . obtain⟨u1,u2,rfl,ra,rc⟩:=vals2 r;obtain rfl:u1=Value.ref a:=ra;obtain rfl:=hcv _ rc;obtain⟨oe,od,J⟩:=zlN I ha hd
   exact PySem.W.kia_one (PySem.W.zoA ec) I.kIn J e (λz=>by cases z) λtk=>⟨.bl b,H,I.tok tk,rfl,q⟩
structure IsCJ(K:oU)(cm:CM)(mg:Str->Option Value)(x:Str)(sub:List Str):Prop where
 ex:∃ A,mg x=some (.ref A)/\(∀ t∈wz,PySem.W.kitOne K (.type t) (.ref A)=some false)/\(∀ c C,cm.ins c=some C->C8.InsC K C/\PySem.W.kitOne K (.ref C) (.ref A)=some (sub.contains c)) /\
  ∀ c C,cm.err c=some C->ExcC K C/\PySem.W.kitOne K (.ref C) (.ref A)=some (sub.contains c)
variable{a:Expr}{fa:E}{pos:Pos}
theorem ztu{x:Str}{sub:List Str}{p1 p2:Pos}(T:IsCJ X.K cm X.mg x sub)(he:JE X cm W a fa)(hm:X.mg "isinstance"=none)(hg:Gl X "isinstance":=by rfl)(hgx:Gl X x:=by rfl)(hdb:(x == ("__debug__":Str))=false:=by decide)
  (he1:starEach [a,.Name x p2] X.env=(false,eval a X.env)::starEach [.Name x p2] X.env:=by rfl) (he2:starEach [.Name x p2] X.env=(false,eval (.Name x p2) X.env)::starEach [] X.env:=by rfl) (hpl:(backTo pos (starEach [.Name x p2] X.env)).any (·.1)=false:=by rfl) :
  JE X cm W (.Call (.Name "isinstance" p1) [a,.Name x p2] [] pos) (e1 (zqi sub) fa):=by
 obtain⟨A,hA,hp,hi,hr⟩:=T.ex;refine(pe_callB zjl hg hm (by decide +kernel) (pa_cons he (pa_cons (pe_glob (v:=.ref A) hgx hA rfl hdb) pa_nil he2) he1) (he:=he1) (hpl:=hpl)).imp λσ H Q q=>?_;obtain⟨p,e,s,re,rs,q⟩:=tD.bnd q;refine⟨p,e,s,re,rs,q.imp ?_⟩;rintro v H1 ⟨p,e,s,d,re,rs,r1,q⟩
 have base:∀(T:String),T∈wz->TyX X.K H1 v (.type T)->Po X.K cm W (RV X.K) p σ H1 (some (.ok (.bl false) s)) Q->rIsi X.K [v,.ref A] H1 Q:=λT hT h1 q =>
  ⟨v,.ref A,.type T,.ref A,false,rfl,.own A,h1,hp T hT,Po.ok q rs (zay _)⟩
 unfold zqi at q
 cases d with
 | non=>cases zbs r1;exact .inl (base "NoneType" (by simp[wz]) (.base .non) q)
 | bl b=>cases zaJ r1;exact .inl (base "bool" (by simp[wz]) (.base (.bl _)) q)
 | int b=>cases yz r1;exact .inl (base "int" (by simp[wz]) (.base (.int _)) q)
 | str b=>cases wQ r1;exact .inl (base "str" (by simp[wz]) (.base (.str _)) q)
 | tup b =>
  obtain⟨t,vs,rfl,h1,rr⟩:=xV r1;exact .inl (base "tuple" (by simp[wz]) (.base (.tup h1)) q)
 | rol b=>exact q.elim
 | stu b=>exact q.elim
 | ref n =>
  simp only at q
  cases hn:s[n]? with
  | none=>rw[hn]at q;exact q.elim
  | some o =>
   rw[hn]at q;simp only[RV]at r1;obtain⟨t,ht,rfl⟩:=r1;obtain⟨t',ht',ro⟩:=rs.at hn;rw[ht]at ht';cases ht'
   cases o with
   | lst ds =>
    obtain⟨u,h1,vs,rfl,_⟩:=ro;exact .inl (base "list" (by simp[wz]) (.base (.lst h1)) q)
   | dK ds =>
    obtain⟨u,h1,vs,rfl,_⟩:=ro;exact .inl (base "dict" (by simp[wz]) (.base (.dK h1)) q)
   | dT ds =>
    obtain⟨u,h1,vs,rfl,_⟩:=ro;exact .inl (base "dict" (by simp[wz]) (.base (.dT h1)) q)
   | ins c fs =>
    obtain⟨u,h1,C,dx,gs,hC,rfl,_⟩:=ro;obtain⟨ic,k⟩:=hi c C hC;exact .inl ⟨.ref t,.ref A,.ref C,.ref A,sub.contains c,rfl,.own A,.base (.ins h1 ic.cl ic.ha ic.hn ic.htk ic.hm),k,Po.ok q rs (zay _)⟩
   | err c fs =>
    obtain⟨C,dd,hC,h1,h2⟩:=ro;obtain⟨ec,k⟩:=hr c C hC;exact .inr ⟨t,C,dd,.ref A,.ref A,sub.contains c,rfl,λz rz=>rz,h1,λx hx=>by subst hx;obtain⟨gs,h3,_⟩:=h2;exact⟨gs,h3⟩,ec,k,Po.ok q rs (zay _)⟩
   | lck o=>exact q.elim
   | dN o=>exact q.elim
end
def ziH:L2.Key->PyData
 | .inl i=>.int i
 | .inr x=>.str x
mutual
def uI(s:S):Nat->D->Option PyData
 | _,.non=>some .none
 | _,.bl b=>some (.bool b)
 | _,.int i=>some (.int i)
 | _,.str x=>some (.str x)
 | 0,.tup _=>none
 | 0,.ref _=>none
 | 0,.stu _=>none
 | _,.rol _=>none
 | n+1,.tup ds=>(uh s n ds).map .tuple
 | n+1,.stu ds=>(uh s n ds).map .tuple
 | n+1,.ref a=>match s[a]? with
  | some (.lst ds)=>(uh s n ds).map .list
  | some (.dK kvs)=>(uh s n (kvs.map (·.2))).map λxs=>.dict ((kvs.map λkv=>ziH kv.1).zip xs)
  | _=>none
def uh(s:S):Nat->List D->Option (List PyData)
 | _,[]=>some []
 | n,d::r=>match uI s n d,uh s n r with
  | some x,some xs=>some (x::xs)
  | _,_=>none
end
def SysOk(K:oU):Prop:=∃ o,K.lookup sysModules=some o/\o.cls=.type "dict"
theorem zsa{X:Cx}{pins:List (Addr×Obj)}{σ:L2.St}{H:Hp}{s:Shared}(I:Inv X pins σ H s)(so:SysOk X.K){a:Addr}{o:Obj}{c:String}(h:s.heap.get? a=some o)(hc:o.cls=.type c)(hn:c≠"dict"):a≠sysModules:=λz=>by
 subst z;obtain⟨o2,k1,k2⟩:=so;have e:=I.kIn _ _ k1;rw[h]at e;cases e;rw[hc]at k2;cases k2;exact hn rfl
theorem zly{α β:Type}:∀{l:List α}{m:List β},l.length=m.length->(l.zip m).map (·.1)=l
 | [],[],_=>rfl
 | a::l,b::m,h=>by
  rw[oH,tK,zly (by simpa using h)]
theorem zlz{α β:Type}:∀{l:List α}{m:List β},l.length=m.length->(l.zip m).map (·.2)=m
 | [],[],_=>rfl
 | a::l,b::m,h=>by
  rw[oH,tK,zlz (by simpa using h)]
theorem zeQ{s:S}{n:Nat}:∀{ds:List D}{xs:List PyData},uh s n ds=some xs->ds.length=xs.length
 | [],xs,h=>by cases n <;> (simp only[uh]at h;cases h;rfl)
 | d::ds,xs,h=>by
  simp only[uh]at h;split at h
  . rename_i x ys h1 h2;cases h;simp[zeQ h2]
  . cases h
theorem zid{K:oU}{κ:Type}{p:List Addr}{H:Hp}:∀{kvs:List (κ×D)}{ws:List (κ×V)},RKs K p H kvs ws->RVs K p H (kvs.map (·.2)) (ws.map (·.2))/\kvs.map (·.1)=ws.map (·.1)
 | [],ws,h=>by simp only[RKs]at h;subst h;simp[RVs]
 | d::kvs,ws,h=>by
  simp only[RKs]at h;obtain⟨v,r,rfl,h1,h2⟩:=h;obtain⟨h3,h4⟩:=zid h2;refine⟨?_,by simp[h4]⟩;simp only[tK,RVs];exact⟨v,_,rfl,h1,h3⟩
theorem zff{P:Program}{w:World}{h:Heap}:∀{es:List DictEntry}{vs:List (L2.Key×Value)},Pairs (L2.mixKind P w) es vs->ReadsAll h (es.map (·.key)) (vs.map λkv=>ziH kv.1) []
 | _,_,.nil=>ReadsAll.nil
 | _,_,.cons (e:=e) (kv:=kv) h1 _ r=>by
  have hr:=zff (h:=h) r;obtain⟨k,v⟩:=kv
  have:Reads h e.key (ziH k) []:=by
   rcases keyIs_shape h1 with ⟨i,t,e1,e2⟩ | ⟨x,t,e1,e2⟩
   . dsimp only at e1;rw[e1,e2];exact Reads.int i t
   . dsimp only at e1;rw[e1,e2];exact Reads.str x t
  exact ReadsAll.cons (as:=[]) (bs:=[]) this hr
theorem zfL{P:Program}{w:World}:∀{es:List DictEntry}{vs:List (L2.Key×Value)},Pairs (L2.mixKind P w) es vs->es.map (·.val)=vs.map (·.2)
 | _,_,.nil=>rfl
 | _,_,.cons _ h2 r=>by
  rw[tK,tK,h2,zfL r]
theorem zjW:∀{ws:List (L2.Key×V)}{vs:List (L2.Key×Value)},KV ws vs->Vals (ws.map (·.2)) (vs.map (·.2))/\ws.map (·.1)=vs.map (·.1)
 | _,_,.nil=>⟨.nil,rfl⟩
 | _,_,.cons h r=>by
  obtain⟨h1,h2⟩:=zjW r;exact⟨.cons h.2 h1,by rw[tK,tK,h.1,h2]⟩
section
variable{X:Cx}{cm:CM}{pins:List (Addr×Obj)}{σ:L2.St}{H:Hp}{sh:Shared}{p:List Addr}{s:S}
mutual
theorem zdg(I:Inv X pins σ H sh)(rs:RS X.K cm p s H)(so:SysOk X.K):∀(n:Nat) (d:D) {v:V}{u:Value}{x:PyData},RV X.K p H d v->RelV v u->uI s n d=some x->∃ as,Reads sh.heap u x as/\sysModules∉as
 | n,.non,v,u,x,r,ru,e=>by
  cases n <;> (simp only[uI]at e;cases e;cases zbs r;cases ru;exact⟨_,Reads.none,by simp⟩)
 | n,.bl b,v,u,x,r,ru,e=>by
  cases n <;> (simp only[uI]at e;cases e;cases zaJ r;cases ru;exact⟨_,Reads.bool b,by simp⟩)
 | n,.int b,v,u,x,r,ru,e=>by
  cases n <;> (simp only[uI]at e;cases e;cases yz r;obtain⟨t,rfl⟩:=ru;exact⟨_,Reads.int b t,by simp⟩)
 | n,.str b,v,u,x,r,ru,e=>by
  cases n <;> (simp only[uI]at e;cases e;cases wQ r;obtain⟨t,rfl⟩:=ru;exact⟨_,Reads.str b t,by simp⟩)
 | n,.rol b,v,u,x,r,ru,e=>by
  cases n <;> (simp only[uI]at e;cases e)
 | 0,.stu ds,v,u,x,r,ru,e=>by simp only[uI]at e;cases e
 | n+1,.stu ds,v,u,x,r,ru,e=>by
  simp only[uI,tW]at e;obtain⟨xs,e,rfl⟩:=e;simp only[RV]at r;obtain⟨a,vs,rfl,h,q⟩:=r;cases ru;obtain⟨its,rv,⟨o,ho,hc,m,hd⟩,_⟩:=I.tuple h.sq;obtain⟨as,hr,hn⟩:=vH I rs so n ds q rv e;exact⟨_,Reads.tuple ho hc hd hr,hn⟩
 | 0,.tup ds,v,u,x,r,ru,e=>by simp only[uI]at e;cases e
 | 0,.ref a,v,u,x,r,ru,e=>by simp only[uI]at e;cases e
 | n+1,.tup ds,v,u,x,r,ru,e=>by
  simp only[uI,tW]at e;obtain⟨xs,e,rfl⟩:=e;obtain⟨a,vs,rfl,h,q⟩:=xV r;cases ru;obtain⟨its,rv,⟨o,ho,hc,m,hd⟩,_⟩:=I.tuple (SqT.of h);obtain⟨as,hr,hn⟩:=vH I rs so n ds q rv e;exact⟨_,Reads.tuple ho hc hd hr,hn⟩
 | n+1,.ref a,v,u,x,r,ru,e=>by
  simp only[uI]at e
  cases h:s[a]? with
  | none=>rw[h]at e;cases e
  | some o =>
   rw[h]at e
   cases o with
   | lst ds =>
    obtain⟨xs,e1,rfl⟩:=tW.mp e;obtain⟨b,vs,rfl,_,hb,q⟩:=yw rs r h;cases ru;obtain⟨its,rv,⟨o,m,ho,hc,_,hd⟩,_⟩:=I.list (SqL.of hb);obtain⟨as,hr,hn⟩:=vH I rs so n ds q rv e1;refine⟨_,Reads.list ho hc hd hr,λz=>?_⟩
    rcases tR.mp z with z | z
    . exact zsa I so ho hc (by decide) z.symm
    . exact hn z
   | dK kvs =>
    obtain⟨xs,e1,rfl⟩:=tW.mp e;simp only[RV]at r;obtain⟨t,ht,rfl⟩:=r;obtain⟨t',ht',ob,h1,ws,rfl,rk⟩:=rs.at h;rw[ht]at ht';cases ht';cases ru;obtain⟨_,hsys,vs,rel,o,es,ep,ho,hx,hd,_,hp,_⟩:=dk_of I.hok h1;obtain⟨k1,k2⟩:=zid rk;obtain⟨k3,k4⟩:=zjW rel;obtain⟨as,hr,hn⟩:=vH I rs so n _ k1 k3 e1
    have hl:(kvs.map λkv=>ziH kv.1).length=xs.length:=by
      have:=zeQ e1;simpa using this
    have hk:(kvs.map λkv=>ziH kv.1)=vs.map λkv=>ziH kv.1:=by
      have z:(kvs.map (·.1)).map ziH=(vs.map (·.1)).map ziH:=by rw[k2,k4]
      simpa[sO,Function.comp_def]using z
    have a1:ReadsAll sh.heap (es.toList.map (·.key)) (((kvs.map λkv=>ziH kv.1).zip xs).map (·.1)) []:=by
      rw[zly hl,hk];exact zff hp
    have a2:ReadsAll sh.heap (es.toList.map (·.val)) (((kvs.map λkv=>ziH kv.1).zip xs).map (·.2)) as:=by
      rw[zlz hl,zfL hp];exact hr
    refine⟨_,Reads.dict ho hx.1 hd a1 a2,λz=>?_⟩;have z:sysModules∈t::[]++as:=z
    rcases tR.mp z with z | z
    . rw[← z]at hsys;simp at hsys
    . exact hn z
   | _=>cases e
theorem vH(I:Inv X pins σ H sh)(rs:RS X.K cm p s H)(so:SysOk X.K):∀(n:Nat) (ds:List D) {vs:List V}{us:List Value}{xs:List PyData},RVs X.K p H ds vs->Vals vs us->uh s n ds=some xs->∃ as,ReadsAll sh.heap us xs as/\sysModules∉as
 | n,[],vs,us,xs,r,ru,e=>by
  simp only[RVs]at r;subst r;cases ru
  cases n <;> (simp only[uh]at e;cases e;exact⟨_,ReadsAll.nil,by simp⟩)
 | n,d::ds,vs,us,xs,r,ru,e=>by
  simp only[RVs]at r;obtain⟨v,r',rfl,r1,r2⟩:=r
  cases ru with
  | cons ra rb =>
   simp only[uh]at e;split at e
   . rename_i x xs' e1 e2;cases e;obtain⟨as,h1,n1⟩:=zdg I rs so n d r1 ra e1;obtain⟨bs,h2,n2⟩:=vH I rs so n ds r2 rb e2;exact⟨_,ReadsAll.cons h1 h2,by simp[n1,n2]⟩
   . cases e
end
end
theorem ziI(k:L2.Key):(ziH k).depth=0:=by
 cases k <;> simp[ziH,PyData.depth]
theorem zfO{n:Nat}:∀{ks:List L2.Key}{xs:List PyData},PyData.depthAll xs<=n->PyData.depthKv ((ks.map ziH).zip xs)<=n
 | [],xs,_=>by simp[PyData.depthKv]
 | k::ks,[],_=>by simp[PyData.depthKv]
 | k::ks,x::xs,h=>by
  simp only[PyData.depthAll]at h;have:=zfO (n:=n) (ks:=ks) (xs:=xs) (by omega);simp only[tK,oH,PyData.depthKv,ziI];omega
mutual
theorem zdf(s:S):∀(n:Nat) (d:D) {x:PyData},uI s n d=some x->x.depth<=n
 | n,.non,x,h=>by cases n <;> (simp only[uI]at h;cases h;simp[PyData.depth])
 | n,.bl b,x,h=>by cases n <;> (simp only[uI]at h;cases h;simp[PyData.depth])
 | n,.int b,x,h=>by cases n <;> (simp only[uI]at h;cases h;simp[PyData.depth])
 | n,.str b,x,h=>by cases n <;> (simp only[uI]at h;cases h;simp[PyData.depth])
 | n,.rol b,x,h=>by cases n <;> (simp only[uI]at h;cases h)
 | 0,.stu b,x,h=>by simp only[uI]at h;cases h
 | 0,.tup b,x,h=>by simp only[uI]at h;cases h
 | 0,.ref b,x,h=>by simp only[uI]at h;cases h
 | n+1,.tup ds,x,h=>by
  simp only[uI,tW]at h;obtain⟨xs,h,rfl⟩:=h;have:=vG s n ds h;simp only[PyData.depth];omega
 | n+1,.stu ds,x,h=>by
  simp only[uI,tW]at h;obtain⟨xs,h,rfl⟩:=h;have:=vG s n ds h;simp only[PyData.depth];omega
 | n+1,.ref a,x,h=>by
  simp only[uI]at h
  cases ha:s[a]? with
  | none=>rw[ha]at h;cases h
  | some o =>
   rw[ha]at h
   cases o with
   | lst ds =>
    obtain⟨xs,h',rfl⟩:=tW.mp h;have:=vG s n ds h';simp only[PyData.depth];omega
   | dK kvs =>
    obtain⟨xs,h',rfl⟩:=tW.mp h;have z:=vG s n _ h';have:=zfO (ks:=kvs.map (·.1)) z;simp only[PyData.depth];simp only[sO,Function.comp_def]at this;omega
   | _=>cases h
theorem vG(s:S):∀(n:Nat) (ds:List D) {xs:List PyData},uh s n ds=some xs->PyData.depthAll xs<=n
 | n,[],xs,h=>by cases n <;> (simp only[uh]at h;cases h;simp[PyData.depthAll])
 | n,d::ds,xs,h=>by
  simp only[uh]at h;split at h
  . rename_i x xs' e1 e2;cases h;have h1:=zdf s n d e1;have h2:=vG s n ds e2;simp only[PyData.depthAll];omega
  . cases h
end
def ji:List D->M D:=λxs s=>match xs with
 | [d]=>match uI s 60 d with
  | some x=>if x.showable&&sz x.shown.length then some (.ok (.str x.shown) s)else none
  | none=>none
 | _=>none
section
variable{X:Cx}{cm:CM}{W:WX}
theorem s_reprR{k:Nat}(hr:Rg k X.A)(so:SysOk X.K):SN X cm (.builtin "repr") ji:=by
 refine⟨λvs H Q=>∃ W p s σ ds,RS X.K cm p s H/\RVs X.K p H ds vs/\Po X.K cm W (RV X.K) p σ H (ji ds s) Q,?_,λW p s σ H vs ds Q rs r q=>⟨W,p,s,σ,ds,rs,r,q⟩⟩;rintro pins s σ H vs us Q I ru ⟨W,p,st,σ',ds,rs,rv,q⟩;unfold ji at q;split at q
 . rename_i d;split at q
   . rename_i x hx;split at q
     . rename_i hok;obtain⟨v,rfl,rx⟩:=wN rv
       cases ru with
       | cons r1 rn =>
        rename_i u us';cases rn;rw[sG]at hok;have hz:=zaM hok.2;have hs:=hok.1;have dp:=zdf st 60 d hx;have hu:=hr.room.units;obtain⟨as,rd,hsm⟩:=zdg I rs so 60 d rx r1 hx
        have fin:∀ tk,EP X pins σ Q (.str x.shown tk) { s with toks:=s.toks+1 }:=λtk=>⟨.str x.shown,H,I.tok _,⟨tk,rfl⟩,Po.ok q rs (km _)⟩
        have hq':∀ h' u tk,(∀ b o,s.heap.get? b=some o->h'.get? b=some o)->EP X pins σ Q (.str x.shown u) { s with heap:=h',toks:=tk }:=λh' u tk k=>⟨.str x.shown,H,I.kept k,⟨u,rfl⟩,Po.ok q rs (km _)⟩
        cases rd with
        | none =>
         simp only[PyData.shown]at fin hz;exact PySem.P.repr_of_none (fin _)
        | bool b =>
         simp only[PyData.shown]at fin hz;exact PySem.P.repr_of_bool (fin _)
        | int i t =>
         simp only[PyData.shown]at fin hz;exact PySem.P.repr_of_int (by simpa[PyData.showable]using hs) (fin _)
        | str y t =>
         simp only[PyData.shown]at fin hz;exact PySem.P.repr_of_str (fin _) hz
        | list h1 h2 h3 h4=>exact repr_of_reads' (Reads.list h1 h2 h3 h4) hs (λ_=>hsm) hr.gd (by omega) (λ_ _ e=>e) hq' hz
        | tuple h1 h2 h3 h4=>exact repr_of_reads' (Reads.tuple h1 h2 h3 h4) hs (λ_=>hsm) hr.gd (by omega) (λ_ _ e=>e) hq' hz
        | dict h1 h2 h3 h4 h5=>exact repr_of_reads' (Reads.dict h1 h2 h3 h4 h5) hs (λ_=>hsm) hr.gd (by omega) (λ_ _ e=>e) hq' hz
     . exact q.elim
   . exact q.elim
 . exact q.elim
end
structure EDef where
 c:Str
 n:Str
 name:Str
 qual:Str
 params:Arguments
 body:List Stmt
 sc:Scope
abbrev EW:Type:=Option (Str×Str×Arguments×FuncBody×Scope×Addr×List Str×Addr)
def zno(K:oU)(c:Str):Addr:=He.ma K (He.ga K c) "__init__"
def ew(K:oU)(c:Str):EW:=match K.lookup (zno K c)with
 | some ⟨_,_,.func fd,_⟩=>some (fd.name,fd.qualname,fd.params,fd.body,fd.scope,fd.globals,fd.closure.map (·.1),fd.builtins)
 | _=>none
def EDef.val(d:EDef):EW:=some (d.name,d.qual,d.params,.stmts d.body,d.sc,mainGlobals,["__class__"],builtinsNs)
def ztp(K:oU)(C:Addr):Bool:=match K.lookup C with
 | some ⟨.type t,_,.cls cd,sl⟩=>(match cd.mro,sl.toList with
  | .ref C'::bm,[_,_,_,_,some (.builtin i),_]=>decide (t="type")&&(decide (C'=C)&&(decide (i="ValueError.__new__")&&(!cd.hasDel&&(cd.hasDict&&PySem.HandSPX.refsVE bm))))
  | _,_=>false)
 | _=>false
theorem zpl{K:oU}{C:Addr}(h:ztp K C=true):∃ nm q N bs bm sn sub ab col dd k0 k1 k2 k3 k5,K.lookup C=some (excClassObj nm q C N bs bm true sn sub ab col dd k0 k1 k2 k3 k5 "ValueError.__new__")/\PySem.HandSPX.refsVE bm=true:=by
 unfold ztp at h;split at h
 . rename_i t dd cd sl ho;split at h
   . rename_i C' bm k0 k1 k2 k3 i k5 hm hs;obtain⟨a1,h⟩:=He.ba h;obtain⟨a2,h⟩:=He.ba h;obtain⟨a3,h⟩:=He.ba h;obtain⟨a4,h⟩:=He.ba h;obtain⟨a5,a6⟩:=He.ba h;obtain rfl:=of_decide_eq_true a1;obtain rfl:=of_decide_eq_true a2;obtain rfl:=of_decide_eq_true a3;obtain⟨nm,bs,mro,ns,qn,hd,sn,sub,ab,col,del⟩:=cd
     have a4:del=false:=by cases del <;> simp_all
     have a5:hd=true:=a5;have hm:mro=.ref C'::bm:=hm;subst a4 a5 hm
     have hsl:sl=#[k0,k1,k2,k3,some (.builtin "ValueError.__new__"),k5]:=by
      obtain⟨l⟩:=sl;have hs:l=_:=hs;rw[hs]
     rw[hsl]at ho;exact⟨nm,qn,ns,bs,bm,sn,sub,ab,col,dd,k0,k1,k2,k3,k5,ho,a6⟩
   . cases h
 . cases h
def zqC(mf:Str)(K:oU)(a:Addr):Bool:=match K.lookup a with
 | some ⟨_,_,.fields vs,_⟩=>(match (vs[2]?:Option Value)with
  | some (Value.str file _)=>mf == file
  | _=>false)
 | _=>false
def zqo(K:oU)(cc C:Addr):Bool:=match K.lookup cc with
 | some ⟨_,_,.cell (some (.ref D)),_⟩=>decide (D=C)
 | _=>false
def zub(mf:Str)(K:oU)(c q:Str):Bool:=match K.lookup (zno K c)with
 | some ⟨_,_,.func fd,_⟩=>(match fd.code,fd.closure with
  | .ref cda,[(_,cc)]=>PySem.W.codeIn K (.ref cda) q&&(zqC mf K cda&&(zqo K cc (He.ga K c)&&He.dflB K fd.defaults [.non]))
  | _,_=>false)
 | _=>false
def zqA(mf:Str)(K:oU)(d:EDef):Bool :=
 (He.Fa.glo d.c).ok K&&(ztp K (He.ga K d.c)&&(He.eqO (PySem.W.findIn K (.ref (He.ga K d.c)) "__setattr__") (some (some (.builtin "object.__setattr__"))) &&
 (decide (PySem.W.subIn K (.ref (He.ga K d.c)) (.type "BaseException")=some true)&&(decide (PySem.W.typeIn K (.ref (He.ga K d.c))=some (.type "type"))&&(PySem.W.keepIn K (.ref (He.ga K d.c)) &&
 (zub mf K d.c d.qual&&(decide (PySem.W.mroIn K (He.ga K d.c) (.ref (He.ga K d.c))=some true)&&(He.eqO (PySem.W.ks_superIn K (He.ga K d.c) (He.ga K d.c) "__init__") (some (some (.builtin "ValueError.__init__"))) &&
 (decide (PySem.W.subIn K (.ref (He.ga K d.c)) (.type "ValueError")=some true)&&(He.eqO (PySem.W.nsIn K cStatics "thirdparty.any") (some none)&&(He.eqO (PySem.W.findIn K (.ref (He.ga K d.c)) d.n) (some none) &&
 (He.eqO (PySem.W.findIn K (.ref (He.ga K d.c)) "__init__") (some (some (.ref (zno K d.c))))&&(decide (PySem.W.typeIn K (.ref (zno K d.c))=some (.type "function"))&&xfB K (He.ga K d.c))))))))))))))
theorem zou{P:Program}{mf:Str}{K:oU}{mg:Str->Option Value}{d:EDef}(e:ew K d.c=d.val)(h:zqA mf K d=true)(hmf:P.main.file=mf)(top:(P.main.scope.names.lookup ("super":Str)).isSome=false)(ms:mg "super"=none)(sc:EScope d.n d.sc)(hp:∃ ar,(d.params.posonlyargs++d.params.args).head?=some ar/\ar.arg=("self":Str)) :
   ∃ cda cc fd,ErrK P K mg d.n d.qual d.sc d.body (He.ga K d.c) (zno K d.c) cda cc fd/\PySem.W.findIn K (.ref (He.ga K d.c)) "__init__"=some (some (.ref (zno K d.c)))/\PySem.W.typeIn K (.ref (zno K d.c))=some (.type "function")/\XfC K (He.ga K d.c)/\(He.Fa.glo d.c).ok K=true /\
     ∃ dV kV doc pm an ct,fd=PySem.W.ksFn d.name d.qual d.params d.body d.sc dV kV doc pm an (.ref cda) ct cc/\DflV K dV [.non]:=by
 unfold zqA at h;obtain⟨a1,h⟩:=He.ba h;obtain⟨a2,h⟩:=He.ba h;obtain⟨a3,h⟩:=He.ba h;obtain⟨a4,h⟩:=He.ba h;obtain⟨a5,h⟩:=He.ba h;obtain⟨a6,h⟩:=He.ba h;obtain⟨a7,h⟩:=He.ba h;obtain⟨a8,h⟩:=He.ba h;obtain⟨a9,h⟩:=He.ba h;obtain⟨b1,h⟩:=He.ba h;obtain⟨b2,h⟩:=He.ba h;obtain⟨b3,h⟩:=He.ba h;obtain⟨b4,h⟩:=He.ba h;obtain⟨b5,b6⟩:=He.ba h;unfold zub at a7;unfold ew at e;split at a7
 . rename_i oc od fd osl ho;rw[ho]at e;split at a7
   . rename_i cda nm cc h1 h2;obtain⟨c1,c2⟩:=He.ba a7;obtain⟨c3,cz⟩:=He.ba c2;obtain⟨c4,c5⟩:=He.ba cz;obtain⟨n1,n2,n3,n4,n5,n6,n7,n8,n9,n10,n11,n12,n13,n14,n15⟩:=fd;have e2:(some (n1,n2,n3,n4,n5,n6,n7.map (·.1),n15):EW)=some (d.name,d.qual,d.params,FuncBody.stmts d.body,d.sc,mainGlobals,[("__class__":Str)],builtinsNs):=e;have h1:n13=.ref cda:=h1;have h2:n7=[(nm,cc)]:=h2;subst h1 h2;simp only[Option.some.injEq,Prod.mk.injEq,tK,qu,List.cons.injEq,and_true]at e2;obtain⟨r1,r2,r3,r4,r5,r6,r7,r8⟩:=e2;subst r6 r8 r7;refine⟨cda,cc,PySem.W.ksFn d.name d.qual d.params d.body d.sc n8 n9 n10 n11 n12 (.ref cda) n14 cc,⟨⟨_,_,n8,n9,n10,n11,n12,n14,rfl,hp⟩,⟨oc,od,osl,?_⟩,c1,?_,?_,⟨zpl a2,He.eqO_ok a3,of_decide_eq_true a4,of_decide_eq_true a5,a6⟩,of_decide_eq_true a8,He.eqO_ok a9,of_decide_eq_true b1,He.eqO_ok b2,ms,top,He.eqO_ok b3,sc⟩,He.eqO_ok b4,of_decide_eq_true b5,xfB_ok b6,a1,n8,n9,n10,n11,n12,n14,rfl,He.dflB_ok c5⟩
     . rw[ho,r1,r2,r3,r4,r5]
     . unfold zqC at c3;split at c3
       . rename_i x1 x2 vs x3 hk;split at c3
         . rename_i file tf hv;exact⟨_,_,vs,_,file,tf,hk,hv,by rw[hmf];exact c3⟩
         . cases c3
       . cases c3
     . unfold zqo at c4;split at c4
       . rename_i x1 x2 D x3 hk;obtain rfl:=of_decide_eq_true c4;exact⟨_,_,_,hk⟩
       . cases c4
   . cases a7
 . cases a7
def cm2(K:oU)(cs es:List Str)(wd:World):CM:=⟨(znj K cs).ins,λc=>if c∈es then some (He.ga K c)else none,some wd⟩
variable{wd:World}
theorem zfY{K:oU}{cs es:List Str}{c:Str}{C:Addr}(h:(cm2 K cs es wd).err c=some C):c∈es/\C=He.ga K c:=by
 unfold cm2 at h;dsimp only at h;split at h
 . rename_i hc;cases h;exact⟨hc,rfl⟩
 . cases h
theorem zni{K:oU}{cs es:List Str}{c:Str}(h:c∈es):(cm2 K cs es wd).err c=some (He.ga K c):=if_pos h
def zoy(K:oU)(D:Addr):Bool :=
 He.eqO (PySem.W.findIn K (.ref D) "__getattribute__") (some (some (.builtin "BaseException.__getattribute__")))&&(He.eqO (PySem.W.findIn K (.ref D) "__getattr__") (some none) &&
 (decide (PySem.W.subIn K (.ref D) (.type "BaseException")=some true)&&(PySem.W.hasDictIn K D&&(He.eqO (PySem.W.findIn K (.ref D) "__class__") (some (some (.builtin "object.__class__"))) &&
 (He.eqO (PySem.W.specialIn K (.builtin "object.__class__") "__get__") (some (some (.builtin "getset_descriptor.__get__")))&&(decide (PySem.W.takesIn K (.builtin "object.__class__")=some true)&&decide (PySem.W.mroIn K D (.type "object")=some true)))))))
theorem zlO{K:oU}{D:Addr}(h:zoy K D=true):ExcC K D:=by
 unfold zoy at h;obtain⟨a1,h⟩:=He.ba h;obtain⟨a2,h⟩:=He.ba h;obtain⟨a3,h⟩:=He.ba h;obtain⟨a4,h⟩:=He.ba h;obtain⟨a5,h⟩:=He.ba h;obtain⟨a6,h⟩:=He.ba h;obtain⟨a7,a8⟩:=He.ba h;exact⟨He.eqO_ok a1,He.eqO_ok a2,of_decide_eq_true a3,a4,He.eqO_ok a5,He.eqO_ok a6,of_decide_eq_true a7,of_decide_eq_true a8⟩
def zua(es:List Str)(isx cat:List (Str×List Str))(flds:List Str)(K:oU):Bool :=
 (es.all λc=>zoy K (He.ga K c)&&(xfB K (He.ga K c)&&flds.all λf=>He.eqO (PySem.W.findIn K (.ref (He.ga K c)) f) (some none))) &&
 ((isx.all λx=>(He.Fa.glo x.1).ok K&&es.all λc=>zrk K (He.ga K c) (He.ga K x.1) (x.2.contains c)) &&
 (cat.all λx=>(He.Fa.glo x.1).ok K&&es.all λc=>decide (PySem.W.exmOne K (.ref (He.ga K c)) (.ref (He.ga K x.1))=some (x.2.contains c))))
section
variable{K:oU}{cs es:List Str}{isx cat:List (Str×List Str)}{flds:List Str}{h:Heap}{mg:Str->Option Value}
structure Ex2Ok(es:List Str)(isx cat:List (Str×List Str))(flds:List Str)(K:oU):Prop where
 ok:zua es isx cat flds K=true
theorem Ex2Ok.c1(e:Ex2Ok es isx cat flds K){c:Str}(hc:c∈es):ExcC K (He.ga K c)/\XfC K (He.ga K c)/\∀ f∈flds,PySem.W.findIn K (.ref (He.ga K c)) f=some none:=by
 obtain⟨h1,_⟩:=He.ba e.ok;have h2:=sH.mp h1 c hc;obtain⟨a1,h2⟩:=He.ba h2;obtain⟨a2,a3⟩:=He.ba h2;exact⟨zlO a1,xfB_ok a2,λf hf=>He.eqO_ok (sH.mp a3 f hf)⟩
theorem zqD(e:Ex2Ok es isx cat flds K){f:Str}(hf:f∈flds)(T:FldOk K (znj K cs) f):FldOk K (cm2 K cs es wd) f :=
 ⟨T.ins,λc C hC=>by
  obtain⟨hc,rfl⟩:=zfY hC;obtain⟨_,a,b⟩:=e.c1 hc
  exact⟨a,b f hf⟩⟩
theorem is2(e:Ex2Ok es isx cat flds K)(X:K.In h)(G:h.Ns mainGlobals mg){x:Str}{sub:List Str}(hx:(x,sub)∈isx)(T:IsCF K (znj K cs) mg x sub):IsCJ K (cm2 K cs es wd) mg x sub:=by
 obtain⟨_,h1⟩:=He.ba e.ok;obtain⟨h1,_⟩:=He.ba h1;have h2:=sH.mp h1 _ hx;obtain⟨a1,a2⟩:=He.ba h2;obtain⟨A,hA,hp,hi⟩:=T.ex;have hg:=He.glo_ok X G a1;rw[hA]at hg;cases hg;refine⟨_,hA,hp,hi,λc C hC=>?_⟩;obtain⟨hc,rfl⟩:=zfY hC;exact⟨(e.c1 hc).1,of_decide_eq_true (sH.mp a2 c hc)⟩
theorem zuF(e:Ex2Ok es isx cat flds K)(X:K.In h)(G:h.Ns mainGlobals mg){x:Str}{sub:List Str}(hx:(x,sub)∈cat):CatAt K (cm2 K cs es wd) mg x sub:=by
 obtain⟨_,h1⟩:=He.ba e.ok;obtain⟨_,h1⟩:=He.ba h1;have h2:=sH.mp h1 _ hx;obtain⟨a1,a2⟩:=He.ba h2;refine⟨_,He.glo_ok X G a1,λc C hC=>?_⟩;obtain⟨hc,rfl⟩:=zfY hC;exact of_decide_eq_true (sH.mp a2 c hc)
end
section
variable{K:oU}{cs:List Str}{isx:List (Str×List Str)}{eqs flds:List Str}{ms:List (Str×Str)}{h:Heap}{mg:Str->Option Value}{P:Program}{w:World}{base:Heap}{k:Nat}{fd:FuncData}{ps:List Str}{np nn:Nat}{b:C}{dfls:List (List D)}{cm:CM}
theorem zck(e:ExOk cs isx eqs flds ms K){c m:Str}(hcm:cm.ins c=some (He.ga K c))(G:FnG P w K mg base k (He.ma K (He.ga K c) m) fd ps (spD K cm np (yg np nn b)))(hb:∀ dl∈dfls,BindD K fd ps dl)(hc:c∈cs)(hm:(c,m)∈ms):MtAt P w K mg base cm k c m (yg np nn b) dfls :=
 ⟨_,_,hcm,(e.c1 hc).1,e.meth hm,np,fd,ps,G,zan,hb⟩
theorem zqY(e:ExOk cs isx eqs flds ms K)(X:K.In h)(N:h.Ns mainGlobals mg){c:Str}(hcm:cm.ins c=some (He.ga K c))(G:FnG P w K mg base k (He.ma K (He.ga K c) "__init__") fd ps (spD K cm np (yg np nn b)))(hb:∀ dl∈dfls,BindD K fd ps dl)(hc:c∈cs):MkAt P w K mg base cm k c (yg np nn b) dfls :=
 ⟨_,_,hcm,(e.c1 hc).2.1,He.glo_ok X N (e.c1 hc).2.2.1,np,fd,ps,G,zan,hb⟩
end
section
variable{K:oU}{cm:CM}{h:Heap}{mg:Str->Option Value}{P:Program}{w:World}{base:Heap}{k:Nat}{n qual:Str}{sc:Scope}{p0 p1 pa pn pc pe q1 q2 q3 q4:Pos}
theorem zsG{name qual:Str}{params:Arguments}{body:List Stmt}{sc:Scope}{cda cc:Addr}{dV kV doc pm ct:Value}{an:Option Addr}{ps:List Str}{dvs:List V}{dl:List D}(m j:Nat)(hD:DflV K dV dvs)(hne:dvs≠[])(hm:m+(dvs.length - j)=ps.length)(hdl:∀ p H,RVs K p H dl (dvs.drop j))
   (hb:∀(T:Addr) (us its:List Value),us.length=m->its.length=dvs.length->∃ k,bindArgs (PySem.W.ksFn name qual params body sc (.ref T) kV doc pm an (.ref cda) ct cc) ⟨us,[]⟩=seqItems? (.ref T) >>= k/\k (some its.toArray)=pure (ps.zip (us++its.drop j))) :
   BindD K (PySem.W.ksFn name qual params body sc dV kV doc pm an (.ref cda) ct cc) ps dl:=by
 rcases hD with ⟨z,_⟩ | ⟨_,T,o,its,q,rfl,lT,oT,rT⟩
 . exact absurd z hne
 . refine⟨its.drop j,dvs.drop j,rT.drop j,λs us KI hl=>?_,hdl⟩;have li:its.length=dvs.length:=rT.length.symm
   have lu:us.length=m:=by
    have z:us.length+(its.drop j).length=ps.length:=by rw[← qG];exact hl
    rw[List.length_drop,li]at z;omega
   obtain⟨k,z1,z2⟩:=hb T us its lu li;refine BindsTo.of_looks λM=>?_;rw[z1];exact looks_items KI lT oT (.of_pure z2)
theorem zlM{mf:Str}{d:EDef}(X:K.In h)(G:h.Ns mainGlobals mg)(hcm:cm.err d.c=some (He.ga K d.c))(hd:d.body=zjy d.n p0 p1 pa pn pc pe q1 q2 q3 q4)(e:ew K d.c=d.val)(he:zqA mf K d=true)(hmf:P.main.file=mf)(top:(P.main.scope.names.lookup ("super":Str)).isSome=false)(ms:mg "super"=none)(sc:EScope d.n d.sc)
  (hp:∃ ar,(d.params.posonlyargs++d.params.args).head?=some ar/\ar.arg=("self":Str)) (t:EText d.n d.qual d.sc p0 p1 pa pn pc pe q1 q2 q3 q4)
  (hb:∀(kV doc pm ct:Value) (an:Option Addr) (cda cc T:Addr) (us its:List Value),us.length=2->its.length=1->∃ k,bindArgs (PySem.W.ksFn d.name d.qual d.params d.body d.sc (.ref T) kV doc pm an (.ref cda) ct cc) ⟨us,[]⟩=seqItems? (.ref T) >>= k/\k (some its.toArray)=pure ((["self",d.n]:List Str).zip (us++its.drop 1))) :
  ErrAt P w K mg base cm (k+1) d.c d.n [[]]:=by
 obtain⟨cda,cc,fd,ek,hi,ht,_,hg,dV,kV,doc,pm,an,ct,rfl,hD⟩:=zou e he hmf top ms sc hp;have F:FnG P w K mg base (k+1) (zno K d.c) _ ["self",d.n] (znP (He.ga K d.c) d.n):=zqB (by rw[← hd];exact ek) t;exact⟨_,_,_,hcm,He.glo_ok X G hg,ek.T,F,hi,ht,zod (zsG 2 1 hD (by simp) rfl (λp H=>by simp[RVs]) λT us its h1 h2=>hb kV doc pm ct an cda cc T us its h1 h2)⟩
end
abbrev AlE:Type:=(He.AlD×Bool)×List EW
def ztG(K:oU):Bool:=match K.lookup sysModules with
 | some ⟨.type c,_,_,_⟩=>decide (c="dict")
 | _=>false
theorem zpS{K:oU}(h:ztG K=true):SysOk K:=by
 unfold ztG at h;split at h
 . rename_i c d dt sl ho;exact⟨_,ho,by rw[of_decide_eq_true h]⟩
 . cases h
theorem zsK{K:oU}{es:List EDef}(h:(es.map λd=>ew K d.c)=es.map EDef.val){d:EDef}(hd:d∈es):ew K d.c=d.val:=by
 obtain⟨i,hi,rfl⟩:=qd.mp hd
 have z:(es.map λd=>ew K d.c)[i]?=(es.map EDef.val)[i]?:=by rw[h]
 simpa[tU,tQ hi]using z
end Fc
namespace Fc
open PySem
theorem zsL{K:oU}{es:List EDef}(h:(es.map λd=>ew K d.c)=es.map EDef.val)(i:Nat){d:EDef}(hd:es[i]?=some d:=by rfl):ew K d.c=d.val:=zsK h (rH hd)
theorem zng{α:Type}{p:α->Bool}{l:List α}(h:l.all p=true)(i:Nat){d:α}(hd:l[i]?=some d:=by rfl):p d=true:=sH.mp h d (rH hd)
theorem xY{K:oU}{cs es:List Str}{wd:World}{c:Str}(h:c∈cs):(cm2 K cs es wd).ins c=some (He.ga K c):=zsI h
end Fc
namespace Fc
open PySem PySem.Spec PyProof.Rows L2
def zto(as:List Addr)(fa:List He.Fa)(fn:List He.DefD)(es:List EDef)(ex:oU->Bool)(g:Addr->Option Obj):AlE:=((He.obsD fa fn (He.frG g as),ex (He.frG g as)),es.map λd=>ew (He.frG g as) d.c)
def zqH(as:List Addr)(fa:List He.Fa)(fn:List He.DefD)(es:List EDef)(ex:oU->Bool):PySem.W.Hook where
 α:=AlE
 obs:=λs=>zto as fa fn es ex s.heap.get?
 val:=λ_=>((He.valD fn,true),es.map EDef.val)
 says:=λ_ h=>∃ K:oU,K.In h/\He.SaysD fa fn K/\ex K=true/\(es.map λd=>ew K d.c)=es.map EDef.val
 of:=λ_ _ e=>⟨_,He.frG_in,congrArg (λz:AlE=>z.1.1) e,congrArg (λz:AlE=>z.1.2) e,congrArg (λz:AlE=>z.2) e⟩
 keeps:=λ_ _ _ ⟨K,hK,c⟩ k=>⟨K,PySem.W.Frag.In.keeps hK k,c⟩
theorem zpk{as:List Addr}{fa:List He.Fa}{fn:List He.DefD}{es:List EDef}{ex:oU->Bool}{g:Addr->Option Obj}{s:Shared}(h:∀ a,g a=s.heap.get? a):zto as fa fn es ex g=(zqH as fa fn es ex).obs s:=by
 have e:g=s.heap.get?:=funext h;rw[e] <;> rfl
abbrev De(x:Str)(d:Stmt):He.DefD:=⟨(x,none),x,x,defArgs d,defBody d,defScope d,[],[]⟩
def uW:List D->Option (List (L2.Key×D))
 | []=>some []
 | .tup [k,v]::r=>match keyOf k,uW r with
  | some k,some ps=>some ((k,v)::ps)
  | _,_=>none
 | _::_=>none
def jj(a:List (L2.Key×D)):List (L2.Key×D)->List (L2.Key×D)
 | []=>a
 | (k,v)::r=>jj (kput a k v) r
def jh:List D->M D:=λxs s=>match xs with
 | [.ref n]=>match yu s n with
  | some ds=>match uW ds with
   | some kvs=>new (.dK (jj [] kvs)) s
   | none=>none
  | none=>none
 | _=>none
section
variable{X:Cx}{cm:CM}{W:WX}{p:List Addr}{H:Hp}{s:S}
theorem zft{K:oU}:∀{ds:List D}{kvs:List (L2.Key×D)}{vs:List V},uW ds=some kvs->RVs K p H ds vs->∃(ps:List Addr) (ws:List (L2.Key×V)),vs=ps.map V.ref/\Paired (λp kv=>SqT K H p [kV kv.1,kv.2]) ps ws/\RKs K p H kvs ws
 | [],kvs,vs,h,r=>by
  simp only[uW]at h;cases h;simp only[RVs]at r;subst r;exact⟨[],[],rfl,.nil,by simp[RKs]⟩
 | d::ds,kvs,vs,h,r=>by
  simp only[RVs]at r;obtain⟨v,r',rfl,r1,r2⟩:=r;unfold uW at h;split at h
  . rename_i hd;cases hd
  . rename_i k x ds' hd;cases hd;split at h
    . rename_i k' ps' e1 e2;cases h;obtain⟨ps,ws,rfl,pr,rk⟩:=zft e2 r2;obtain⟨a,us,rfl,ha,q⟩:=xV r1;simp only[RVs]at q;obtain⟨u1,r3,rfl,q1,u2,r4,rfl,q2,rfl⟩:=q;obtain rfl:=zfe e1 q1;refine⟨a::ps,(k',u2)::ws,rfl,.cons (SqT.of ha) pr,?_⟩;simp only[RKs];exact⟨u2,ws,rfl,q2,rk⟩
    . cases h
  . cases h
theorem zfj{K:oU}:∀{kvs:List (L2.Key×D)}{ws:List (L2.Key×V)}{a:List (L2.Key×D)}{b:List (L2.Key×V)},RKs K p H kvs ws->RKs K p H a b->RKs K p H (jj a kvs) (L2.mergeK b ws)
 | [],ws,a,b,r,r0=>by
  simp only[RKs]at r;subst r;exact r0
 | (k,d)::kvs,ws,a,b,r,r0=>by
  simp only[RKs]at r;obtain⟨v,r',rfl,r1,r2⟩:=r;show RKs K p H (jj (kput a k d) kvs) (L2.mergeK (L2.putK b k v) r');exact zfj r2 (r0.putK k r1)
theorem s_dictP(hc:X.calm=true):SN X cm (.type "dict") jh:=by
 refine⟨_,call_dictP hc,λW p s σ H xs ds Q rs rv q=>?_⟩;unfold jh at q;split at q
 . rename_i n;obtain⟨x,rfl,rx⟩:=wN rv;split at q
   . rename_i es hl;split at q
     . rename_i kvs hp
       have hn:s[n]?=some (.lst es):=by
        unfold yu at hl;split at hl
        . rename_i e hh;cases hl;exact hh
        . cases hl
       obtain⟨t,vs,rfl,_,h1,rr⟩:=yw rs rx hn;obtain⟨ps,ws,rfl,pr,rk⟩:=zft hp rr;refine⟨t,ps,ws,rfl,SqL.of h1,pr,λa ha=>?_⟩;have rm:RKs X.K p H (jj [] kvs) (L2.mergeK [] ws):=zfj rk (by simp[RKs]);obtain⟨f,rs',e⟩:=rs.new (o:=.dK (jj [] kvs)) (u:=.dK (L2.mergeK [] ws)) ha ⟨_,rfl,rm⟩;exact q _ _ _ f rs' (wW e)
     . exact q.elim
   . exact q.elim
 . exact q.elim
end
def vO:List (L2.Key×D)->Option (List Str)
 | []=>some []
 | (.inr x,_)::r=>(vO r).map (x::·)
 | (.inl _,_)::_=>none
def SortU(ks ys:List Str):Prop:=ys.Perm ks/\sortedS ys=true/\∀ zs:List Str,zs.Perm ks->sortedS zs=true->zs=ys
open Classical in
noncomputable def zai(ks:List Str):Option (List Str):=if h:∃ ys,SortU ks ys then some (choose h)else none
theorem ziV{ks ys:List Str}(h:zai ks=some ys):SortU ks ys:=by
 unfold zai at h;split at h
 . rename_i hh;cases h;exact pX hh
 . cases h
theorem ziU{ks ys:List Str}(h:SortU ks ys):zai ks=some ys:=by
 unfold zai
 have hh:∃ ys,SortU ks ys:=⟨ys,h⟩
 rw[dif_pos hh];have z:=pX hh;rw[h.2.2 _ z.1 z.2.1]
noncomputable def vB:List D->M D:=λxs s=>match xs with
 | [.ref n]=>match s[n]? with
  | some (.dK kvs)=>match vO kvs with
   | some ks=>if ks.length<64 then match zai ks with
     | some ys=>new (.lst (ys.map .str)) s
     | none=>none
    else none
   | none=>none
  | _=>none
 | _=>none
theorem zdL{K:oU}{p:List Addr}{H:Hp}:∀{kvs:List (L2.Key×D)}{ks:List Str}{ws:List (L2.Key×V)},vO kvs=some ks->RKs K p H kvs ws->ws.map (·.1)=ks.map Sum.inr
 | [],ks,ws,h,r=>by
  simp only[vO]at h;cases h;simp only[RKs]at r;subst r;rfl
 | (.inr x,d)::kvs,ks,ws,h,r=>by
  simp only[vO,tW]at h;obtain⟨ks',h,rfl⟩:=h;simp only[RKs]at r;obtain⟨v,r',rfl,_,r2⟩:=r;simp[zdL h r2]
 | (.inl i,d)::kvs,ks,ws,h,r=>by simp only[vO]at h;cases h
theorem zih{K:oU}{p:List Addr}{H:Hp}:∀ ys:List Str,RVs K p H (ys.map .str) (ys.map V.str)
 | []=>by simp[RVs]
 | y::ys=>by
  simp only[tK,RVs];exact⟨_,_,rfl,km y,zih ys⟩
theorem s_sortedD{X:Cx}{cm:CM}(hc:X.calm=true):SN X cm (.builtin "sorted") vB:=by
 refine⟨_,call_sortedD hc,λW p s σ H xs ds Q rs rv q=>?_⟩;unfold vB at q;split at q
 . rename_i n;obtain⟨x,rfl,rx⟩:=wN rv;split at q
   . rename_i kvs hn;split at q
     . rename_i ks hk;split at q
       . rename_i h64;split at q
         . rename_i ys hy;simp only[RV]at rx;obtain⟨t,ht,rfl⟩:=rx;obtain⟨t',ht',u,h1,ws,rfl,rk⟩:=rs.at hn;rw[ht]at ht';cases ht';refine⟨t,ws,ks,rfl,.inl h1,zdL hk rk,h64,λzs a z1 z2 ha=>?_⟩;rw[(ziV hy).2.2 zs z1 z2];exact Po.newl q rs (zih ys) ha
         . exact q.elim
       . exact q.elim
     . exact q.elim
   . exact q.elim
 . exact q.elim
section
variable{K:oU}{P:Program}{w:World}{H:Hp}{h:Heap}{p:List Addr}
mutual
theorem znz(ok:HOk P w H h):∀(d:D) {k:NestedKey}{v:V}{u:Value},nkey d=some k->RV K p H d v->RelV v u->NestedIs h k u
 | .non,k,v,u,e,r,ru=>by
  simp only[nkey]at e;cases e;cases zbs r;cases ru;exact .none
 | .bl b,k,v,u,e,r,ru=>by
  simp only[nkey]at e;cases e;cases zaJ r;cases ru;exact .bool rfl
 | .int i,k,v,u,e,r,ru=>by
  simp only[nkey]at e;cases e;cases yz r;obtain⟨t,rfl⟩:=ru;exact .int i t
 | .str x,k,v,u,e,r,ru=>by
  simp only[nkey]at e;cases e;cases wQ r;obtain⟨t,rfl⟩:=ru;exact .text x t
 | .tup ds,k,v,u,e,r,ru=>by
  simp only[nkey,tW]at e;obtain⟨ks,e,rfl⟩:=e;obtain⟨a,vs,rfl,ht,q⟩:=xV r;cases ru
  obtain⟨_,its,rr,o,h1,h2,n,h3⟩:=(show ObjOk P w H h a (.tup vs)from ok a _ ht)
  exact .tup h1 h2 h3 (by simpa using zkm ok ds e q rr)
 | .rol ds,k,v,u,e,r,ru=>by simp only[nkey]at e;cases e
 | .stu ds,k,v,u,e,r,ru=>by simp only[nkey]at e;cases e
 | .ref n,k,v,u,e,r,ru=>by simp only[nkey]at e;cases e
theorem zkm(ok:HOk P w H h):∀(ds:List D) {ks:List NestedKey}{vs:List V}{us:List Value},nkeys ds=some ks->RVs K p H ds vs->Vals vs us->NestedAll h ks us
 | [],ks,vs,us,e,r,ru=>by
  simp only[nkeys]at e;cases e;simp only[RVs]at r;subst r;cases ru;exact .nil
 | d::ds,ks,vs,us,e,r,ru=>by
  simp only[nkeys]at e;simp only[RVs]at r;obtain⟨v,r',rfl,r1,r2⟩:=r
  cases ru with
  | cons ra rb =>
   split at e
   . rename_i k ks' e1 e2;cases e;exact .cons (znz ok d e1 r1 ra) (zkm ok ds e2 r2 rb)
   . cases e
end
theorem zre{d:D}{k:NestedKey}(e:nkT d=some k):nkey d=some k/\k.depth<=8:=by
 unfold nkT at e;split at e
 . rename_i ds;split at e
   . rename_i ks e1;split at e
     . rename_i hd;cases e;exact⟨by simp only[nkey,e1,sE],hd⟩
     . cases e
   . cases e
 . cases e
theorem znA{d:D}{k:NestedKey}{v:V}(e:nkT d=some k)(r:RV K p H d v):∃ b,v=.ref b:=by
 cases d with
 | tup ds=>obtain⟨a,vs,rfl,_⟩:=xV r;exact⟨a,rfl⟩
 | _=>simp[nkT]at e
theorem zhS(ok:HOk P w H h){d:D}{k:NestedKey}{b:Addr}(e:nkT d=some k)(r:RV K p H d (.ref b)):(nestedKind P w).is h k b:=by
 obtain⟨e1,e2⟩:=zre e;exact⟨znz ok d e1 r rfl,e2⟩
theorem znH(ok:HOk P w H h):∀{kvs:List (D×D)}{xs:List (NestedKey×Addr×Value)},RN K p H kvs xs->∀ x∈xs,(nestedKind P w).is h x.1 x.2.1
 | [],xs,r,x,hx=>by
  simp only[RN]at r;subst r;simp at hx
 | kv::kvs,xs,r,x,hx=>by
  simp only[RN]at r;obtain⟨k,b,v,u,ys,rfl,e1,r1,r2,r3,r4⟩:=r
  rcases tR.mp hx with rfl | hx
  . exact zhS ok e1 r1
  . exact znH ok r4 x hx
theorem RN.length:∀{kvs:List (D×D)}{xs:List (NestedKey×Addr×Value)},RN K p H kvs xs->kvs.length=xs.length
 | [],xs,r=>by simp only[RN]at r;subst r;rfl
 | kv::kvs,xs,r=>by
  simp only[RN]at r;obtain⟨k,b,v,u,ys,rfl,e1,r1,r2,r3,r4⟩:=r;simp[RN.length r4]
theorem zkp(ok:HOk P w H h){a:Addr}{kvs:List (D×D)}{xs:List (NestedKey×Addr×Value)}(e:Rd H a (NdO w a xs))(r:RN K p H kvs xs) :
  xs.length<=sizeLine/\(a == sysModules)=false/\h.DictOfH (nestedKind P w) a xs:=by
 obtain⟨⟨o,es,ep,h1,h2,h3,h4,h5,h6,h7⟩,_⟩:=(show ObjOk P w H h a (NdO w a xs)from e.ok ok)
 exact⟨h7,h6,o,es,ep,h1,h2,h3,h4,znH ok r,h5⟩
theorem zny{P:Program}{w:World}{H':Hp}{h':Heap}{a:Addr}{xs:List (NestedKey×Addr×Value)}(z:xs.length<=sizeLine)(hd:(a == sysModules)=false)(dd:h'.DictOfH (nestedKind P w) a xs):ObjOk P w H' h' a (NdO w a xs):=by
 obtain⟨o,es,ep,h1,h2,h3,h4,_,h5⟩:=dd;exact⟨⟨o,es,ep,h1,h2,h3,h4,h5,hd,z⟩,⟨o,h1⟩,λg1 g2 ⟨o',es',ep',k1,k2,k3,k4,k5⟩ kk=>⟨o',es',ep',kk _ k1,k2,k3,k4,k5⟩⟩
def wD(kvs:List (D×D))(k:NestedKey):Option D:=(kvs.find? λkv=>decide (nkT kv.1=some k)).map (·.2)
def zee(kvs:List (D×D))(k:NestedKey)(y v:D):List (D×D) :=
 if (kvs.any λkv=>decide (nkT kv.1=some k))=true then kvs.map λkv=>if nkT kv.1=some k then (kv.1,v)else kv else kvs++[(y,v)]
theorem RN.get(k:NestedKey):∀{kvs:List (D×D)}{xs:List (NestedKey×Addr×Value)},RN K p H kvs xs ->
  (∀ d,wD kvs k=some d->∃ b v u,atKey xs k=some (b,u)/\RV K p H d v/\RelV v u)/\(wD kvs k=none->atKey xs k=none)
 | [],xs,r=>by
  simp only[RN]at r;subst r;exact⟨λd e=>by simp[wD]at e,λ_=>rfl⟩
 | kv::kvs,xs,r=>by
  simp only[RN]at r;obtain⟨k',b,v,u,ys,rfl,e1,r1,r2,r3,r4⟩:=r;have ih:=RN.get k r4;by_cases hk:k'=k
  . subst hk;refine⟨λd e=>?_,λe=>?_⟩
    . simp[wD,e1]at e;subst e;exact⟨b,v,u,by simp[atKey],r2,r3⟩
    . simp[wD,e1]at e
  . have n1:¬ (nkT kv.1=some k):=λz=>by rw[e1]at z;cases z;exact hk rfl
    refine⟨λd e=>?_,λe=>?_⟩
    . have e':wD kvs k=some d:=by simpa[wD,rQ,n1]using e
      obtain⟨b',v',u',q1,q2⟩:=ih.1 d e';exact⟨b',v',u',by simpa[atKey,rQ,hk]using q1,q2⟩
    . have e':wD kvs k=none:=by simpa[wD,rQ,n1]using e
      simpa[atKey,rQ,hk]using ih.2 e'
theorem RN.snoc{b:Addr}{v:V}{u:Value}{k:NestedKey}{y d:D}(hy:nkT y=some k)(ry:RV K p H y (.ref b))(rv:RV K p H d v)(ru:RelV v u):∀{kvs:List (D×D)}{xs:List (NestedKey×Addr×Value)},RN K p H kvs xs->RN K p H (kvs++[(y,d)]) (xs++[(k,b,u)])
 | [],xs,r=>by
  simp only[RN]at r;subst r;simp only[qP,RN];exact⟨k,b,v,u,[],rfl,hy,ry,rv,ru,rfl⟩
 | kv::kvs,xs,r=>by
  simp only[RN]at r;obtain⟨k',b',v',u',ys,rfl,e1,r1,r2,r3,r4⟩:=r;simp only[qQ,RN];exact⟨k',b',v',u',_,rfl,e1,r1,r2,r3,RN.snoc hy ry rv ru r4⟩
theorem RN.repl{v:V}{u:Value}{k:NestedKey}{d:D}(rv:RV K p H d v)(ru:RelV v u):∀{kvs:List (D×D)}{xs:List (NestedKey×Addr×Value)},RN K p H kvs xs->RN K p H (kvs.map λkv=>if nkT kv.1=some k then (kv.1,d)else kv) (xs.map (putAt k u))
 | [],xs,r=>by
  simp only[RN]at r;subst r;simp only[qu,RN]
 | kv::kvs,xs,r=>by
  simp only[RN]at r;obtain⟨k',b',v',u',ys,rfl,e1,r1,r2,r3,r4⟩:=r;have ih:=RN.repl (k:=k) rv ru r4;rw[tK,tK];by_cases hk:k'=k
  . subst hk;rw[if_pos e1];simp only[RN];exact⟨k',b',v,u,_,by rw[putAt,if_pos rfl],e1,r1,rv,ru,ih⟩
  . have n1:¬ (nkT kv.1=some k):=λz=>by rw[e1]at z;cases z;exact hk rfl
    rw[if_neg n1];simp only[RN];exact⟨k',b',v',u',_,by rw[putAt,if_neg hk],e1,r1,r2,r3,ih⟩
theorem RN.put{b:Addr}{v:V}{u:Value}{k:NestedKey}{y d:D}(hy:nkT y=some k)(ry:RV K p H y (.ref b))(rv:RV K p H d v)(ru:RelV v u){kvs:List (D×D)}{xs:List (NestedKey×Addr×Value)}(r:RN K p H kvs xs):RN K p H (zee kvs k y d) (storedH xs k b u):=by
 have g:=RN.get k r
 have key:wD kvs k=none↔(kvs.any λkv=>decide (nkT kv.1=some k))=false:=by
  unfold wD;rw[Option.map_eq_none_iff,pZ,qK]
 unfold zee
 cases e:wD kvs k with
 | none =>
  rw[key.mp e,if_neg (by simp),storedH_new (g.2 e)];exact RN.snoc hy ry rv ru r
 | some d' =>
  obtain⟨b',v',u',q,_⟩:=g.1 d' e
  have:(kvs.any λkv=>decide (nkT kv.1=some k))=true:=by
   cases z:kvs.any λkv=>decide (nkT kv.1=some k)with
   | true=>rfl
   | false=>rw[key.mpr z]at e;cases e
  rw[this,if_pos rfl,storedH_old q];exact RN.repl rv ru r
end
variable{cm:CM}{W:WX}
def zgq(s:S)(n:Nat):Option (List (D×D)):=match s[n]? with
 | some (.dN kvs)=>some kvs
 | some (.lck (.dN kvs))=>some kvs
 | _=>none
def jm(s:S)(x y:D):Option (Option D):=match x with
 | .ref n=>match zgq s n with
  | some kvs=>(nkT y).map λk=>wD kvs k
  | none=>none
 | _=>none
def zlC:D->D->M D:=zbA λs x y=>(jm s x y).bind id
def xJ:D->D->M D:=zbA λs y x=>(jm s x y).map λo=>.bl (!o.isSome)
def mDN:M D:=new (.dN [])
def ziy:List D->M D:=λxs s=>match xs with
 | [.ref n]=>(zgq s n).map λkvs=>.ok (.int kvs.length) s
 | _=>none
def uY(o i e:E):C:=λσ s=>ex σ (e σ s) λv s1=>ex σ (o σ s1) λx s2=>ex σ (i σ s2) λy s3=>match x with
 | .ref n=>match s3[n]? with
  | some (.dN kvs)=>if kvs.length<16777216 then (nkT y).map λk=>.nx σ (s3.set n (.dN (zee kvs k y v)))else none
  | _=>none
 | _=>none
def NG(K:oU)(w:World)(H:Hp)(a:Addr)(y:V)(r:Option V):Prop:=∃ p kvs xs dy k b,Rd H a (NdO w a xs)/\RN K p H kvs xs/\RV K p H dy y/\nkT dy=some k/\y=.ref b/\RelO r ((atKey xs k).map (·.2))
section
variable{X:Cx}{pins:List (Addr×Obj)}{σ:L2.St}{H:Hp}{s:Shared}{a:Addr}{y v:V}{u r:Value}{o:Option V}{A:Around}{E:Value->Shared->Prop}
theorem n_room(hu:A.units+9<cLine):(nestedKind X.prog X.w).room A.in1:=by
 show A.units+1+8<cLine;omega
theorem n_getItem{Q:Value->Shared->Prop}(hu:A.units+9<cLine)(I:Inv X pins σ H s)(g:NG X.K X.w H a y (some v))(ry:RelV y u)(h:∀ w' s',Inv X pins σ H s'->RelV v w'->Q w' s') :
  wpAny (model X.prog X.w) A (getItem (.ref a) u) Q E s:=by
 obtain⟨p,kvs,xs,dy,k,b,e,rn,rd,ek,rfl,l⟩:=g;cases ry;obtain⟨z,hd,dd⟩:=zkp I.hok e rn;obtain⟨w',hw,rw'⟩:=RelO.some_of l;obtain⟨q,hp,hp2⟩:=tW.mp hw;refine wpAny_getItem_heap (n_room hu) (zhS I.hok ek rd) dd hp ?_;rw[hp2];exact h w' _ (I.tok _) rw'
theorem zkT{o:Option V}{o':Option Value}(h:RelO o o'):o'.isSome=o.isSome:=by
 cases o <;> cases o' <;> simp[RelO]at h ⊢
theorem n_notIn{Q:Value->Shared->Prop}(hu:A.units+9<cLine)(I:Inv X pins σ H s)(g:NG X.K X.w H a y o)(ry:RelV y u)(h:∀ s',Inv X pins σ H s'->Q (.bool (!o.isSome)) s') :
  wpAny (model X.prog X.w) A (compareOp .NotIn u (.ref a)) Q E s:=by
 obtain⟨p,kvs,xs,dy,k,b,e,rn,rd,ek,rfl,l⟩:=g;cases ry;obtain⟨z,hd,dd⟩:=zkp I.hok e rn;refine wpAny_notIn_heap (n_room hu) (zhS I.hok ek rd) hd dd ?_;have q:=zkT l;rw[Option.isSome_map]at q;rw[q];exact h _ (I.tok _)
theorem n_setItem{p:List Addr}{kvs:List (D×D)}{xs:List (NestedKey×Addr×Value)}{dy:D}{k:NestedKey}{b:Addr}{Q:Unit->Shared->Prop}(hu:A.units+9<cLine)(I:Inv X pins σ H s)(e:H a=some (NdO X.w a xs))(rn:RN X.K p H kvs xs)(ry:RV X.K p H dy (.ref b))(ek:nkT dy=some k)(hl:kvs.length<sizeLine)
  (h:∀ s',Inv X pins σ (upd H a (NdO X.w a (storedH xs k b r))) s'->Q () s'):wpAny (model X.prog X.w) A (setItem (.ref a) (.ref b) r) Q E s:=by
 obtain⟨z,hd,dd⟩:=zkp I.hok (.inl e) rn;have hk:=zhS I.hok ek ry;have lx:=rn.length
 have hl2:(storedH xs k b r).length<=sizeLine:=by
  cases q:atKey xs k with
  | none=>rw[storedH_new q];simp;omega
  | some q'=>rw[storedH_old q];simpa using z
 refine wpAny_setItem_heap (hsz:=z) (n_room hu) hk dd λh' dd' hs=>h _ ?_;have new:=zny (H':=upd H a (NdO X.w a (storedH xs k b r))) hl2 hd dd';obtain⟨o',_,_,hq,_⟩:=dd';exact d_write I (by rw[e];exact True.intro) hs ⟨o',hq⟩ new
theorem zpd{p:List Addr}{kvs:List (D×D)}{xs:List (NestedKey×Addr×Value)}(I:Inv X pins σ H s)(e:Rd H a (NdO X.w a xs))(rn:RN X.K p H kvs xs):s.TypeIs (.ref a) "dict"/\∀ b,Value.ref a=.ref b->∃ ob,s.heap.get? b=some ob/\ob.dict=none:=by
 obtain⟨z,hd,dd⟩:=zkp I.hok e rn;refine⟨dd.typeIs,λb q=>?_⟩;cases q;obtain⟨ob,_,_,h1,h2,_⟩:=dd;exact⟨ob,h1,h2.2.1⟩
end
section
variable{X:Cx}
theorem zrc{p:List Addr}{s:S}{H:Hp}{n:Nat}{x:V}{kvs:List (D×D)}(rs:RS X.K cm p s H)(r:RV X.K p H (.ref n) x)(h:zgq s n=some kvs):∃ a w xs,x=.ref a/\p[n]?=some a/\cm.wld=some w/\Rd H a (NdO w a xs)/\RN X.K p H kvs xs:=by
 simp only[RV]at r;obtain⟨a,ha,rfl⟩:=r;unfold zgq at h;split at h
 . rename_i kvs' hs;cases h;obtain⟨b,hb,u,e,w,xs,hw,rfl,rn⟩:=rs.at hs;rw[ha]at hb;cases hb;exact⟨a,w,xs,rfl,ha,hw,.inl e,rn⟩
 . rename_i kvs' hs;cases h;obtain⟨b,hb,od,u,e,_,w,xs,hw,rfl,rn⟩:=rs.at hs;rw[ha]at hb;cases hb;exact⟨a,w,xs,rfl,ha,hw,.inr ⟨od,e⟩,rn⟩
 . cases h
theorem zhQ(hw:cm.wld=some X.w){p:List Addr}{s:S}{H:Hp}{dx dy:D}{x y:V}{r:Option D}(rs:RS X.K cm p s H)(rx:RV X.K p H dx x)(ry:RV X.K p H dy y)(h:jm s dx dy=some r) :
   ∃ a o,x=.ref a/\NG X.K X.w H a y o/\((∃ d v,r=some d/\o=some v/\RV X.K p H d v)\/r=none/\o=none):=by
 unfold jm at h;split at h
 . rename_i n;split at h
   . rename_i kvs hn;obtain⟨k,ek,rfl⟩:=tW.mp h;obtain⟨a,w,xs,rfl,_,hw',rd,rn⟩:=zrc rs rx hn;rw[hw]at hw';cases hw';obtain⟨b,rfl⟩:=znA ek ry;have g:=RN.get k rn
     cases e:wD kvs k with
     | none=>exact⟨a,none,rfl,⟨p,kvs,xs,dy,k,b,rd,rn,ry,ek,rfl,by rw[g.2 e];exact True.intro⟩,.inr ⟨rfl,rfl⟩⟩
     | some d =>
      obtain⟨b',v,u,q1,q2,q3⟩:=g.1 d e;exact⟨a,some v,rfl,⟨p,kvs,xs,dy,k,b,rd,rn,ry,ek,rfl,by rw[q1];exact q3⟩,.inl ⟨d,v,rfl,rfl,q2⟩⟩
   . cases h
 . cases h
theorem zum(hw:cm.wld=some X.w){pos:Pos}:JE X cm W (.Dict [] [] pos) (eN (λ_=>mDN) zj):=by
 refine⟨λpins s σ H Q I h=>?_⟩;obtain⟨p,e,st,re,rs,q⟩:=h;have na:=I.hok.fresh (tX s.heap.objs.size);have hsys:(s.heap.objs.size == sysModules)=false:=beq_eq_false_iff_ne.mpr (pB I.big)
 have new:ObjOk X.prog X.w (upd H s.heap.objs.size (NdO X.w s.heap.objs.size [])) (s.heap.push { cls:=.type "dict",data:=.dict #[] }) s.heap.objs.size (NdO X.w s.heap.objs.size []) :=
  zny (by rw[sizeLine_eq];simp) hsys (Heap.DictOfH.new _)
 refine wpAny_Dict_empty ⟨.ref s.heap.objs.size,_,I.laid (a:=s.heap.objs.size) (o:=NdO X.w s.heap.objs.size []) (t':=s.toks) (λ_ _ q=>Heap.get?_push_of_some _ q) (tX _) new,rfl,?_⟩;obtain⟨f,rs',e'⟩:=rs.new (o:=.dN []) (u:=NdO X.w s.heap.objs.size []) na ⟨X.w,[],hw,rfl,by simp[RN]⟩;exact q _ _ _ f rs' (wW e')
theorem zsP(hu:X.A.units+9<cLine):IxR X (λx y H Q=>∃ a v,x=.ref a/\NG X.K X.w H a y (some v)/\Q v H):=by
 intro value slice pins s σ H x y v u Q I rx ry h hs;obtain⟨a,w,rfl,g,q⟩:=h;cases (show v=Value.ref a from rx)
 have tt:s.TypeIs (.ref a) "dict":=by
  obtain⟨p,kvs,xs,dy,k,b,e,rn,_⟩:=g;exact(zpd I e rn).1
 exact tail_any tt PySem.F.slot_dict_getitem.lookup (n_getItem hu I g ry λw' s' I' rw'=>⟨w,H,I',rw',q⟩) hs
theorem hu9{k:Nat}(hr:Room k X.A):X.A.units+9<cLine:=by have:=hr.un;omega
variable{a b c:Expr}{fa fb fc:E}{pos:Pos}
theorem zrp{k:Nat}(hw:cm.wld=some X.w)(hr:Room k X.A)(ha:JE X cm W a fa)(hb:JE X cm W b fb)(hs:PlainIx b:=by intro _ _;rfl):JE X cm W (.Subscript a b pos) (e2 zlC fa fb):=by
 refine(pe_ix (zsP (hu9 hr)) ha hb hs).imp λσ H Q q=>?_;obtain⟨p,e,s,re,rs,q⟩:=tD.two q;refine⟨p,e,s,re,rs,q.imp ?_⟩;rintro x H1 ⟨p,e,s,re,rs,q⟩;refine⟨p,e,s,re,rs,q.imp ?_⟩;rintro y H2 ⟨p,e,s,d1,d2,re,rs,r1,r2,q0⟩;obtain⟨d,e1,qf⟩:=wO q0;obtain⟨r,e2,e3⟩:=qm.mp e1;simp only[id]at e3;subst e3;obtain⟨t,o,rfl,g,⟨d',v,e4,rfl,rv⟩ | ⟨e4,_⟩⟩:=zhQ hw rs r1 r2 e2
 . cases e4;exact⟨t,v,rfl,g,Po.ok qf rs rv⟩
 . cases e4
theorem zkE(hu:X.A.units+9<cLine):OpR X (compareOp .NotIn) (λy x H Q=>∃ a o,x=.ref a/\NG X.K X.w H a y o/\Q (.bl (!o.isSome)) H):=by
 intro pins s σ H y x u v Q I ry rx h;obtain⟨a,o,rfl,g,q⟩:=h;cases rx
 exact n_notIn hu I g ry λs' I'=>⟨.bl (!o.isSome),H,I',rfl,q⟩
theorem s_oNotInN{k:Nat}(hw:cm.wld=some X.w)(hr:Room k X.A):S2 X cm (compareOp .NotIn) xJ:=by
 refine⟨_,zkE (hu9 hr),λW p s σ H x y dx dy Q rs rx ry q=>?_⟩;obtain⟨d,e,q⟩:=wO q;obtain⟨r,e1,rfl⟩:=tW.mp e;have q':=Po.ok q rs (zay _);obtain⟨t,o,rfl,g,⟨d',v,rfl,rfl,rv⟩ | ⟨rfl,rfl⟩⟩:=zhQ hw rs ry rx e1
 . exact⟨t,_,rfl,g,q'⟩
 . exact⟨t,_,rfl,g,q'⟩
theorem s_lenN(hw:cm.wld=some X.w):SN X cm (.builtin "len") ziy:=by
 refine⟨λxs H Q=>∃(a:Addr) (p:List Addr) (kvs:List (D×D)) (ys:List (NestedKey×Addr×Value)),xs=[.ref a]/\Rd H a (NdO X.w a ys)/\RN X.K p H kvs ys/\Q (.int kvs.length) H,?_,λW p s σ H xs ds Q rs rv q=>?_⟩
 . intro pins s σ H xs us Q I r h;obtain⟨a,p,kvs,ys,rfl,hp,rn,q⟩:=h;obtain⟨u,rfl,rx⟩:=vals1 r;obtain rfl:u=.ref a:=rx;obtain⟨z,hd,dd⟩:=zkp I.hok hp rn;have hl:=rn.length;refine call_len_dictH hd dd (by rw[sizeLine_eq]at z;omega) ?_;rw[← hl];exact⟨.int ((kvs.length:Nat):Int),H,I.tok _,⟨_,rfl⟩,q⟩
 . unfold ziy at q;split at q
   . rename_i n
     cases e:zgq s n with
     | none=>rw[e]at q;exact q.elim
     | some kvs =>
      rw[e]at q;obtain⟨x,rfl,rx⟩:=wN rv;obtain⟨a,w,ys,rfl,_,hw',rd,rn⟩:=zrc rs rx e;rw[hw]at hw';cases hw';exact⟨a,p,kvs,ys,rfl,rd,rn,Po.ok q rs (wu _)⟩
   . exact q.elim
def NPut(K:oU)(w:World)(H:Hp)(a:Addr)(y v:V)(R:Hp->Prop):Prop:=∃ p kvs xs dy k b,H a=some (NdO w a xs)/\RN K p H kvs xs/\RV K p H dy y/\nkT dy=some k/\y=.ref b/\kvs.length<sizeLine/\∀ u,RelV v u->R (upd H a (NdO w a (storedH xs k b u)))
theorem zrD(hu:X.A.units+9<cLine):PSet X (λo i v H Q=>∃ a,o=.ref a/\NPut X.K X.w H a i v Q):=by
 intro pins s σ H o i v ov iv u Q I ro ri rv h;obtain⟨a,rfl,p,kvs,xs,dy,k,b,e,rn,ry,ek,rfl,hl,q⟩:=h;cases (show ov=Value.ref a from ro);cases ri
 exact n_setItem hu I e rn ry ek hl λs4 I4=>⟨_,I4,q u rv⟩
theorem zic{k:Nat}{pos':Pos}(hw':cm.wld=some X.w)(hr:Room k X.A)(hb:JE X cm W b fb)(hc:JE X cm W c fc)(ha:JE X cm W a fa)
   (hsub:∀ v,assign (.Subscript b c pos') X.env v=(do
     let ov ← holding [v] (eval b X.env)
     let iv ← holding [v,ov] (eval c X.env)
     standAt pos'
     holding [v,ov,iv] (setItem ov iv v)
     release [v,ov,iv] []):=by intro _;rfl)
   (hs:swapsWithSole [.Subscript b c pos'] a pos.line X.env=pure false:=by rfl) (hw:swappedStores [.Subscript b c pos'] a X.env=pure none:=by rfl)
   (h1:(assignEach [.Subscript b c pos'] X.env).map (·.2)=[assign (.Subscript b c pos') X.env]:=by rfl):JS X cm W (.Assign [.Subscript b c pos'] a pos) (uY fb fc fa):=by
 refine(ps_asg ha (pg_sub hb hc (zrD (hu9 hr)) hsub) hs hw h1).imp ?_;rintro D σ H ⟨p,e,s,re,rs,q⟩;refine⟨p,e,s,re,rs,(PoS.ex (rel:=RV X.K) q re).imp ?_⟩;rintro v H1 ⟨d1,p1,s1,f1,rs1,r1,q1⟩;refine⟨p1,e,s1,re.mono f1,rs1,(PoS.ex (rel:=RV X.K) q1 (re.mono f1)).imp ?_⟩;rintro o H2 ⟨d2,p2,s2,f2,rs2,r2,q2⟩;refine⟨p2,e,s2,(re.mono f1).mono f2,rs2,(PoS.ex (rel:=RV X.K) q2 ((re.mono f1).mono f2)).imp ?_⟩;rintro i H3 ⟨d3,p3,s3,f3,rs3,r3,q3⟩;have re3:=((re.mono f1).mono f2).mono f3;have r1':=(r1.mono f2).mono f3;have r2':=r2.mono f3;split at q3
 . rename_i n;split at q3
   . rename_i kvs h;split at q3
     . rename_i hl
       cases ek:nkT d3 with
       | none=>rw[ek]at q3;exact q3.elim
       | some k =>
        rw[ek]at q3;simp only[RV]at r2';obtain⟨t,ht,rfl⟩:=r2';obtain⟨t',ht',u0,e0,w,xs,hwd,rfl,rn⟩:=rs3.at h;rw[ht]at ht';cases ht';rw[hw']at hwd;cases hwd;obtain⟨b0,rfl⟩:=znA ek r3;refine⟨t,rfl,p3,kvs,xs,d3,k,b0,e0,rn,r3,ek,rfl,by rw[sizeLine_eq];exact hl,λu ru=>?_⟩;obtain⟨f,rs'⟩:=rs3.put (o:=.dN (zee kvs k d3 d1)) (u:=NdO X.w t (storedH xs k b0 u)) ht e0 True.intro ⟨X.w,_,hw',rfl,rn.put ek r3 r1' ru⟩;exact q3 p3 _ σ f rs' (re3.mono f)
     . exact q3.elim
   . exact q3.elim
 . exact q3.elim
end
end Fc
namespace Fc
open PySem PySem.Spec PyProof.Rows L2
variable{cm:CM}{W:WX}
abbrev NX:=NestedKey×Addr×Value
theorem zsN{X:Cx}{pins:List (Addr×Obj)}{σ:L2.St}{H:Hp}{s:Shared}{d:Addr}{o:Obj}{w:World}{xs:List NX}(I:Inv X pins σ H s)(h:H d=some (.frz o (NdO w d xs))) :
   (d == sysModules)=false/\s.heap.get? d=some o/\o.ExactDict/\∃(es:Array DictEntry) (ep:Nat),o.data=.dict es ep/\es.size=xs.length/\∀ i:Nat,es[i]?=(xs[i]?).map (ztZ w):=by
 obtain⟨hd,⟨o',es,ep,h1,h2,h3,h4,h5,h6,h7⟩,_⟩:=I.hok d _ h;rw[hd]at h1;cases h1;refine⟨h6,hd,h2,es,ep,h3,?_,λi=>?_⟩
 . rw[← Array.length_toList,h4,rA]
 . rw[← Array.getElem?_toList,h4,tU]
def ItiN(d:Addr)(o:Obj)(w:World)(xs:List NX):It :=
 ⟨λi H=>(H d=some (.frz o (NdO w d xs))/\∀ x∈xs,∃ v,RelV v x.2.2)/\i<xs.length,λi H x H'=>∃(T:Addr) (k:NestedKey) (b:Addr) (u:Value) (v:V),xs[i]?=some (k,b,u)/\RelV v u/\x=.ref T/\H T=none/\H'=upd H T (.tup [.ref b,v]),λi H=>H d=some (.frz o (NdO w d xs))/\xs.length<=i⟩
section
variable{P:Program}{w0 w:World}{K:oU}{d:Addr}{o:Obj}{es:Array DictEntry}{ep:Nat}{xs:List NX}
theorem zgT{elts:List Expr}{kk:Nat}{tpos:Pos}(it:Addr)(hod:o.data=.dict es ep) :
  Turn P w0 K (.Tuple elts kk tpos) (ItiN d o w xs) [it] it (λi h=>∃ ok ov,IsItemIter h it d i xs.length ep ok ov) where
 mem:=by simp
 obj:=λi h st b hb=>by
  obtain rfl:b=it:=by simpa using hb
  obtain⟨ok,ov,e⟩:=st;exact⟨_,e,λv z=>nomatch z⟩
 keep:=λi h h' st k=>let ⟨ok,ov,e⟩:=st;⟨ok,ov,k it (by simp) _ e⟩
 item:=by
  intro X hP hw hK hc i pins s σ H E I hf st hg;subst hP hw hK;obtain⟨⟨hd,hv⟩,hi⟩:=hg;obtain⟨hs,hgd,hx,es',ep',hdt,hsz,ent⟩:=zsN I hd;obtain⟨rfl,rfl⟩:=dict_ep hod hdt
  have hie:i<es'.size:=by omega
  obtain⟨⟨k,q,u⟩,hkv⟩:∃ p,xs[i]?=some p:=⟨xs[i],tQ hi⟩
  obtain⟨v,rv⟩:=hv _ (rH hkv);have hen:=ent i;rw[hkv,sE,Array.getElem?_eq_getElem hie]at hen;have hen:=Option.some.inj hen
  have hkey:es'[i].key=.ref q:=by rw[hen];rfl
  have rv:RelV v es'[i].val:=by rw[hen];exact rv
  obtain⟨ok,ov,he⟩:=st;rw[← hsz]at he;have hlt:it<s.heap.objs.size:=Heap.lt_size he;refine wpAny_pyNext_items_item_raw he ⟨o,hgd,hx,hdt⟩ hie λh' ho hT hz hk=>?_;refine⟨_,rfl,wpAny_letOwnedTupleGo_items (s:={ s with heap:=h' }) ho λh2 he' sb=>?_⟩;have hT2:h2.get? s.heap.objs.size=some { cls:=.type "tuple",data:=.seq #[es'[i].key,es'[i].val] }:=(sb.2 _ (pB hlt)).trans hT
  have new:ObjOk X.prog X.w (upd H s.heap.objs.size (.tup [.ref q,v])) h2 s.heap.objs.size (.tup [.ref q,v]) :=
   ⟨by rw[sizeLine_eq];simp,[es'[i].key,es'[i].val],.cons (by rw[hkey];rfl) (.cons rv .nil),_,hT2,rfl,_,rfl⟩
  have I1:Inv X pins σ (upd H s.heap.objs.size (.tup [.ref q,v])) { s with heap:=h2 } :=
   I.turnedNew (t':=s.toks) (ch:=[it]) (λb ob hb e=>(sb.2 b (by simpa using hb)).trans (hk b ob (by simpa using hb) e)) hf (tX _) new
  refine⟨.ref s.heap.objs.size,_,I1,rfl,⟨_,k,q,u,v,hkv,by rw[hen]at rv;exact rv,rfl,I.hok.fresh (tX _),rfl⟩,⟨_,_,by rw[← hsz];exact he'⟩,λb hb=>?_⟩
  obtain rfl:b=it:=by simpa using hb
  rw[upd_ne (qb hlt)];exact(hf b (by simp)).1
 done:=by
  intro X hP hw hK hc i pins s σ H E I hf st hg;subst hP hw hK;obtain⟨hd,hi⟩:=hg;obtain⟨f0,f1,f2,f3,f4,f5⟩:=hf it (by simp);obtain⟨hs,hgd,hx,es',ep',hdt,hsz,ent⟩:=zsN I hd;obtain⟨rfl,rfl⟩:=dict_ep hod hdt;obtain⟨ok,ov,he⟩:=st;rw[← hsz]at he
  exact wpAny_pyNext_items_end_raw (I.ok.hd hc) he ⟨o,hgd,hx,hdt⟩ (by omega) λh' eb=>⟨rfl,I.turned (t':=s.toks) (λb ob hb e=>eb b ob hb e) f0 f1 f3 f4 f5⟩
 self:=λA i s Q E st h=>let ⟨_,_,e⟩:=st;PySem.W.kcp_self e h
end
def zoF(td:TE):TI:=λσ H R=>td σ H λx H1=>∃ d o w xs,x=.ref d/\H1 d=some (.frz o (NdO w d xs))/\R (ItiN d o w xs) H1
section
variable{X:Cx}{e:Expr}{td:TE}{apos cpos:Pos}
theorem zkI{elts:List Expr}{kk:Nat}{tpos:Pos}(he:PE X e td)(hbase:attributeBase e "items" X.env (eval e X.env)=eval e X.env:=by rfl)(hline:(apos.endLine == cpos.line)=true:=by rfl) :
   PI X (.Tuple elts kk tpos) (.Call (.Attribute e "items" apos) [] [] cpos) (zoF td):=by
 refine⟨λpins s σ H R I h=>?_⟩;refine wpAny_Call_method (T:="dict") (id:="dict.items") hbase rfl hline PySem.F.plainAttrs_dict PySem.F.slot_dict_items PySem.F.type_dict_items (thn (he.run pins s σ H _ I h) λu s1 ⟨x,H1,I1,rx,d,o,w,xs,ex,hd,q⟩=>?_);subst ex;obtain rfl:u=Value.ref d:=rx;obtain⟨hs,hgd,hx,es,ep,hdt,hsz,ent⟩:=zsN I1 hd
 have raw:s1.heap.DictRaw d es ep:=⟨o,hgd,hx,hdt⟩
 refine⟨raw.typeIs,λa ea=>?_,?_⟩
 . cases ea;exact⟨o,hgd,hx.2.1⟩
 have I2:Inv X pins σ H1 { s1 with heap:=s1.heap.push { cls:=.type "dict_items",data:=.fields #[.ref d] } }:=I1.kept (t':=s1.toks) λb ob q=>Heap.get?_push_of_some _ q
 have fin:wpAny (model X.prog X.w) X.A (pyIter (.ref s1.heap.objs.size)) (PIE X pins σ (.Tuple elts kk tpos) R) X.xe { s1 with heap:=s1.heap.push { cls:=.type "dict_items",data:=.fields #[.ref d] } }:=by
   refine wpAny_pyIter_items_raw (d:=d) ⟨_,Heap.get?_push_size _ rfl,rfl,rfl⟩ (raw.at λo' e'=>Heap.get?_push_of_some _ e') (pi_one (tk:=s1.toks) I2 _ (zgT _ hdt) ⟨.none,.none,?_⟩ q);rw[← hsz];exact Heap.get?_push_size _ rfl
 show wpAny _ _ (callWith cpos (.builtin "dict.items") [.ref d] [] []) _ X.xe s1;exact Calls.callWith_builtin rfl (PySem.evalArgs_none (DT.callItems (es:=es) (ep:=ep) hs raw fin))
end
theorem RN.at{K:oU}{p:List Addr}{H:Hp}:∀{kvs:List (D×D)}{xs:List NX}{i:Nat}{k:NestedKey}{b:Addr}{u:Value},RN K p H kvs xs->xs[i]?=some (k,b,u)->∃ kv v,kvs[i]?=some kv/\nkT kv.1=some k/\RV K p H kv.1 (.ref b)/\RV K p H kv.2 v/\RelV v u
 | [],xs,i,k,b,u,r,e=>by
  simp only[RN]at r;subst r;simp at e
 | kv::kvs,xs,i,k,b,u,r,e=>by
  simp only[RN]at r;obtain⟨k',b',v',u',ys,rfl,e1,r1,r2,r3,r4⟩:=r
  cases i with
  | zero =>
   simp at e;obtain⟨rfl,rfl,rfl⟩:=e;exact⟨kv,v',rfl,e1,r1,r2,r3⟩
  | succ i =>
   obtain⟨kv',v,q1,q2⟩:=RN.at r4 (by simpa using e);exact⟨kv',v,by simpa using q1,q2⟩
theorem RN.vals{K:oU}{p:List Addr}{H:Hp}{kvs:List (D×D)}{xs:List NX}(r:RN K p H kvs xs):∀ x∈xs,∃ v,RelV v x.2.2:=λx hx=>by
 obtain⟨i,hi,e⟩:=qd.mp hx;obtain⟨kv,v,_,_,_,_,q⟩:=r.at (k:=x.1) (b:=x.2.1) (u:=x.2.2) (by rw[tQ hi,e]);exact⟨v,q⟩
def uV:Value->Option V
 | .none=>some .non
 | .bool b=>some (.bl b)
 | .int i _=>some (.int i)
 | .str x _=>some (.str x)
 | .bytes x _=>some (.byt x)
 | .float x _=>some (.flt x)
 | .ref a=>some (.ref a)
 | .type a=>some (.ty a)
 | _=>none
theorem zkU{v:V}{u:Value}(h:RelV v u):uV u=some v:=by
 cases v with
 | non=>cases h;rfl
 | bl b=>cases h;rfl
 | int i=>obtain⟨t,rfl⟩:=h;rfl
 | str i=>obtain⟨t,rfl⟩:=h;rfl
 | byt i=>obtain⟨t,rfl⟩:=h;rfl
 | flt i=>obtain⟨t,rfl⟩:=h;rfl
 | ref a=>cases h;rfl
 | ty a=>cases h;rfl
theorem zmt{v v':V}{u:Value}(h:RelV v u)(h':RelV v' u):v=v':=by
 have a:=zkU h;rw[zkU h']at a;exact(Option.some.inj a).symm
def zcZ(kv:D×D):D:=.tup [kv.1,kv.2]
section
variable{K:oU}{d:Addr}{o:Obj}{w:World}{xs:List NX}{kvs:List (D×D)}
theorem zfM:WalkD K cm (ItiN d o w xs) (kvs.map zcZ) (λp H=>H d=some (.frz o (NdO w d xs))/\RN K p H kvs xs) where
 go:=λp H i ⟨h,r⟩ hi=>⟨⟨h,r.vals⟩,by rw[← r.length];simpa using hi⟩
 st:=λp H ⟨h,r⟩=>⟨h,by rw[← r.length];simp⟩
 yl:=λp H s i x H' ⟨h,r⟩ rs hi ⟨T,k,b,u,v,h1,rv,y,h3,e⟩=>by
  subst e;obtain⟨kv,v',q1,q2,q3,q4,q5⟩:=r.at h1;obtain rfl:=zmt rv q5;have sm:=wR (u:=HO.tup [.ref b,v]) h3;refine⟨zcZ kv,by rw[tU,q1];rfl,Fut.same sm,rs.same sm,?_⟩;rw[y];refine zaz upd_same ?_;simp only[RVs];exact⟨_,_,rfl,q3.mono (Fut.same sm),_,_,rfl,q4.mono (Fut.same sm),rfl⟩
 fu:=λp H p' H' ⟨h,r⟩ f=>⟨f.frz _ _ _ h,r.yJ f.toFut0⟩
end
def iNd(g:D×D->D)(e:E):SrcE:=λσ=>bnd (e σ) λx s=>match x with
 | .ref n=>match s[n]? with
  | some (.dN kvs)=>some (.ok (.dict n (kvs.map g)) s)
  | some (.lck (.dN kvs))=>some (.ok (.dict n (kvs.map g)) s)
  | _=>none
 | _=>none
section
variable{X:Cx}{a:Expr}{fa:E}
theorem zoG{g:D×D->D}{J:Addr->Obj->World->List NX->It}(wk:∀ d o w xs kvs,WalkD X.K cm (J d o w xs) (kvs.map g) (λp H=>H d=some (.frz o (NdO w d xs))/\RN X.K p H kvs xs)){p:List Addr}{e:Env}{s:S}{σ:L2.St}{H:Hp}{R:It->Hp->Prop}
  (q:PoI X cm W p σ H (iNd g fa e s) R):Po X.K cm W (RV X.K) p σ H (fa e s) λx H1=>(∃ d o w xs,x=.ref d/\H1 d=some (.frz o (NdO w d xs))/\R (J d o w xs) H1)\/∃ d u,H1 d=some u/\Mut (some u)/\∀ od,NF X d->∃ d' o w xs,x=.ref d'/\(upd H1 d (.frz od u)) d'=some (.frz o (NdO w d' xs))/\R (J d' o w xs) (upd H1 d (.frz od u)):=by
 unfold iNd bnd at q
 cases h:fa e s with
 | none=>rw[h]at q;exact q.elim
 | some r =>
  rw[h]at q
  cases r with
  | exc c fs s'=>exact q
  | ok d s1 =>
   simp only at q;split at q
   . rename_i n;split at q
     . rename_i kvs hn;intro p1 H1 v f rs1 rv;have drv:=q p1 H1 f rs1;simp only[Drv,hn]at drv;simp only[RV]at rv;obtain⟨t,ht,rfl⟩:=rv;obtain⟨t',ht',u,e1,w,xs,hw,rfl,rk⟩:=rs1.at hn;rw[ht]at ht';cases ht';refine .inr ⟨t,_,e1,True.intro,λod nf=>⟨t,od,w,xs,rfl,upd_same,?_⟩⟩;exact drv t _ od _ _ ht e1 True.intro ⟨w,xs,hw,rfl,rk⟩ nf (λys z=>by cases z) (wk t od w xs kvs) ⟨upd_same,rk.yJ (Fut0.lock e1 True.intro).toFut0⟩
     . rename_i kvs hn;intro p1 H1 v f rs1 rv;have drv:=q p1 H1 f rs1;simp only[Drv,hn]at drv;simp only[RV]at rv;obtain⟨t,ht,rfl⟩:=rv;obtain⟨t',ht',od,u,e1,_,w,xs,hw,rfl,rk⟩:=rs1.at hn;rw[ht]at ht';cases ht';exact .inl ⟨t,od,w,xs,rfl,e1,drv _ _ (wk t od w xs kvs) ⟨e1,rk⟩⟩
     . exact q.elim
   . exact q.elim
theorem zlU{elts:List Expr}{kk:Nat}{tpos apos cpos:Pos}(ha:JE X cm W a fa)(hbase:attributeBase a "items" X.env (eval a X.env)=eval a X.env:=by rfl)(hline:(apos.endLine == cpos.line)=true:=by rfl) :
  JI X cm W (.Tuple elts kk tpos) (.Call (.Attribute a "items" apos) [] [] cpos) (iNd zcZ fa) :=
 ⟨_,zkI (zel ha) hbase hline,λp e s σ H R re rs q=>⟨p,e,s,re,rs,zoG (J:=ItiN) (λd o w xs kvs=>zfM) q⟩⟩
end
end Fc
namespace Fc
open PySem PySem.Spec PyProof.Rows L2
variable{cm:CM}{W:WX}
def zbO(D0:Nat)(y d:D)(s:S):Option S:=match s[D0]? with
 | some (.dK kvs)=>if kvs.length<16777216 then (keyOf y).map λk=>s.set D0 (.dK (kput kvs k d))else none
 | _=>none
def dcV(D0:Nat)(vs:List Nat)(g:G)(t:T)(ky e:E):List D->Env->S->Option S
 | [],_,s=>some s
 | d::r,σ,s=>match g d (wipe σ vs) s with
  | some σ1=>match t σ1 s with
   | some (.ok true s1)=>match ky σ1 s1 with
    | some (.ok y s2)=>match e σ1 s2 with
     | some (.ok z s3)=>(zbO D0 y z s3).bind λs4=>dcV D0 vs g t ky e r σ s4
     | _=>none
    | _=>none
   | some (.ok false s1)=>dcV D0 vs g t ky e r σ s1
   | _=>none
  | none=>none
def dcL(D0 n:Nat)(vs:List Nat)(g:G)(t:T)(ky e:E):Nat->Nat->Env->S->Option S
 | 0,i,_,s=>match yu s n with
  | some ds=>if ds.length=i then some s else none
  | none=>none
 | k+1,i,σ,s=>match yu s n with
  | some ds=>if ds.length=i+(k+1)then match ds[i]? with
    | some d=>match g d (wipe σ vs) s with
     | some σ1=>match t σ1 s with
      | some (.ok true s1)=>match ky σ1 s1 with
       | some (.ok y s2)=>match e σ1 s2 with
        | some (.ok z s3)=>(zbO D0 y z s3).bind λs4=>dcL D0 n vs g t ky e k (i+1) σ s4
        | _=>none
       | _=>none
      | some (.ok false s1)=>dcL D0 n vs g t ky e k (i+1) σ s1
      | _=>none
     | none=>none
    | none=>none
   else none
  | none=>none
def zbw(s:S)(f:Nat->S->Option S):Option (Res D):=(f s.length (s++[.dK []])).map λs'=>.ok (.ref s.length) s'
def eDc(vs:List Nat)(src:SrcE)(g:G)(t:T)(ky e:E):E:=λσ=>bnd (src σ) λsk s1=>match sk with
 | .vals ds=>zbw s1 λD0 s2=>dcV D0 vs g t ky e ds σ s2
 | .list n k=>zbw s1 λD0 s2=>dcL D0 n vs g t ky e k 0 σ s2
 | .dict n ds=>vK n s1 λs2=>zbw s2 λD0 s3=>dcV D0 vs g t ky e ds σ s3
theorem zju{K:oU}{D0:Nat}{Da:Addr}{y d:D}{x v:V}{s s':S}{p:List Addr}{H:Hp}(rs:RS K cm p s H)(ry:RV K p H y x)(rv:RV K p H d v)(hp:p[D0]?=some Da)(h:zbO D0 y d s=some s') :
   ∃ kvs k,x=kV k/\H Da=some (.dK kvs)/\kvs.length<sizeLine/\Fut p H p (upd H Da (.dK (L2.putK kvs k v)))/\RS K cm p s' (upd H Da (.dK (L2.putK kvs k v))):=by
 unfold zbO at h;split at h
 . rename_i kvs hs;split at h
   . rename_i hl;obtain⟨k,hk,rfl⟩:=tW.mp h;obtain⟨a,ha,u,h1,ws,rfl,rk⟩:=rs.at hs;rw[hp]at ha;cases ha
     have hu:RC K cm p H Da (.dK (kput kvs k d)) (.dK (L2.putK ws k v)):=⟨_,rfl,RKs.putK k rv rk⟩
     obtain⟨f,rs'⟩:=rs.put hp h1 True.intro hu;exact⟨ws,k,zfe hk ry,h1,by rw[← rk.length,sizeLine_eq];exact hl,f,rs'⟩
   . cases h
 . cases h
def DcW(J:It)(g:TG)(tt:TT)(tk tv:TE)(vs:List Nat)(Da:Addr)(σ:L2.St)(H1:Hp)(Qd:Hp->Prop):Prop:=∃ W:Nat->Nat->Hp->Prop,(∃ m,W 0 m (upd H1 Da (.dK [])))/\∀ i m H,W i m H ->
 (J.stop i H/\Qd H)\/(J.go i H/\∃ Nx:Hp->Prop,(∀ H',Nx H'->∃ m',m'<m/\W (i+1) m' H')/\∀ x H',J.yld i H x H'->g x (L2.wipe σ vs) H' λσ2 H2=>L2.wipe σ2 vs=L2.wipe σ vs/\tt σ2 H2 λb H3 =>
  if b=true then tk σ2 H3 λy H4=>tv σ2 H4 λz H5=>∃ kvs k,y=kV k/\H5 Da=some (.dK kvs)/\kvs.length<sizeLine/\Nx (upd H5 Da (.dK (L2.putK kvs k z)))else Nx H3)
section
variable{K:oU}{g:Fc.G}{gs vs:List Nat}{t:T}{ky el:E}{e:Env}{σ:L2.St}
theorem zjv(hsub:∀ i∈gs,i∈vs)(hgl:∀ d e s e',g d e s=some e'->e'.length=e.length){p p0:List Addr}{H H0:Hp}{s:S}{d:D}{x:V}{D0:Nat}{Da:Addr}{k:S->Option S}{sF:S}{Nx:Hp->Prop}
    (re:RE K p H e σ) (rs:RS K cm p s H) (rv:RV K p H d x) (hD:p[D0]?=some Da) (f0:Fut p0 H0 p H)
    (h : (match g d (Fc.wipe e vs) s with
      | some σ1=>match t σ1 s with
        | some (.ok true s1)=>match ky σ1 s1 with
          | some (.ok y s2)=>match el σ1 s2 with
            | some (.ok z s3)=>(zbO D0 y z s3).bind k
            | _=>none
          | _=>none
        | some (.ok false s1)=>k s1
        | _=>none
      | none=>none)=some sF)
    (nx:∀ p2 s2 H2,Fut p H p2 H2->RS K cm p2 s2 H2->k s2=some sF->Nx H2) :
    tG K cm g gs x (L2.wipe σ vs) H λσ2 H2=>L2.wipe σ2 vs=L2.wipe σ vs/\tT K cm Wf t σ2 H2 λb H3 =>
      if b=true then tD K cm Wf ky σ2 H3 λy H4=>tD K cm Wf el σ2 H4 λz H5=>∃ kvs k,y=kV k/\H5 Da=some (.dK kvs)/\kvs.length<sizeLine/\Nx (upd H5 Da (.dK (L2.putK kvs k z)))else Nx H3:=by
  cases hg:g d (Fc.wipe e vs) s with
  | none=>rw[hg]at h;cases h
  | some e1 =>
    simp only[hg]at h;refine⟨p,Fc.wipe e vs,s,d,e1,re.wipe vs,rs,rv,hg,λσ2 re2 hs=>⟨zfN ?_ hs hsub,p,e1,s,re2,rs,?_⟩⟩
    . rw[← re2.1,hgl _ _ _ _ hg,zeF,re.1]
    . cases ht:t e1 s with
      | none=>rw[ht]at h;cases h
      | some r =>
        rw[ht]at h
        cases r with
        | exc c fs s'=>cases h
        | ok k1 s1 =>
          intro p1 H1 k2 f1 rs1 rk;obtain rfl:k1=k2:=rk
          cases k1 with
          | false =>
            rw[if_neg qJ];exact nx p1 s1 H1 f1 rs1 h
          | true =>
            rw[if_pos rfl];simp only at h;refine⟨p1,e1,s1,re2.mono f1,rs1,?_⟩
            cases hk:ky e1 s1 with
            | none=>rw[hk]at h;cases h
            | some r =>
              rw[hk]at h
              cases r with
              | exc c fs s'=>cases h
              | ok y s2 =>
                intro p2 H2 v f2 rs2 rv2;simp only at h;refine⟨p2,e1,s2,(re2.mono f1).mono f2,rs2,?_⟩
                cases he:el e1 s2 with
                | none=>rw[he]at h;cases h
                | some r =>
                  rw[he]at h
                  cases r with
                  | exc c fs s'=>cases h
                  | ok z s3 =>
                    intro p3 H3 v3 f3 rs3 rv3;obtain⟨s4,h1,h2⟩:=qm.mp h;obtain⟨kvs,kk,a0,a1,a2,a3,a4⟩:=zju rs3 (rv2.mono f3) rv3 (f3.pre _ _ (f2.pre _ _ (f1.pre _ _ hD))) h1;exact⟨kvs,kk,a0,a1,a2,nx p3 s4 _ (((f1.trans f2).trans f3).trans a3) a4 h2⟩
theorem zgc(hsub:∀ i∈gs,i∈vs)(hgl:∀ d e s e',g d e s=some e'->e'.length=e.length){J:It}{ds:List D}{G:List Addr->Hp->Prop}(w:WalkD K cm J ds G){p:List Addr}{s:S}{H:Hp}{Q:VK}{Da:Addr}(hG:G p H)(re:RE K p H e σ)(rs:RS K cm p s H)
  (q:Po K cm W (RV K) p σ H (zbw s λD0 s2=>dcV D0 vs g t ky el ds e s2) Q) (hDa:H Da=none):DcW J (tG K cm g gs) (tT K cm Wf t) (tD K cm Wf ky) (tD K cm Wf el) vs Da σ H (Q (.ref Da)):=by
 unfold zbw at q;dsimp only at q
 cases hf:dcV s.length vs g t ky el ds e (s++[.dK []])with
 | none=>rw[hf]at q;exact q.elim
 | some sF =>
  rw[hf]at q;obtain⟨f1,rs1,e1⟩:=rs.new (o:=.dK []) (u:=.dK []) hDa ⟨[],rfl,by simp[RKs]⟩;refine⟨λi m H'=>i<=ds.length/\m=ds.length - i/\∃ p' s',G p' H'/\RS K cm p' s' H'/\p'[s.length]?=some Da/\Fut p H p' H'/\dcV s.length vs g t ky el (ds.drop i) e s'=some sF,⟨_,rJ _,rfl,p++[Da],s++[.dK []],w.fu _ _ _ _ hG f1,rs1,e1,f1,by simpa using hf⟩,?_⟩;rintro i m H' ⟨hi,rfl,p',s',hG',rs',hD',f',hF⟩;by_cases hlt:i<ds.length
  . refine .inr ⟨w.go p' H' i hG' hlt,λH'=>∃ p' s',G p' H'/\RS K cm p' s' H'/\p'[s.length]?=some Da/\Fut p H p' H'/\dcV s.length vs g t ky el (ds.drop (i+1)) e s'=some sF,λH' n=>⟨ds.length - (i+1),by omega,hlt,rfl,n⟩,λx H2 y=>?_⟩;obtain⟨d,e2,f2,rs2,rv⟩:=w.yl p' H' s' i x H2 hG' rs' hlt y
    have hd:ds.drop i=d::ds.drop (i+1):=by
     have e3:ds[i]=d:=by
      have:=tQ hlt;rw[this]at e2;exact Option.some.inj e2
     rw[← e3];exact rO hlt
    rw[hd]at hF;unfold dcV at hF;have f02:=f'.trans f2;refine zjv hsub hgl (re.mono f02) rs2 rv hD' f02 hF λp3 s3 H3 f3 rs3 h3=>?_;exact⟨p3,s3,w.fu _ _ _ _ (w.fu _ _ _ _ hG' f2) f3,rs3,f3.pre _ _ hD',f02.trans f3,h3⟩
  . have e2:i=ds.length:=by omega
    subst e2;rw[List.drop_length]at hF;cases hF;exact .inl ⟨w.st p' H' hG',q p' H' _ f' rs' (wW hD')⟩
theorem zon(hsub:∀ i∈gs,i∈vs)(hgl:∀ d e s e',g d e s=some e'->e'.length=e.length){a:Addr}{n k:Nat}{p:List Addr}{s:S}{H:Hp}{Q:VK}{Da:Addr}(ha:p[n]?=some a)(re:RE K p H e σ)(rs:RS K cm p s H)
  (q:Po K cm W (RV K) p σ H (zbw s λD0 s2=>dcL D0 n vs g t ky el k 0 e s2) Q) (hDa:H Da=none):DcW (Itl K a) (tG K cm g gs) (tT K cm Wf t) (tD K cm Wf ky) (tD K cm Wf el) vs Da σ H (Q (.ref Da)):=by
 unfold zbw at q;dsimp only at q
 cases hf:dcL s.length n vs g t ky el k 0 e (s++[.dK []])with
 | none=>rw[hf]at q;exact q.elim
 | some sF =>
  rw[hf]at q;obtain⟨f1,rs1,e1⟩:=rs.new (o:=.dK []) (u:=.dK []) hDa ⟨[],rfl,by simp[RKs]⟩;refine⟨λi m H'=>∃ p' s',RS K cm p' s' H'/\p'[s.length]?=some Da/\Fut p H p' H'/\dcL s.length n vs g t ky el m i e s'=some sF,⟨k,p++[Da],s++[.dK []],rs1,e1,f1,hf⟩,?_⟩;rintro i m H' ⟨p',s',rs',hD',f',hF⟩;have rn:RV K p' H' (.ref n) (.ref a):=wW (f'.pre _ _ ha)
  cases m with
  | zero =>
   unfold dcL at hF;split at hF
   . rename_i ds hd;split at hF
     . rename_i hl;cases hF;obtain⟨t',ws,h0,h1,h2,h3⟩:=yw rs' rn (xW hd);cases h0;exact .inl ⟨⟨ws,SqL.of h2,by rw[← h3.length,hl];exact tX _⟩,q p' H' _ f' rs' (wW hD')⟩
     . cases hF
   . cases hF
  | succ m =>
   unfold dcL at hF;split at hF
   . rename_i ds hd;split at hF
     . rename_i hl;obtain⟨t',ws,h0,h1,h2,h3⟩:=yw rs' rn (xW hd);cases h0;split at hF
       . rename_i d hdi;obtain⟨v,hv,rv⟩:=h3.get hdi;refine .inr ⟨⟨ws,v,SqL.of h2,hv⟩,λH'=>∃ p' s',RS K cm p' s' H'/\p'[s.length]?=some Da/\Fut p H p' H'/\dcL s.length n vs g t ky el m (i+1) e s'=some sF,λH' z=>⟨m,by omega,z⟩,λx H2 y=>?_⟩;obtain⟨rfl,y⟩:=y;have y:=y ws (SqL.of h2);rw[hv]at y;cases y;refine zjv hsub hgl (re.mono f') rs' rv hD' f' hF λp3 s3 H3 f3 rs3 h3=>?_;exact⟨p3,s3,rs3,f3.pre _ _ hD',f'.trans f3,h3⟩
       . cases hF
     . cases hF
   . cases hF
theorem zqs{X:Cx}{tg iter:Expr}{src:SrcE}{wi:TI}(hw:∀ p e s σ H R,RE X.K p H e σ->RS X.K cm p s H->PoI X cm W p σ H (src e s) R->wi σ H R)(hsub:∀ i∈gs,i∈vs)(hgl:∀ d e s e',g d e s=some e'->e'.length=e.length)
  {p:List Addr}{s:S}{H:Hp}{Q:VK} (re:RE X.K p H e σ) (rs:RS X.K cm p s H) (q:Po X.K cm W (RV X.K) p σ H (eDc vs src g t ky el e s) Q) :
  tDc wi (tG X.K cm g gs) (tT X.K cm Wf t) (tD X.K cm Wf ky) (tD X.K cm Wf el) vs σ H λx H1=>Ul X (Q x) H1:=by
 refine hw p e s σ H _ re rs ?_;unfold eDc bnd at q
 cases h:src e s with
 | none=>rw[h]at q;exact q.elim
 | some r =>
  rw[h]at q
  cases r with
  | exc c fs s'=>exact q
  | ok sk s1 =>
   intro p1 H1 f rs1;have q:=Po.fut q f;have re1:=re.mono f
   cases sk with
   | vals ds=>exact λJ G w hG Da hDa=>zgc (Q:=λx H1=>Ul X (Q x) H1) hsub hgl w hG re1 rs1 (q.imp λv H z=>Or.inl z) hDa
   | list n k=>exact λ_ a ha Da hDa=>zon (Q:=λx H1=>Ul X (Q x) H1) hsub hgl ha re1 rs1 (q.imp λv H z=>Or.inl z) hDa
   | dict n ds =>
    simp only at q;show Drv X cm (.dict n ds) p1 H1 s1 _
    cases hn:s1[n]? with
    | none=>unfold vK at q;rw[hn]at q;exact q.elim
    | some o =>
     by_cases hl:∃ o',o=.lck o'
     . obtain⟨o',rfl⟩:=hl;rw[zdz hn]at q;simp only[Drv,hn];exact λJ G w hG Da hDa=>zgc (Q:=λx H1=>Ul X (Q x) H1) hsub hgl w hG re1 rs1 (q.imp λv H z=>Or.inl z) hDa
     . have hl':∀ o',o≠.lck o':=λo' z=>hl ⟨o',z⟩;rw[zcc hn hl']at q
       have goal:∀ a u od J G,p1[n]?=some a->H1 a=some u->Mut (some u)->RC X.K cm p1 H1 a o u->NF X a->(∀ ys,u≠.lst ys)->WalkD X.K cm J ds G->G p1 (upd H1 a (.frz od u))->∀ Da,upd H1 a (.frz od u) Da=none->DcW J (tG X.K cm g gs) (tT X.K cm Wf t) (tD X.K cm Wf ky) (tD X.K cm Wf el) vs Da σ (upd H1 a (.frz od u)) λH=>Ul X (Q (.ref Da)) H:=by
        intro a u od J G ha h0 mu c nf nl w hG Da hDa;have fl:=Fut0.lock (od:=od) (p:=p1) h0 mu;have rs2:=rs1.zrn (o:=.lck o) ha h0 fl.toFut0 ⟨od,u,upd_same,mu,c.yJ fl.toFut0⟩;exact zgc (Q:=λx H1=>Ul X (Q x) H1) hsub hgl w hG (re1.mono fl) rs2 (Po.unlock nf ha h0 mu c nl q) hDa
       simp only[Drv,hn]
       cases o with
       | lck o'=>exact absurd rfl (hl' o')
       | _=>exact λa u od J G ha h0 mu c nf nl w hG Da hDa=>goal a u od J G ha h0 mu c nf nl w hG Da hDa
end
end Fc
namespace Fc
open PySem PySem.Spec PyProof.Rows L2
variable{cm:CM}{W:WX}
section
variable{X:Cx}
theorem zmi{i:Nat}{y:Str}{py:Pos}{kx vx tg iter:Expr}{ifs:List Expr}{scope:Scope}{own:List (Str×Nat)}{pos spos:Pos}{wi:TI}{g:TG}{tt:TT}{tk tv:TE}(hc:X.calm=true)(hN:X.N.Nodup)(hy:X.N[i]?=some y)(hyl:X.env.scope.names.lookup y=some .local)
  (hsw:swapsWith (.DictComp kx vx [⟨tg,iter,ifs,0⟩] scope pos) (some (.Name y py)) spos.line X.env=pure true) (hi:PI X tg iter wi) (ok:BlkOk X.N X.env.scope scope own)
  (hg:∀(s:Shared) (H:Hp) (C:Addr) (cl:List (Str×Addr)) (fp:List Addr),PG (X.blk s H scope (compEnvC scope cl C X.env) fp) tg g) (ht:∀(s:Shared) (H:Hp) (C:Addr) (cl:List (Str×Addr)) (fp:List Addr),PTs (X.blk s H scope (compEnvC scope cl C X.env) fp) ifs tt)
  (hk:∀(s:Shared) (H:Hp) (C:Addr) (cl:List (Str×Addr)) (fp:List Addr),PE (X.blk s H scope (compEnvC scope cl C X.env) fp) kx tk)
  (he:∀(s:Shared) (H:Hp) (C:Addr) (cl:List (Str×Addr)) (fp:List Addr),PE (X.blk s H scope (compEnvC scope cl C X.env) fp) vx tv) (hs:∀ x,foldedSetIterable iter X.env x=pure x:=by intro _;rfl) :
  PS X (.Assign [.Name y py] (.DictComp kx vx [⟨tg,iter,ifs,0⟩] scope pos) spos) (tAsg (tDc wi g tt tk tv (own.map (·.2))) (L2.gName i)):=by
 refine⟨λpins s σ H D I h=>?_⟩;rw[exec_Assign_Name_used _ _ _ _ hsw];refine wpAny_bind (wpAny_standAt (wpAny_bind ?_));show wpAny _ X.A (do let _ ← comprehension (.DictComp kx vx [⟨tg,iter,ifs,0⟩] scope pos) scope X.env (firstIterPos [⟨tg,iter,ifs,0⟩] pos) newDict false (eval iter X.env) (some (assign (.Name y py) X.env))) _ _ s;have h:tDc wi g tt tk tv (own.map (·.2)) σ H (λx H1=>L2.gName i x σ H1 D.nx):=h;refine wpAny_bind (thn (dc_core (Qf:=λ_ s'=>SP X pins D .next s') hc hN I hi ok hg ht hk he hs h λL C s' m H' I' q hn f=>?_) λ_ s' hq=>wpAny_pure (wpAny_pure hq));show wpAny _ _ (assign (.Name y py) X.env (.ref L)) _ _ _;refine wpAny_assign_Name (store_ok2 (v:=V.ref L) I' hN hy (.inl hyl) rfl (λs2 I2 ⟨a,sb,ha⟩=>?_) (.inr hyl));obtain⟨f0,f1,f2,f3,f4,f5⟩:=f
 have haC:C≠a:=by
  rcases ha with z | z
  . rw[z];exact f1
  . exact λe=>f4 y a z e.symm
 refine⟨m,hn.sameBut sb haC,λh3 sb3=>?_⟩;exact⟨_,H',I2.turned (t':=s2.toks) (λb o hb e=>(sb3.2 b hb).trans e) f0 f1 f3 f4 f5,q⟩
theorem zmR{kx vx:Expr}{gs:List Comprehension}{scope:Scope}{pos py:Pos}{y:Str}{l:Nat}{env:PySem.Env}(hk:env.scope.kind=.function)(hy:env.scope.names.lookup y=some .local)(hl:(py.line == pos.line)=true)
  (ha:(scope.names.any λ(n,k)=>n == y&&(k == .local||k == .cell))=false):swapsWith (.DictComp kx vx gs scope pos) (some (.Name y py)) l env=pure true:=by
 have ky:env.kindOf y=some .local:=hy
 have hb:env.blockKind=.function:=by unfold Env.blockKind;rw[hk];rfl
 unfold swapsWith;simp only[hb,ky,ha,Expr.pos,hl];rfl
end
section
variable{X:Cx}{tg iter kx vx:Expr}{src:SrcE}{g:G}{gs:List Nat}{ifs:List Expr}{t:T}{ky el:E}{scope:Scope}{pos spos:Pos}
theorem zpx(hc:X.calm=true)(hN:X.N.Nodup)(i:Nat){y:Str}{py:Pos}(own:List (Str×Nat))(hi:JI X cm W tg iter src)
  (hg:∀(s:Shared) (H:Hp) (C:Addr) (cl:List (Str×Addr)) (fp:List Addr),JG (X.blk s H scope (compEnvC scope cl C X.env) fp) cm tg g gs)
  (ht:∀(s:Shared) (H:Hp) (C:Addr) (cl:List (Str×Addr)) (fp:List Addr),JTs (X.blk s H scope (compEnvC scope cl C X.env) fp) cm Wf ifs t)
  (hk:∀(s:Shared) (H:Hp) (C:Addr) (cl:List (Str×Addr)) (fp:List Addr),JE (X.blk s H scope (compEnvC scope cl C X.env) fp) cm Wf kx ky)
  (he:∀(s:Shared) (H:Hp) (C:Addr) (cl:List (Str×Addr)) (fp:List Addr),JE (X.blk s H scope (compEnvC scope cl C X.env) fp) cm Wf vx el)
  (hgl:∀ d e s e',g d e s=some e'->e'.length=e.length) (hy:X.N[i]?=some y:=by rfl) (hyl:X.env.scope.names.lookup y=some .local:=by rfl)
  (hsw:swapsWith (.DictComp kx vx [⟨tg,iter,ifs,0⟩] scope pos) (some (.Name y py)) spos.line X.env=pure true:=by exact zmR rfl rfl rfl (by decide +kernel)) (ok:BlkOk X.N X.env.scope scope own:=by exact blkOk_by (by rfl)) (hsub:∀ i∈gs,i∈own.map (·.2):=by decide) (hs:∀ x,foldedSetIterable iter X.env x=pure x:=by intro _;rfl) :
  JS X cm W (.Assign [.Name y py] (.DictComp kx vx [⟨tg,iter,ifs,0⟩] scope pos) spos) (zQ (eDc (own.map (·.2)) src g t ky el) (gName i)):=by
 obtain⟨wi,hi,hw⟩:=hi;refine(zaV (zmi (g:=tG X.K cm g gs) (tt:=tT X.K cm Wf t) (tk:=tD X.K cm Wf ky) (tv:=tD X.K cm Wf el) hc hN hy hyl hsw hi ok hg ht hk he hs)).imp ?_;rintro Dn σ H ⟨p,e,s,re,rs,q⟩;show tDc wi (tG X.K cm g gs) (tT X.K cm Wf t) (tD X.K cm Wf ky) (tD X.K cm Wf el) (own.map (·.2)) σ H λx H1=>Ul X (λH1=>Dn.nx (σ.set i (some x)) H1) H1;refine zqs (tg:=tg) (iter:=iter) (Q:=λx H1=>Dn.nx (σ.set i (some x)) H1) hw hsub hgl re rs ?_;exact(PoS.set q re (vs:=[i])).imp λx H1 h=>zgR (p:=p) (e:=e) (s:=s) h
end
end Fc
namespace Fc
open PySem PySem.Spec PyProof.Rows L2
structure ErrNAt(K:oU)(mg:Str->Option Value)(cm:CM)(c:Str):Prop where
 ex:∃ C,cm.err c=some C/\mg c=some (.ref C)/\PySem.W.excIn K C PySem.HandSPX.veTail "ValueError.__new__"=true/\PySem.W.keepIn K (.ref C)=true/\PySem.W.subIn K (.ref C) (.type "BaseException")=some true/\PySem.W.typeIn K (.ref C)=some (.type "type")
section
variable{X:Cx}{cm:CM}{W:WX}{c:Str}{p pos rpos:Pos}
theorem zoZ(V:ErrNAt X.K X.mg cm c)(hg:Gl X c:=by rfl)(hdb:(c == ("__debug__":Str))=false:=by decide):∃ C,cm.err c=some C/\PMk X (.Call (.Name c p) [] [] pos) (λ_ H Q=>Q (.ref C) none H):=by
 obtain⟨C,hC,hm,he,hk,h1,h2⟩:=V.ex;refine⟨C,hC,λpins s σ H Q I h=>?_⟩;refine wpAny_Call_Name_kw (ld_glob I hg hm ?_ hdb);refine PySem.W.callWith_K0 I.kIn hk ?_;obtain⟨bm,N,nm,qn,bs,hdct,sn,sub,ab,col,dd,k0,k1,k2,k3,k5,mN,hC,hN,hni,T⟩:=exc_obj I.kIn he;refine wpAny_call_exc_subT PySem.F.excBase_ValueError T hC hN hni (λh' e hm=>?_) (rJ _);exact mk_of I hm (raises_own h1 h2) h (I.hok.gone hm.new)
theorem zmq(V:ErrNAt X.K X.mg cm c)(hc:X.calm=true)(tk:Takes X W)(hg:Gl X c:=by rfl)(hdb:(c == ("__debug__":Str))=false:=by decide):JS X cm W (.Raise (some (.Call (.Name c p) [] [] pos)) none rpos) (zfU c):=by
 obtain⟨C,hC,mk⟩:=zoZ (p:=p) (pos:=pos) V hg hdb;refine(ps_raise hc tk mk).imp ?_;rintro D σ H ⟨p,e,s,re,rs,q⟩;exact q p H σ (.ref C) none Fut.refl rs re ⟨C,hC,rfl,rfl⟩
end
section
variable{K:oU}{cm:CM}{h:Heap}{mg:Str->Option Value}
def zov(K:oU)(c:Str):Bool:=(He.Fa.glo c).ok K&&(PySem.W.excIn K (He.ga K c) PySem.HandSPX.veTail "ValueError.__new__"&&(PySem.W.keepIn K (.ref (He.ga K c))&&(decide (PySem.W.subIn K (.ref (He.ga K c)) (.type "BaseException")=some true)&&decide (PySem.W.typeIn K (.ref (He.ga K c))=some (.type "type")))))
theorem zow{c:Str}(X:K.In h)(G:h.Ns mainGlobals mg)(hcm:cm.err c=some (He.ga K c))(e:zov K c=true):ErrNAt K mg cm c:=by
 unfold zov at e;obtain⟨a1,e⟩:=He.ba e;obtain⟨a2,e⟩:=He.ba e;obtain⟨a3,e⟩:=He.ba e;obtain⟨a4,a5⟩:=He.ba e;exact⟨_,hcm,He.glo_ok X G a1,a2,a3,of_decide_eq_true a4,of_decide_eq_true a5⟩
end
end Fc
namespace Law_k86
open PySem PySem.Spec PyProof.Rows L2 Fc
noncomputable section
def top(i:Nat):Stmt:=PySem.Challenge.pw_fallingcalls_k86_whole_greatest_values.main.body.getD i (.Pass ⟨0,0,0,0⟩)
def zdp:=De "_law_cell" (top 44)
def jf:=De "_law_generator" (top 46)
def zdr:=De "_law_hash" (top 45)
def zbe:=De "_law_random" (top 47)
def zbV:=De "_law_title" (top 48)
def zbR:=De "_law_heads" (top 49)
def zdo:=De "_law_arcs" (top 54)
def zbQ:=De "_law_drawn" (top 50)
def zbT:=De "_law_tamed" (top 55)
def zdq:=De "_law_grid" (top 51)
def zbd:=De "_law_listed" (top 53)
def zbU:=De "_law_times" (top 52)
def zar:=De "_law_reached" (top 56)
def zbS:=De "_law_sized" (top 57)
def zbc:=De "check_list" (top 17)
def zeX:=De "is_name" (top 16)
def zdn:=De "is_whole" (top 15)
def zaq:=De "is_function" (top 20)
def zhq:=De "is_arc" (top 18)
def zeW:=De "is_call" (top 21)
def jP:He.DefD:=⟨("Program",some "__init__"),"__init__","Program.__init__",defArgs (inClass (top 22) 0),defBody (inClass (top 22) 0),defScope (inClass (top 22) 0),[],[]⟩
def zbf:=De "_law_worths" (top 59)
def je:=De "check_program" (top 24)
def vh:=De "check_function_name" (top 26)
def zbb:=De "are_values" (top 27)
def jT:=De "check_values" (top 28)
def zdl:He.DefD:=⟨("Run",some "__init__"),"__init__","Run.__init__",defArgs (inClass (top 31) 0),defBody (inClass (top 31) 0),defScope (inClass (top 31) 0),[],[]⟩
def jQ:He.DefD:=⟨("Run",some "function"),"function","Run.function",defArgs (inClass (top 31) 1),defBody (inClass (top 31) 1),defScope (inClass (top 31) 1),[],[]⟩
def zdk:He.DefD:=⟨("Run",some "held"),"held","Run.held",defArgs (inClass (top 31) 2),defBody (inClass (top 31) 2),defScope (inClass (top 31) 2),[],[]⟩
def jR:He.DefD:=⟨("Run",some "greatest"),"greatest","Run.greatest",defArgs (inClass (top 31) 5),defBody (inClass (top 31) 5),defScope (inClass (top 31) 5),[],[]⟩
def zao:He.DefD:=⟨("Run",some "options"),"options","Run.options",defArgs (inClass (top 31) 7),defBody (inClass (top 31) 7),defScope (inClass (top 31) 7),[],[]⟩
def zds:=De "_law_most" (top 58)
def uw:=De "check_call_name" (top 25)
def zdm:He.DefD:=⟨("Run",some "most"),"most","Run.most",defArgs (inClass (top 31) 6),defBody (inClass (top 31) 6),defScope (inClass (top 31) 6),[],[]⟩
def zeT:He.DefD:=⟨("Run",some "row"),"row","Run.row",defArgs (inClass (top 31) 3),defBody (inClass (top 31) 3),defScope (inClass (top 31) 3),[],[]⟩
def zjz:=De "keeps" (top 29)
def zdj:He.DefD:=⟨("Run",some "call"),"call","Run.call",defArgs (inClass (top 31) 8),defBody (inClass (top 31) 8),defScope (inClass (top 31) 8),[],[]⟩
def zas:=De "_law_refused" (top 60)
def zdi:He.DefD:=⟨("Run",some "back"),"back","Run.back",defArgs (inClass (top 31) 9),defBody (inClass (top 31) 9),defScope (inClass (top 31) 9),[],[]⟩
def uN:=De "_law_call_right" (top 61)
def zap:=De "check_begin" (top 40)
def zbW:=De "strongest" (top 23)
def zeU:=De "arcs_of" (top 33)
def jg:=De "table_of_call" (top 34)
def zhr:=De "joined" (top 35)
def zbX:=De "tables_of" (top 38)
def jU:=De "falls_around" (top 36)
def zeV:=De "goes_on" (top 39)
def jV:=De "least_values" (top 41)
def znp:He.DefD:=⟨("ring",none),"ring","ring",defArgs (top 42),defBody (top 42),defScope (top 42),[],[("start",.non)]⟩
def jc:He.DefD:=⟨("Program",some "calls"),"calls","Program.calls",defArgs (inClass (top 22) 2),defBody (inClass (top 22) 2),defScope (inClass (top 22) 2),[],[]⟩
def jd:He.DefD:=⟨("Program",some "names"),"names","Program.names",defArgs (inClass (top 22) 3),defBody (inClass (top 22) 3),defScope (inClass (top 22) 3),[],[]⟩
def ux:=De "_law_round_right" (top 62)
def vI:He.DefD:=⟨("Program",some "functions"),"functions","Program.functions",defArgs (inClass (top 22) 1),defBody (inClass (top 22) 1),defScope (inClass (top 22) 1),[],[]⟩
def zqw:=De "law" (top 63)
def fn:List He.DefD:=[zdp,jf,zdr,zbe,zbV,zbR,zdo,zbQ,zbT,zdq,zbd,zbU,zar,zbS,zbc,zeX,zdn,zaq,zhq,zeW,jP,zbf,je,vh,zbb,jT,zdl,jQ,zdk,jR,zao,zds,uw,zdm,zeT,zjz,zdj,zas,zdi,uN,zap,zbW,zeU,jg,zhr,zbX,jU,zeV,jV,znp,jc,jd,ux,vI,zqw]
def fa:List He.Fa:=[.free "len",.free "int",.free "max",.free "range",.free "dict",.free "list",.free "min",.free "tuple",.free "sorted",.free "isinstance",.free "str",.free "bool",.free "repr",.free "enumerate",.int "MOST_LETTERS" (12),.str "LETTERS" "abcdefghijklmnopqrstuvwxyz",.int "MOST_MEASURES" (3),.free "super",.glo "_law_cell",.glo "_law_generator",.glo "_law_hash",.glo "_law_random",.glo "_law_title",.glo "_law_heads",.glo "_law_arcs",.glo "_law_drawn",.glo "_law_tamed",.glo "_law_grid",.glo "_law_listed",.glo "_law_times",.glo "_law_reached",.glo "_law_sized",.glo "check_list",.glo "is_name",.glo "is_whole",.glo "is_function",.glo "is_arc",.glo "is_call",.glo "_law_worths",.glo "check_program",.glo "check_function_name",.glo "are_values",.glo "check_values",.glo "_law_most",.glo "check_call_name",.glo "keeps",.glo "_law_refused",.glo "_law_call_right",.glo "check_begin",.glo "strongest",.glo "arcs_of",.glo "table_of_call",.glo "joined",.glo "tables_of",.glo "falls_around",.glo "goes_on",.glo "least_values",.glo "ring",.glo "_law_round_right",.glo "law"]
abbrev R:PySem.W.OpenRow:=PySem.W.OpenLaw.row PySem.Challenge.rw_fallingcalls_k86_whole_greatest_values
abbrev ex1:oU->Bool:=exB ["Program","Run"] [("Program",["Program"]),("Run",["Run"])] [] ["base","known","many","name","places"] [("Run","function"),("Run","held"),("Run","greatest"),("Run","options"),("Run","most"),("Run","row"),("Run","call"),("Run","back"),("Program","calls"),("Program","names"),("Program","functions")]
def jX:EDef:=⟨"InvalidList","value","__init__","InvalidList.__init__",defArgs (inClass (top 3) 0),defBody (inClass (top 3) 0),defScope (inClass (top 3) 0)⟩
def vR:EDef:=⟨"InvalidFunction","value","__init__","InvalidFunction.__init__",defArgs (inClass (top 4) 0),defBody (inClass (top 4) 0),defScope (inClass (top 4) 0)⟩
def jW:EDef:=⟨"InvalidCall","value","__init__","InvalidCall.__init__",defArgs (inClass (top 5) 0),defBody (inClass (top 5) 0),defScope (inClass (top 5) 0)⟩
def uz:EDef:=⟨"InvalidProgram","value","__init__","InvalidProgram.__init__",defArgs (inClass (top 6) 0),defBody (inClass (top 6) 0),defScope (inClass (top 6) 0)⟩
def jY:EDef:=⟨"UnknownName","name","__init__","UnknownName.__init__",defArgs (inClass (top 8) 0),defBody (inClass (top 8) 0),defScope (inClass (top 8) 0)⟩
def uO:EDef:=⟨"InvalidValues","value","__init__","InvalidValues.__init__",defArgs (inClass (top 7) 0),defBody (inClass (top 7) 0),defScope (inClass (top 7) 0)⟩
def zat:EDef:=⟨"CannotCall","name","__init__","CannotCall.__init__",defArgs (inClass (top 9) 0),defBody (inClass (top 9) 0),defScope (inClass (top 9) 0)⟩
def ed:List EDef:=[jX,vR,jW,uz,jY,uO,zat]
abbrev ex:oU->Bool:=λK=>ex1 K&&(zua ["InvalidList","InvalidFunction","InvalidCall","InvalidProgram","UnknownName","InvalidValues","CannotCall","NothingToUndo"] [("Program",["Program"]),("Run",["Run"])] [("CannotCall",["CannotCall"])] ["base","known","many","name","places"] K&&(ed.all (zqA R.prog.main.file K)&&(ztG K&&(["NothingToUndo"]:List Str).all (zov K))))
def asL:List Addr:=[3,6,4,21,31,54,76,98,120,142,164,186,198,207,212,219,226,233,238,307,318,325,332,339,344,351,358,446,455,462,469,474,479,486,493,498,504,511,518,525,532,539,546,553,560,565,572,579,586,593,600,607,612,619,624,631,636,0,20,30,53,75,97,119,141,163,185,197,206,211,218,225,232,237,306,317,324,331,338,343,350,357,445,454,461,468,473,478,485,492,497,503,499,510,517,524,531,538,545,552,559,564,571,578,585,592,599,606,611,618,623,630,635,15,16,17,18,19,29,32,51,52,73,74,95,96,117,118,139,140,161,162,183,184,196,201,202,203,204,205,208,209,210,213,214,215,216,217,220,221,222,223,224,227,228,229,230,231,234,235,236,252,259,264,271,278,283,290,297,304,305,308,309,312,313,314,315,316,319,320,321,322,323,326,327,328,329,330,333,334,335,336,337,340,341,342,345,346,347,348,349,352,353,354,355,356,372,379,386,391,398,403,410,415,422,429,436,443,444,447,448,451,452,453,456,457,458,459,460,463,464,465,466,467,470,471,472,475,476,477,480,481,482,483,484,487,488,489,490,491,494,495,496,500,501,502,505,506,507,508,509,512,513,514,515,516,519,520,521,522,523,526,527,528,529,530,533,534,535,536,537,540,541,542,543,544,547,548,549,550,551,554,555,556,557,558,561,562,563,566,567,568,569,570,573,574,575,576,577,580,581,582,583,584,587,588,589,590,591,594,595,596,597,598,601,602,603,604,605,608,609,610,613,614,615,616,617,620,621,622,625,626,627,628,629,632,633,634,50,43,38,72,65,60,94,87,82,116,109,104,138,131,126,160,153,148,182,175,170,251,258,263,270,277,282,289,296,303,371,378,385,390,397,402,409,414,421,428,435,442,sysModules,cStatics]
abbrev hk:PySem.W.Hook:=zqH asL fa fn ed ex
def ob(s:PySem.W.SharedT):AlE:=zto asL fa fn ed ex (HandSHeadRun.getT s)
abbrev loose:List Str:=(["_wall","CallsError","InvalidList","InvalidFunction","InvalidCall","InvalidProgram","InvalidValues","UnknownName","CannotCall","NothingToUndo","LETTERS","MOST_LETTERS","MOST_MEASURES","is_whole","is_name","check_list","is_arc","is_function","is_call","Program"]:List Str)++(["strongest","check_program","check_call_name","check_function_name","are_values","check_values","keeps","Run","arcs_of","table_of_call","joined","falls_around","tables_of","goes_on","check_begin","least_values","ring","_law_cell","_law_hash","_law_generator"]:List Str)++(["_law_random","_law_title","_law_heads","_law_drawn","_law_grid","_law_times","_law_listed","_law_arcs","_law_tamed","_law_reached","_law_sized","_law_most","_law_worths","_law_refused","_law_call_right","_law_round_right"]:List Str)
section
open PySem.W PyProof.Rows HandSHeadRun
theorem rnJ{S B:Type}{E:Option S}{l:S->Bool}{q:S->B}{b:B}{K:S->PySem.W.Frag}{fa:List He.Fa}{fn:List He.DefD}{ed:List EDef}{ex:PySem.W.Frag->Bool}(a:E.map (fun s=>(l s,q s))=some (true,b))(b1:E.map (fun s=>fa.all fun f=>f.ok (K s))=some true)(b3:E.map (fun s=>ed.map fun d=>ew (K s) d.c)=some (ed.map EDef.val))(c1:E.map (fun s=>fn.all fun d=>d.ok (K s))=some true)(f:E.map (fun s=>fn.map fun d=>He.fnW (K s) d.at_)=some (fn.map He.DefD.val))(g:E.map (fun s=>ex (K s))=some true):E.map (fun s=>(l s,q s,((fa.all (fun f=>f.ok (K s))&&fn.all (fun d=>d.ok (K s)),fn.map fun d=>He.fnW (K s) d.at_),ex (K s)),ed.map fun d=>ew (K s) d.c))=some (true,b,((true,fn.map He.DefD.val),true),ed.map EDef.val):=by
 cases E with
 | none=>cases a
 | some s=>
  simp only [Option.map_some,Option.some.injEq,Prod.mk.injEq] at *
  rw [a.1,a.2,b1,c1,b3,f,g]
  simp
variable(w:World)(os:OsState)
abbrev Ed:=endF (stepQ (denQ tabQ) R.prog w) 6000 R.prog w os
abbrev Kd(s:SharedT):=He.frG (getT s) asL
abbrev Vd:=view R.prog [63]
theorem rnA:(Ed w os).map (fun s=>(looksF R.prog (boot_heap w.params) s.abs,seenQ Vd loose (importedModules R.prog.main.body) (fun s=>xlAt Vd [] s&&recOk R.toRowW.records s) s.abs))=some (true,openGood Vd loose):=by kernel_rfl
theorem rnB:(Ed w os).map (fun s=>fa.all fun f=>f.ok (Kd s))=some true:=by kernel_rfl
theorem rnH:(Ed w os).map (fun s=>ed.map fun d=>ew (Kd s) d.c)=some (ed.map EDef.val):=by kernel_rfl
theorem rnC:(Ed w os).map (fun s=>fn.all fun d=>d.ok (Kd s))=some true:=by kernel_rfl
theorem rnE:(Ed w os).map (fun s=>fn.map fun d=>He.fnW (Kd s) d.at_)=some (fn.map He.DefD.val):=by kernel_rfl
theorem rnF:(Ed w os).map (fun s=>ex (Kd s))=some true:=by kernel_rfl
theorem run:RunEq R (view R.prog [63]) hk ob 6000 loose w:=by
 intro os
 exact rnJ (rnA w os) (rnB w os) (rnH w os) (rnC w os) (rnE w os) (rnF w os)
end
end
end Law_k86
namespace Fc
open PySem
abbrev Xc:=Str->List (Str×D)->S->Prop
@[irreducible] def wE{α:Type}(m:Option (Res α))(Q:α->S->Prop)(X:Xc):Prop:=match m with
 | none=>False
 | some (.ok x s)=>Q x s
 | some (.exc c fs s)=>X c fs s
structure Pst where
 nx:Env->S->Prop
 rt:D->S->Prop
 bk:Env->S->Prop:=λ_ _=>False
 ct:Env->S->Prop:=λ_ _=>False
 xc:Xc
@[irreducible] def wC(r:Option R)(P:Pst):Prop:=match r with
 | none=>False
 | some (.nx e s)=>P.nx e s
 | some (.rt d s)=>P.rt d s
 | some (.bk e s)=>P.bk e s
 | some (.ct e s)=>P.ct e s
 | some (.xc c fs _ s)=>P.xc c fs s
section
variable{α β:Type}{s:S}{σ:Env}{X:Xc}
theorem zsm{m:Option (Res α)}{Q Q':α->S->Prop}{X':Xc}(h:wE m Q X)(k:∀ x s,Q x s->Q' x s)(kx:∀ c fs s,X c fs s->X' c fs s):wE m Q' X':=by
 with_unfolding_all
  match m,h with
  | none,h=>exact False.elim h
  | some (.ok x s),h=>exact k x s h
  | some (.exc c fs s),h=>exact kx c fs s h
theorem zA{m:Option (Res α)}{Q Q':α->S->Prop}(h:wE m Q X)(k:∀ x s,Q x s->Q' x s):wE m Q' X:=by
 with_unfolding_all
  exact zsm h k λ_ _ _ z=>z
theorem zit{m:Option (Res α)}{Q:α->S->Prop}(h:wE m Q (λ_ _ _=>False)):∃ x s,m=some (.ok x s)/\Q x s:=by
 with_unfolding_all
  match m,h with
  | none,h=>exact False.elim h
  | some (.ok x s),h=>exact⟨x,s,rfl,h⟩
  | some (.exc _ _ _),h=>exact False.elim h
theorem zsh{r:Option R}{P P':Pst}(h:wC r P)(h1:∀ e s,P.nx e s->P'.nx e s)(h2:∀ d s,P.rt d s->P'.rt d s)(h3:∀ e s,P.bk e s->P'.bk e s)(h4:∀ e s,P.ct e s->P'.ct e s)(h5:∀ c fs s,P.xc c fs s->P'.xc c fs s):wC r P':=by
 with_unfolding_all
  match r,h with
  | none,h=>exact False.elim h
  | some (.nx e s),h=>exact h1 e s h
  | some (.rt e s),h=>exact h2 e s h
  | some (.bk e s),h=>exact h3 e s h
  | some (.ct e s),h=>exact h4 e s h
  | some (.xc c fs e s),h=>exact h5 c fs s h
@[simp] theorem uX{x:α}{Q:α->S->Prop}:wE (some (.ok x s)) Q X↔Q x s:=by
 with_unfolding_all
  exact Iff.rfl
@[simp] theorem zso{c:Str}{fs:List (Str×D)}{Q:α->S->Prop}:wE (some (.exc c fs s)) Q X↔X c fs s:=by
 with_unfolding_all
  exact Iff.rfl
@[simp] theorem zoa{Q:α->S->Prop}:wE (none:Option (Res α)) Q X↔False:=by
 with_unfolding_all
  exact Iff.rfl
theorem yU{m:M α}{k:α->M β}{Q:β->S->Prop}:wE (bnd m k s) Q X↔wE (m s) (λx s'=>wE (k x s') Q X) X:=by
 with_unfolding_all
  unfold bnd
  cases h:m s with
  | none=>rfl
  | some r=>cases r <;> rfl
theorem w_var{i:Nat}{Q:D->S->Prop}:wE (zf i σ s) Q X↔∃ d,σ[i]?=some (some d)/\Q d s:=by
 with_unfolding_all
  unfold zf;split
  . rename_i d h;simp[h]
  . rename_i h;simp only[zoa,false_iff];rintro⟨d,e,_⟩;exact h d e
theorem zvm{f:D->M D}{a:E}{Q:D->S->Prop}:wE (e1 f a σ s) Q X↔wE (a σ s) (λx s'=>wE (f x s') Q X) X:=by
 with_unfolding_all
  exact yU
theorem zvn{f:D->D->M D}{a b:E}{Q:D->S->Prop}:wE (e2 f a b σ s) Q X↔wE (a σ s) (λx s1=>wE (b σ s1) (λy s2=>wE (f x y s2) Q X) X) X:=by
 with_unfolding_all
  show wE (bnd (a σ) _ s) Q X↔_;rw[yU];constructor
  . intro h;exact zA h λx s1 h=>yU.mp h
  . intro h;exact zA h λx s1 h=>yU.mpr h
theorem zqe{a:E}{r:EL}{Q:List D->S->Prop}:wE (za a r σ s) Q X↔wE (a σ s) (λx s1=>wE (r σ s1) (λxs s2=>Q (x::xs) s2) X) X:=by
 with_unfolding_all
  show wE (bnd (a σ) _ s) Q X↔_;rw[yU];constructor
  . intro h;exact zA h λx s1 h=>yU.mp h
  . intro h;exact zA h λx s1 h=>yU.mpr h
theorem zvp{f:List D->M D}{es:EL}{Q:D->S->Prop}:wE (eN f es σ s) Q X↔wE (es σ s) (λxs s'=>wE (f xs s') Q X) X:=by
 with_unfolding_all
  exact yU
theorem zvo{f:D->List D->M D}{o:E}{es:EL}{Q:D->S->Prop}:wE (eM f o es σ s) Q X↔wE (o σ s) (λx s1=>uB s1 x=true/\wE (es σ s1) (λxs s2=>wE (f x xs s2) Q X) X) X:=by
 with_unfolding_all
  show wE (bnd (o σ) _ s) Q X↔_;rw[yU]
  have key:∀ x s1,wE (if uB s1 x then bnd (es σ) (λxs=>f x xs) s1 else none) Q X↔(uB s1 x=true/\wE (es σ s1) (λxs s2=>wE (f x xs s2) Q X) X):=λx s1=>by
    by_cases h:uB s1 x=true
    . simp[h,yU]
    . simp[h]
  constructor
  . intro h;exact zA h λx s1 h=>(key x s1).mp h
  . intro h;exact zA h λx s1 h=>(key x s1).mpr h
theorem zvq{t:T}{a b:E}{Q:D->S->Prop}:wE (eIf t a b σ s) Q X↔wE (t σ s) (λc s1=>if c=true then wE (a σ s1) Q X else wE (b σ s1) Q X) X:=by
 with_unfolding_all
  show wE (bnd (t σ) _ s) Q X↔_;rw[yU]
  constructor <;> (intro h;refine zA h λx s1 h=>?_;cases x <;> simpa using h)
theorem w_or{a b:E}{Q:D->S->Prop}:wE (eOr a b σ s) Q X↔wE (a σ s) (λx s1=>∃ c,truth s1 x=some c/\if c=true then Q x s1 else wE (b σ s1) Q X) X:=by
 with_unfolding_all
  show wE (bnd (a σ) _ s) Q X↔_;rw[yU]
  constructor <;> (intro h;refine zA h λx s1 h=>?_;revert h;cases e:truth s1 x with | none=>simp | some c=>cases c <;> simp)
theorem w_and{a b:E}{Q:D->S->Prop}:wE (ziw a b σ s) Q X↔wE (a σ s) (λx s1=>∃ c,truth s1 x=some c/\if c=true then wE (b σ s1) Q X else Q x s1) X:=by
 with_unfolding_all
  show wE (bnd (a σ) _ s) Q X↔_;rw[yU]
  constructor <;> (intro h;refine zA h λx s1 h=>?_;revert h;cases e:truth s1 x with | none=>simp | some c=>cases c <;> simp)
theorem zvt{a:E}{Q:Bool->S->Prop}:wE (tE a σ s) Q X↔wE (a σ s) (λx s1=>∃ c,truth s1 x=some c/\Q c s1) X:=by
 with_unfolding_all
  show wE (bnd (a σ) _ s) Q X↔_;rw[yU]
  constructor <;> (intro h;refine zA h λx s1 h=>?_;revert h;cases e:truth s1 x with | none=>simp | some c=>simp)
theorem zvs{a:E}{Q:Bool->S->Prop}:wE (tB a σ s) Q X↔wE (a σ s) (λx s1=>∃ c,x=.bl c/\Q c s1) X:=by
 with_unfolding_all
  show wE (bnd (a σ) _ s) Q X↔_;rw[yU];constructor
  . intro h;refine zA h λx s1 h=>?_
    cases x with
    | bl c=>exact⟨c,rfl,h⟩
    | _=>exact h.elim
  . intro h;refine zA h λx s1 h=>?_;obtain⟨c,rfl,h⟩:=h;exact h
theorem zsw{t:T}{Q:Bool->S->Prop}:wE (tNot t σ s) Q X↔wE (t σ s) (λc s1=>Q (!c) s1) X:=by
 with_unfolding_all
  exact yU
theorem zqc{t:T}{Q:D->S->Prop}:wE (zdW t σ s) Q X↔wE (t σ s) (λc s1=>Q (.bl (!c)) s1) X:=by
 with_unfolding_all
  exact yU
theorem zsv{t u:T}{Q:Bool->S->Prop}:wE (tAnd t u σ s) Q X↔wE (t σ s) (λc s1=>if c=true then wE (u σ s1) Q X else Q false s1) X:=by
 with_unfolding_all
  show wE (bnd (t σ) _ s) Q X↔_;rw[yU]
  constructor <;> (intro h;refine zA h λx s1 h=>?_;cases x <;> simpa[ret]using h)
theorem ztT{t u:T}{Q:Bool->S->Prop}:wE (tOr t u σ s) Q X↔wE (t σ s) (λc s1=>if c=true then Q true s1 else wE (u σ s1) Q X) X:=by
 with_unfolding_all
  show wE (bnd (t σ) _ s) Q X↔_;rw[yU]
  constructor <;> (intro h;refine zA h λx s1 h=>?_;cases x <;> simpa[ret]using h)
theorem zqb{f g:D->D->M D}{a b c:E}{Q:D->S->Prop}:wE (uv f g a b c σ s) Q X↔wE (a σ s) (λx s1=>wE (b σ s1) (λy s2=>wE (f x y s2) (λr s3=>∃ k,r=.bl k/\if k=true then wE (c σ s3) (λz s4=>wE (g y z s4) Q X) X else Q (.bl false) s3) X) X) X:=by
 with_unfolding_all
  show wE (bnd (a σ) _ s) Q X↔_;rw[yU]
  have key:∀(y r:D) (s3:S),wE ((match r with
     | .bl true=>bnd (c σ) λz=>g y z
     | .bl false=>ret (.bl false)
     | _=>stuck:M D) s3) Q X↔∃ k,r=.bl k/\if k=true then wE (c σ s3) (λz s4=>wE (g y z s4) Q X) X else Q (.bl false) s3:=by
    intro y r s3
    cases r with
    | bl k =>
     cases k
     . simp[ret]
     . simp[yU]
    | _=>simp[stuck]
  constructor
  . intro h;refine zA h λx s1 h=>zA (yU.mp h) λy s2 h=>zA (yU.mp h) λr s3 h=>(key y r s3).mp h
  . intro h;refine zA h λx s1 h=>yU.mpr (zA h λy s2 h=>yU.mpr (zA h λr s3 h=>(key y r s3).mpr h))
theorem w_call{f:F}{dfl:List D}{es:EL}{Q:D->S->Prop}:wE (zB f dfl es σ s) Q X↔wE (es σ s) (λds s1=>wE (f (ds++dfl) s1) Q X) X:=by
 with_unfolding_all
  exact yU
theorem ztR{a:E}{lo hi:EO}{Q:D->S->Prop}:wE (zdU a lo hi σ s) Q X↔wE (a σ s) (λx s1=>wE (lo σ s1) (λl s2=>wE (hi σ s2) (λh s3=>wE (zph x l h s3) Q X) X) X) X:=by
 with_unfolding_all
  show wE (bnd (a σ) _ s) Q X↔_;rw[yU];constructor
  . intro h;exact zA h λx s1 h=>zA (yU.mp h) λy s2 h=>yU.mp h
  . intro h;exact zA h λx s1 h=>yU.mpr (zA h λy s2 h=>yU.mpr h)
theorem zst{a:E}{Q:Option Int->S->Prop}:wE (zej a σ s) Q X↔wE (a σ s) (λx s1=>∃ i,x=.int i/\Q (some i) s1) X:=by
 with_unfolding_all
  show wE (bnd (a σ) _ s) Q X↔_;rw[yU];constructor
  . intro h;refine zA h λx s1 h=>?_
    cases x with
    | int c=>exact⟨c,rfl,h⟩
    | _=>exact h.elim
  . intro h;refine zA h λx s1 h=>?_;obtain⟨c,rfl,h⟩:=h;exact h
theorem zsp{d k z:E}{Q:D->S->Prop}:wE (zdV d k z σ s) Q X↔wE (d σ s) (λx s1=>isDict s1 x=true/\wE (k σ s1) (λy s2=>wE (z σ s2) (λw s3=>∃ o,uL s3 x y=some o/\Q (o.getD w) s3) X) X) X:=by
 with_unfolding_all
  show wE (bnd (d σ) _ s) Q X↔_;rw[yU]
  have key:∀ x s1,wE (if isDict s1 x then bnd (k σ) (λy=>bnd (z σ) λw=>λs=>(uL s x y).map λo=>Res.ok (o.getD w) s) s1 else none) Q X↔(isDict s1 x=true/\wE (k σ s1) (λy s2=>wE (z σ s2) (λw s3=>∃ o,uL s3 x y=some o/\Q (o.getD w) s3) X) X):=by
    intro x s1;by_cases h:isDict s1 x=true
    . simp only[h,if_true,true_and,yU];constructor
      . intro h;refine zA h λy s2 h=>zA h λw s3 h=>?_
        cases e:uL s3 x y with
        | none=>simp[e]at h
        | some o=>simp only[e,sE,uX]at h;exact⟨o,rfl,h⟩
      . intro h;refine zA h λy s2 h=>zA h λw s3 h=>?_;obtain⟨o,e,h⟩:=h;simp only[e,sE,uX];exact h
    . simp[h]
  constructor
  . intro h;exact zA h λx s1 h=>(key x s1).mp h
  . intro h;exact zA h λx s1 h=>(key x s1).mpr h
theorem zne{α:Type}{o:Option α}{f:α->Res β}{Q:β->S->Prop}:wE (o.map f) Q X↔∃ x,o=some x/\wE (some (f x)) Q X:=by
 with_unfolding_all
  cases o <;> simp
theorem zsu{f:S->D->D->Option D}{x y:D}{Q:D->S->Prop}:wE (zbA f x y s) Q X↔∃ d,f s x y=some d/\Q d s:=by
 with_unfolding_all
  unfold zbA;rw[zne];rfl
theorem uF{r:Option (Res α)}{k:α->S->Option R}{P:Pst}:wC (ex σ r k) P↔wE r (λx s'=>wC (k x s') P) P.xc:=by
 with_unfolding_all
  cases r with
  | none=>rfl
  | some r=>cases r <;> rfl
theorem zsj{a b:C}{P:Pst}:wC (zE a b σ s) P↔wC (a σ s) { P with nx:=λe s=>wC (b e s) P }:=by
 with_unfolding_all
  unfold zE
  cases h:a σ s with
  | none=>rfl
  | some r=>cases r <;> rfl
theorem ztQ{t:T}{a b:C}{P:Pst}:wC (cIf t a b σ s) P↔wE (t σ s) (λc s1=>if c=true then wC (a σ s1) P else wC (b σ s1) P) P.xc:=by
 with_unfolding_all
  show wC (ex σ (t σ s) _) P↔_;rw[uF]
  constructor <;> (intro h;refine zA h λx s1 h=>?_;cases x <;> simpa using h)
theorem znZ{o:Option Env}{P:Pst}:wC (o.map λσ'=>R.nx σ' s) P↔∃ σ',o=some σ'/\P.nx σ' s:=by
 with_unfolding_all
  cases o with
  | none=>simp[wC]
  | some e=>simp[wC]
theorem zsk{e:E}{g:G}{P:Pst}:wC (zQ e g σ s) P↔wE (e σ s) (λd s1=>∃ σ',g d σ s1=some σ'/\P.nx σ' s1) P.xc:=by
 with_unfolding_all
  show wC (ex σ (e σ s) _) P↔_;rw[uF];constructor
  . intro h;exact zA h λx s1 h=>znZ.mp h
  . intro h;exact zA h λx s1 h=>znZ.mpr h
theorem zsi{i j:Nat}{es:EL}{P:Pst}:wC (zfT i j es σ s) P↔wE (es σ s) (λds s1=>∃ x y,ds=[x,y]/\P.nx ((σ.set i (some x)).set j (some y)) s1) P.xc:=by
 with_unfolding_all
  show wC (ex σ (es σ s) _) P↔_;rw[uF];constructor
  . intro h;refine zA h λds s1 h=>?_;split at h
    . exact⟨_,_,rfl,h⟩
    . exact h.elim
  . intro h;refine zA h λds s1 h=>?_;obtain⟨x,y,rfl,h⟩:=h;exact h
theorem zsl{o i e:E}{P:Pst}:wC (jE o i e σ s) P↔wE (e σ s) (λv s1=>wE (o σ s1) (λx s2=>wE (i σ s2) (λy s3=>∃ n ob,x=.ref n/\s3[n]?=some ob /\
  ((∃ ds k j,ob=.lst ds/\y=.int k/\L2.ixN ds.length k=some j/\P.nx σ (s3.set n (.lst (ds.set j v))))\/((∀ ds,ob≠.lst ds)/\∃ o',dput ob y v=some o'/\P.nx σ (s3.set n o')))) P.xc) P.xc) P.xc:=by
 with_unfolding_all
  show wC (ex σ (e σ s) _) P↔_;rw[uF]
  have key:∀(v x y:D) (s3:S),wC (match x with
     | .ref n=>match s3[n]? with
      | some (.lst ds)=>match y with
       | .int k=>(L2.ixN ds.length k).map λj=>R.nx σ (s3.set n (.lst (ds.set j v)))
       | _=>none
      | some ob=>(dput ob y v).map λo'=>R.nx σ (s3.set n o')
      | none=>none
     | _=>none) P↔∃ n ob,x=.ref n/\s3[n]?=some ob /\
    ((∃ ds k j,ob=.lst ds/\y=.int k/\L2.ixN ds.length k=some j/\P.nx σ (s3.set n (.lst (ds.set j v))))\/((∀ ds,ob≠.lst ds)/\∃ o',dput ob y v=some o'/\P.nx σ (s3.set n o'))):=by
    intro v x y s3
    cases x with
    | ref n =>
     dsimp only
     cases hn:s3[n]? with
     | none=>simp[wC,hn]
     | some ob =>
      cases ob with
      | lst ds =>
       cases y with
       | int k =>
        dsimp only
        cases hj:L2.ixN ds.length k with
        | none=>simp[wC,hn,hj]
        | some j=>simp[wC,hn,hj]
       | _=>simp[wC,hn]
      | _ =>
       dsimp only
       cases hj:dput _ y v with
       | none=>simp[wC,hn,hj]
       | some j=>simp[wC,hn,hj]
    | _=>simp[wC]
  constructor
  . intro h;exact zA h λv s1 h=>zA (uF.mp h) λx s2 h=>zA (uF.mp h) λy s3 h=>(key v x y s3).mp h
  . intro h;exact zA h λv s1 h=>uF.mpr (zA h λx s2 h=>uF.mpr (zA h λy s3 h=>(key v x y s3).mpr h))
theorem ztS{np nn:Nat}{b:C}{ds:List D}{Q:D->S->Prop}:wE (yg np nn b ds s) Q X↔ds.length=np/\wC (b (ds.map some++List.replicate (nn - np) none) s) { nx:=λ_ s'=>Q .non s',rt:=Q,xc:=X }:=by
 with_unfolding_all
  unfold yg;by_cases h:ds.length=np
  . rw[if_pos h]
    cases e:b (ds.map some++List.replicate (nn - np) none) s with
    | none=>simp[wC,e]
    | some r=>cases r <;> simp[wC,wE,h]
  . rw[if_neg h];simp[h]
theorem vg{g:G}{b:C}{P:Pst}:wC (zdt g b [] σ s) P↔P.nx σ s:=by
 with_unfolding_all
  exact Iff.rfl
theorem zX{g:G}{b:C}{d:D}{r:List D}{P:Pst}:wC (zdt g b (d::r) σ s) P↔∃ σ1,g d σ s=some σ1/\wC (b σ1 s) { P with nx:=λe s=>wC (zdt g b r e s) P,ct:=λe s=>wC (zdt g b r e s) P,bk:=P.nx }:=by
 with_unfolding_all
  conv=>lhs;unfold zdt
  cases h:g d σ s with
  | none=>simp[wC]
  | some σ1 =>
   simp only[Option.some.injEq,exists_eq_left']
   cases h2:b σ1 s with
   | none=>rfl
   | some x=>cases x <;> rfl
theorem yP{g:G}{b:C}{P:Pst}(I:List D->Env->S->Prop):∀(ds:List D) {σ:Env}{s:S},I ds σ s ->
  (∀ d r σ s,I (d::r) σ s->∃ σ1,g d σ s=some σ1/\wC (b σ1 s) { P with nx:=λe s=>I r e s,ct:=λe s=>I r e s,bk:=P.nx })->(∀ σ s,I [] σ s->P.nx σ s)->wC (zdt g b ds σ s) P
 | [],σ,s,h,_,hd=>by
  with_unfolding_all
    exact hd σ s h
 | d::r,σ,s,h,hs,hd=>by
  rw[zX];obtain⟨σ1,h1,h2⟩:=hs d r σ s h;refine⟨σ1,h1,zsh h2 (λe s h=>?_) (λ_ _ z=>z) (λ_ _ z=>z) (λe s h=>?_) λ_ _ _ z=>z⟩
  . exact yP I r h hs hd
  . exact yP I r h hs hd
theorem zsg{src:SrcE}{g:G}{b:C}{P:Pst}:wC (xg src g b σ s) P↔wE (src σ s) (λsk s1=>wC (match sk with
  | .vals ds=>zdt g b ds σ s1
  | .list n k=>forL n g b k 0 σ s1
  | .dict n ds=>zcX n s1 λs2=>zdt g b ds σ s2) P) P.xc:=by
 with_unfolding_all
  exact uF
theorem zsq{k:Src}{e:E}{Q:SK->S->Prop}:wE (yG k e σ s) Q X↔wE (e σ s) (λx s1=>∃ sk,srcOf k x s1=some sk/\Q sk s1) X:=by
 with_unfolding_all
  show wE (bnd (e σ) _ s) Q X↔_;rw[yU];constructor
  . intro h;exact zA h λx s1 h=>zne.mp h
  . intro h;exact zA h λx s1 h=>zne.mpr h
theorem znb{a b:E}{Q:SK->S->Prop}:wE (yf a b σ s) Q X↔wE (a σ s) (λx s1=>wE (b σ s1) (λy s2=>∃ i j,x=.int i/\y=.int j/\(small i&&small j)=true/\Q (.vals (yx i j)) s2) X) X:=by
 with_unfolding_all
  show wE (bnd (a σ) _ s) Q X↔_;rw[yU]
  have key:∀(x y:D) (s2:S),wE (match x,y with
      | .int i,.int j=>if small i&&small j then some (Res.ok (SK.vals (yx i j)) s2)else none
      | _,_=>none) Q X↔∃ i j,x=.int i/\y=.int j/\(small i&&small j)=true/\Q (.vals (yx i j)) s2:=by
    intro x y s2;split
    . rename_i i j;by_cases h:(small i&&small j)=true
      . rw[if_pos h];exact⟨λq=>⟨i,j,rfl,rfl,h,q⟩,λ⟨_,_,e1,e2,_,q⟩=>by cases e1;cases e2;exact q⟩
      . rw[if_neg h];exact⟨λq=>q.elim,λ⟨_,_,e1,e2,h',_⟩=>by cases e1;cases e2;exact h h'⟩
    . rename_i h;simp only[zoa,false_iff];rintro⟨i,j,rfl,rfl,_⟩;exact h i j rfl rfl
  constructor
  . intro h;exact zA h λx s1 h=>zA (yU.mp h) λy s2 h=>(key x y s2).mp h
  . intro h;exact zA h λx s1 h=>yU.mpr (zA h λy s2 h=>(key x y s2).mpr h)
theorem zbH{t:T}{b:C}{P:Pst}(I:Nat->Env->S->Prop)(n:Nat)(h:I n σ s)
  (hs:∀ n σ s,I n σ s->wE (t σ s) (λc s1=>if c=true then ∃ m,n=m+1/\wC (b σ s1) { P with nx:=λe s=>I m e s,ct:=λe s=>I m e s,bk:=P.nx }else P.nx σ s1) P.xc):wC (vq t b σ s) P:=by
 with_unfolding_all
  have key:∀ n σ s,I n σ s->∃ k r,wV t b k σ s=some r/\wC (some r) P:=by
   intro n
   induction n using Nat.strongRecOn with
   | ind n ih =>
    intro σ s hI;have h1:=hs n σ s hI
    cases ht:t σ s with
    | none=>rw[ht]at h1;exact h1.elim
    | some r =>
     rw[ht]at h1
     cases r with
     | exc c fs s'=>exact⟨1,.xc c fs σ s',by simp[wV,ex,ht],h1⟩
     | ok c s1 =>
      cases c with
      | false =>
       refine⟨1,.nx σ s1,by simp[wV,ex,ht],?_⟩;simpa[wC]using h1
      | true =>
       simp only[uX,if_true]at h1;obtain⟨m,rfl,h2⟩:=h1
       cases hb:b σ s1 with
       | none=>rw[hb]at h2;exact h2.elim
       | some r =>
        rw[hb]at h2
        cases r with
        | nx e2 s2 =>
         obtain⟨k,r,h3,h4⟩:=ih m (Nat.lt_succ_self _) e2 s2 h2;exact⟨k+1,r,by simp[wV,ex,ht,hb,h3],h4⟩
        | ct e2 s2 =>
         obtain⟨k,r,h3,h4⟩:=ih m (Nat.lt_succ_self _) e2 s2 h2;exact⟨k+1,r,by simp[wV,ex,ht,hb,h3],h4⟩
        | bk e2 s2=>exact⟨1,.nx e2 s2,by simp[wV,ex,ht,hb],h2⟩
        | rt d2 s2=>exact⟨1,.rt d2 s2,by simp[wV,ex,ht,hb],h2⟩
        | xc c fs e2 s2=>exact⟨1,.xc c fs e2 s2,by simp[wV,ex,ht,hb],h2⟩
  obtain⟨k,r,h1,h2⟩:=key n σ s h
  have mono:∀ k σ s r,wV t b k σ s=some r->∀ j,wV t b (k+j) σ s=some r:=by
   intro k
   induction k with
   | zero=>intro σ s r h;simp[wV]at h
   | succ k ih =>
    intro σ s r h j;rw[show k+1+j=(k+j)+1 by omega];unfold wV ex at h ⊢
    cases ht:t σ s with
    | none=>rw[ht]at h;simp at h
    | some q =>
     rw[ht]at h
     cases q with
     | exc c fs s'=>exact h
     | ok c s1 =>
      cases c with
      | false=>exact h
      | true =>
       simp only[if_true]at h ⊢
       cases hb:b σ s1 with
       | none=>rw[hb]at h;simp at h
       | some q =>
        rw[hb]at h
        cases q with
        | nx e2 s2=>exact ih e2 s2 r h j
        | ct e2 s2=>exact ih e2 s2 r h j
        | bk e2 s2=>exact h
        | rt d2 s2=>exact h
        | xc c fs e2 s2=>exact h
  unfold vq
  have hx:∃ r,∃ n,wV t b n σ s=some r:=⟨r,k,h1⟩
  rw[dif_pos hx];obtain⟨k',hk'⟩:=pX hx;have e1:=mono k σ s r h1 k';have e2:=mono k' σ s _ hk' k;rw[Nat.add_comm]at e2;rw[e1]at e2;rw[← Option.some.inj e2];exact h2
theorem zlu{D0:Nat}{vs:List Nat}{g:G}{t:T}{e:E}(I:List D->List D->S->Prop):∀(ds acc:List D) {s:S},I ds acc s->s[D0]?=some (.lst acc) ->
  (∀ d r acc s,I (d::r) acc s->s[D0]?=some (.lst acc)->∃ σ1,g d (wipe σ vs) s=some σ1/\wE (t σ1 s) (λc s1=>if c=true then wE (e σ1 s1) (λy s2=>s2[D0]?=some (.lst acc)/\acc.length<16777216/\I r (acc++[y]) (s2.set D0 (.lst (acc++[y])))) (λ_ _ _=>False)else s1[D0]?=some (.lst acc)/\I r acc s1) (λ_ _ _=>False)) ->
  ∃ s' acc',lcV D0 vs g t e ds σ s=some s'/\s'[D0]?=some (.lst acc')/\I [] acc' s'
 | [],acc,s,h,hD,_=>⟨s,acc,rfl,hD,h⟩
 | d::r,acc,s,h,hD,hs=>by
  with_unfolding_all
   obtain⟨σ1,h1,h2⟩:=hs d r acc s h hD;unfold lcV;rw[h1];dsimp only
   cases ht:t σ1 s with
   | none=>rw[ht]at h2;exact h2.elim
   | some q =>
    rw[ht]at h2
    cases q with
    | exc c fs s'=>exact h2.elim
    | ok c s1 =>
     cases c with
     | false =>
      simp only[uX,rR,if_false]at h2;exact zlu I r acc h2.2 h2.1 hs
     | true =>
      simp only[uX,if_true]at h2;dsimp only
      cases he:e σ1 s1 with
      | none=>rw[he]at h2;exact h2.elim
      | some q =>
       rw[he]at h2
       cases q with
       | exc c fs s'=>exact h2.elim
       | ok y s2 =>
        obtain⟨h3,h4,h5⟩:=uX.mp h2;have hl:D0<s2.length:=(su.mp h3).1;dsimp only;unfold zcd;rw[h3];dsimp only;rw[if_pos h4];exact zlu I r (acc++[y]) h5 (by rw[sY hl]) hs
theorem zvr{vs:List Nat}{src:SrcE}{g:G}{t:T}{e:E}{Q:D->S->Prop}:wE (eLc vs src g t e σ s) Q X↔wE (src σ s) (λsk s1=>wE (match sk with
  | .vals ds=>uf s1 λD0 s2=>lcV D0 vs g t e ds σ s2
  | .list n k=>uf s1 λD0 s2=>lcL D0 n vs g t e k 0 σ s2
  | .dict n ds=>vK n s1 λs2=>uf s2 λD0 s3=>lcV D0 vs g t e ds σ s3) Q X) X:=by
 with_unfolding_all
  exact yU
theorem zaZ{f:Nat->S->Option S}{Q:D->S->Prop}:wE (uf s f) Q X↔∃ s',f s.length (s++[.lst []])=some s'/\Q (.ref s.length) s':=by
 with_unfolding_all
  unfold uf;rw[zne];rfl
end
section
variable{α β:Type}{s:S}{σ:Env}{X:Xc}
def onD(o:Option (Option D))(k:D->Prop):Prop:=match o with
 | some (some d)=>k d
 | _=>False
@[simp] theorem jK{d:D}{k:D->Prop}:onD (some (some d)) k↔k d:=by
 with_unfolding_all
  exact Iff.rfl
def onO{α:Type}(o:Option α)(k:α->Prop):Prop:=match o with
 | some d=>k d
 | none=>False
@[simp] theorem zK{d:α}{k:α->Prop}:onO (some d) k↔k d:=by
 with_unfolding_all
  exact Iff.rfl
@[simp] theorem zsB{k:α->Prop}:onO none k↔False:=by
 with_unfolding_all
  exact Iff.rfl
theorem ju{o:Option α}{k:α->Prop}:onO o k↔∃ d,o=some d/\k d:=by
 with_unfolding_all
  cases o <;> simp
def onB(x:D)(k:Bool->Prop):Prop:=match x with
 | .bl c=>k c
 | _=>False
@[simp] theorem znC{c:Bool}{k:Bool->Prop}:onB (.bl c) k↔k c:=by
 with_unfolding_all
  exact Iff.rfl
theorem zkz{x:D}{k:Bool->Prop}:onB x k↔∃ c,x=.bl c/\k c:=by
 with_unfolding_all
  cases x <;> simp[onB]
def onI(x:D)(k:Int->Prop):Prop:=match x with
 | .int c=>k c
 | _=>False
@[simp] theorem zkB{c:Int}{k:Int->Prop}:onI (.int c) k↔k c:=by
 with_unfolding_all
  exact Iff.rfl
theorem zkA{x:D}{k:Int->Prop}:onI x k↔∃ c,x=.int c/\k c:=by
 with_unfolding_all
  cases x <;> simp[onI]
def onT(c:Bool)(a b:Prop):Prop:=if c=true then a else b
@[simp] theorem yI{a b:Prop}:onT true a b↔a:=by
 with_unfolding_all
  simp[onT]
@[simp] theorem zgC{a b:Prop}:onT false a b↔b:=by
 with_unfolding_all
  simp[onT]
theorem zpm{c:Bool}{a b:Prop}:onT c a b↔(c=true->a)/\(c=false->b):=by
 with_unfolding_all
  cases c <;> simp[onT]
theorem xX{c:Bool}{a b:Prop}(h1:c=true->a)(h2:c=false->b):onT c a b:=by
 with_unfolding_all
  exact zpm.mpr ⟨h1,h2⟩
@[simp ↓] theorem v_var{i:Nat}{Q:D->S->Prop}:wE (zf i σ s) Q X↔onD σ[i]? λd=>Q d s:=by
 with_unfolding_all
  rw[w_var];unfold onD
  cases h:σ[i]? with
  | none=>simp
  | some o=>cases o <;> simp
@[simp ↓] theorem v_c{d:D}{Q:D->S->Prop}:wE (eC d σ s) Q X↔Q d s:=by
 with_unfolding_all
  exact Iff.rfl
@[simp ↓] theorem zuZ{f:D->M D}{a:E}{Q:D->S->Prop}:wE (e1 f a σ s) Q X↔wE (a σ s) (λx s'=>wE (f x s') Q X) X:=by
 with_unfolding_all
  exact zvm
@[simp ↓] theorem zva{f:D->D->M D}{a b:E}{Q:D->S->Prop}:wE (e2 f a b σ s) Q X↔wE (a σ s) (λx s1=>wE (b σ s1) (λy s2=>wE (f x y s2) Q X) X) X:=by
 with_unfolding_all
  exact zvn
@[simp ↓] theorem znX{Q:List D->S->Prop}:wE (zj σ s) Q X↔Q [] s:=by
 with_unfolding_all
  exact Iff.rfl
@[simp ↓] theorem zgV{a:E}{r:EL}{Q:List D->S->Prop}:wE (za a r σ s) Q X↔wE (a σ s) (λx s1=>wE (r σ s1) (λxs s2=>Q (x::xs) s2) X) X:=by
 with_unfolding_all
  exact zqe
@[simp ↓] theorem zvc{f:List D->M D}{es:EL}{Q:D->S->Prop}:wE (eN f es σ s) Q X↔wE (es σ s) (λxs s'=>wE (f xs s') Q X) X:=by
 with_unfolding_all
  exact zvp
@[simp ↓] theorem zvb{f:D->List D->M D}{o:E}{es:EL}{Q:D->S->Prop}:wE (eM f o es σ s) Q X↔wE (o σ s) (λx s1=>onT (uB s1 x) (wE (es σ s1) (λxs s2=>wE (f x xs s2) Q X) X) False) X:=by
 with_unfolding_all
  rw[zvo]
  constructor <;> (intro h;refine zA h λx s1 h=>?_;revert h;cases uB s1 x <;> simp)
@[simp ↓] theorem zvF{t:T}{a b:E}{Q:D->S->Prop}:wE (eIf t a b σ s) Q X↔wE (t σ s) (λc s1=>onT c (wE (a σ s1) Q X) (wE (b σ s1) Q X)) X:=by
 with_unfolding_all
  exact zvq
@[simp ↓] theorem v_or{a b:E}{Q:D->S->Prop}:wE (eOr a b σ s) Q X↔wE (a σ s) (λx s1=>onO (truth s1 x) λc=>onT c (Q x s1) (wE (b σ s1) Q X)) X:=by
 with_unfolding_all
  rw[w_or]
  constructor <;> (intro h;refine zA h λx s1 h=>?_;revert h;simp[ju,onT])
@[simp ↓] theorem v_and{a b:E}{Q:D->S->Prop}:wE (ziw a b σ s) Q X↔wE (a σ s) (λx s1=>onO (truth s1 x) λc=>onT c (wE (b σ s1) Q X) (Q x s1)) X:=by
 with_unfolding_all
  rw[w_and]
  constructor <;> (intro h;refine zA h λx s1 h=>?_;revert h;simp[ju,onT])
@[simp ↓] theorem zvH{a:E}{Q:Bool->S->Prop}:wE (tE a σ s) Q X↔wE (a σ s) (λx s1=>onO (truth s1 x) λc=>Q c s1) X:=by
 with_unfolding_all
  rw[zvt]
  constructor <;> (intro h;refine zA h λx s1 h=>?_;revert h;simp[ju])
@[simp ↓] theorem zvk{a:E}{Q:Bool->S->Prop}:wE (tB a σ s) Q X↔wE (a σ s) (λx s1=>onB x λc=>Q c s1) X:=by
 with_unfolding_all
  rw[zvs]
  constructor <;> (intro h;refine zA h λx s1 h=>?_;revert h;simp[zkz])
@[simp ↓] theorem zuz{t:T}{Q:Bool->S->Prop}:wE (tNot t σ s) Q X↔wE (t σ s) (λc s1=>Q (!c) s1) X:=by
 with_unfolding_all
  exact zsw
@[simp ↓] theorem ztM{t:T}{Q:D->S->Prop}:wE (zdW t σ s) Q X↔wE (t σ s) (λc s1=>Q (.bl (!c)) s1) X:=by
 with_unfolding_all
  exact zqc
@[simp ↓] theorem zuy{t u:T}{Q:Bool->S->Prop}:wE (tAnd t u σ s) Q X↔wE (t σ s) (λc s1=>onT c (wE (u σ s1) Q X) (Q false s1)) X:=by
 with_unfolding_all
  exact zsv
@[simp ↓] theorem zvl{t u:T}{Q:Bool->S->Prop}:wE (tOr t u σ s) Q X↔wE (t σ s) (λc s1=>onT c (Q true s1) (wE (u σ s1) Q X)) X:=by
 with_unfolding_all
  exact ztT
@[simp ↓] theorem zsf{Q:Bool->S->Prop}:wE (tYes σ s) Q X↔Q true s:=by
 with_unfolding_all
  exact Iff.rfl
@[simp ↓] theorem ztL{f g:D->D->M D}{a b c:E}{Q:D->S->Prop}:wE (uv f g a b c σ s) Q X↔wE (a σ s) (λx s1=>wE (b σ s1) (λy s2=>wE (f x y s2) (λr s3=>onB r λk=>onT k (wE (c σ s3) (λz s4=>wE (g y z s4) Q X) X) (Q (.bl false) s3)) X) X) X:=by
 with_unfolding_all
  rw[zqb]
  constructor <;> (intro h;refine zA h λx s1 h=>zA h λy s2 h=>zA h λr s3 h=>?_;revert h;simp[zkz,onT])
@[simp ↓] theorem zse{f:F}{dfl:List D}{es:EL}{Q:D->S->Prop}:wE (zB f dfl es σ s) Q X↔wE (es σ s) (λds s1=>wE (f (ds++dfl) s1) Q X) X:=by
 with_unfolding_all
  exact w_call
@[simp ↓] theorem v_cut{a:E}{lo hi:EO}{Q:D->S->Prop}:wE (zdU a lo hi σ s) Q X↔wE (a σ s) (λx s1=>wE (lo σ s1) (λl s2=>wE (hi σ s2) (λh s3=>wE (zph x l h s3) Q X) X) X) X:=by
 with_unfolding_all
  exact ztR
@[simp ↓] theorem zvi{Q:Option Int->S->Prop}:wE (pNo σ s) Q X↔Q none s:=by
 with_unfolding_all
  exact Iff.rfl
@[simp ↓] theorem zux{a:E}{Q:Option Int->S->Prop}:wE (zej a σ s) Q X↔wE (a σ s) (λx s1=>onI x λi=>Q (some i) s1) X:=by
 with_unfolding_all
  rw[zst]
  constructor <;> (intro h;refine zA h λx s1 h=>?_;revert h;simp[zkA])
@[simp ↓] theorem zus{d k z:E}{Q:D->S->Prop}:wE (zdV d k z σ s) Q X↔wE (d σ s) (λx s1=>onT (isDict s1 x) (wE (k σ s1) (λy s2=>wE (z σ s2) (λw s3=>onO (uL s3 x y) λo=>Q (o.getD w) s3) X) X) False) X:=by
 with_unfolding_all
  rw[zsp];constructor
  . intro h;refine zA h λx s1 h=>?_;rw[h.1,yI];refine zA h.2 λy s2 h=>zA h λw s3 h=>?_;rw[ju];exact h
  . intro h;refine zA h λx s1 h=>?_
    cases e:isDict s1 x with
    | false=>rw[e]at h;simp at h
    | true =>
     rw[e,yI]at h;refine⟨rfl,zA h λy s2 h=>zA h λw s3 h=>?_⟩;rw[ju]at h;exact h
@[simp ↓] theorem v_ite{α:Type}{c:Prop}[Decidable c]{m m':Option (Res α)}{Q:α->S->Prop}:wE (if c then m else m') Q X↔onT (decide c) (wE m Q X) (wE m' Q X):=by
 with_unfolding_all
  by_cases h:c <;> simp[h]
@[simp ↓] theorem zvg{α:Type}{o:Option α}{f:α->Res β}{Q:β->S->Prop}:wE (o.map f) Q X↔onO o λx=>wE (some (f x)) Q X:=by
 with_unfolding_all
  cases o <;> simp
@[simp ↓] theorem znY{f:S->D->D->Option D}{x y:D}{Q:D->S->Prop}:wE (zbA f x y s) Q X↔onO (f s x y) λd=>Q d s:=by
 with_unfolding_all
  rw[zsu,ju]
@[simp ↓] theorem zna{o:O}{Q:D->S->Prop}:wE (new o s) Q X↔Q (.ref s.length) (s++[o]):=by
 with_unfolding_all
  exact Iff.rfl
@[simp ↓] theorem zvj{x:α}{Q:α->S->Prop}:wE (ret x s) Q X↔Q x s:=by
 with_unfolding_all
  exact Iff.rfl
@[simp ↓] theorem zvx{P:Pst}{e:Env}:wC (some (.nx e s)) P↔P.nx e s:=by
 with_unfolding_all
  exact Iff.rfl
@[simp ↓] theorem zue{P:Pst}:wC none P↔False:=by
 with_unfolding_all
  exact Iff.rfl
@[simp ↓] theorem zsR{P:Pst}:wC (yh σ s) P↔P.nx σ s:=by
 with_unfolding_all
  exact Iff.rfl
@[simp ↓] theorem xm{a b:C}{P:Pst}:wC (zE a b σ s) P↔wC (a σ s) { P with nx:=λe s=>wC (b e s) P }:=by
 with_unfolding_all
  exact zsj
@[simp ↓] theorem zqP{e:E}{P:Pst}:wC (zR e σ s) P↔wE (e σ s) (λ_ s'=>P.nx σ s') P.xc:=by
 with_unfolding_all
  exact uF
@[simp ↓] theorem zuL{e:E}{P:Pst}:wC (ye e σ s) P↔wE (e σ s) (λd s'=>P.rt d s') P.xc:=by
 with_unfolding_all
  exact uF
@[simp ↓] theorem zsQ{t:T}{a b:C}{P:Pst}:wC (cIf t a b σ s) P↔wE (t σ s) (λc s1=>onT c (wC (a σ s1) P) (wC (b σ s1) P)) P.xc:=by
 with_unfolding_all
  exact ztQ
@[simp ↓] theorem zoM{e:E}{g:G}{P:Pst}:wC (zQ e g σ s) P↔wE (e σ s) (λd s1=>onO (g d σ s1) λσ'=>P.nx σ' s1) P.xc:=by
 with_unfolding_all
  rw[zsk]
  constructor <;> (intro h;refine zA h λx s1 h=>?_;revert h;simp[ju])
@[simp ↓] theorem zsS{i j:Nat}{es:EL}{P:Pst}:wC (zfT i j es σ s) P↔wE (es σ s) (λds s1=>match ds with
  | [x,y]=>P.nx ((σ.set i (some x)).set j (some y)) s1
  | _=>False) P.xc:=by
 with_unfolding_all
  rw[zsi];constructor
  . intro h;refine zA h λds s1 h=>?_;obtain⟨x,y,rfl,h⟩:=h;exact h
  . intro h;refine zA h λds s1 h=>?_;split at h
    . exact⟨_,_,rfl,h⟩
    . exact h.elim
def putAt(s:S)(x y v:D):Option S:=match x with
 | .ref n=>match s[n]? with
  | some (.lst ds)=>match y with
   | .int k=>(L2.ixN ds.length k).map λj=>s.set n (.lst (ds.set j v))
   | _=>none
  | some ob=>(dput ob y v).map λo'=>s.set n o'
  | none=>none
 | _=>none
@[simp ↓] theorem k_sub{o i e:E}{P:Pst}:wC (jE o i e σ s) P↔wE (e σ s) (λv s1=>wE (o σ s1) (λx s2=>wE (i σ s2) (λy s3=>onO (putAt s3 x y v) λs4=>P.nx σ s4) P.xc) P.xc) P.xc:=by
 with_unfolding_all
  rw[zsl]
  have key:∀(v x y:D) (s3:S),onO (putAt s3 x y v) (λs4=>P.nx σ s4)↔∃ n ob,x=.ref n/\s3[n]?=some ob /\
    ((∃ ds k j,ob=.lst ds/\y=.int k/\L2.ixN ds.length k=some j/\P.nx σ (s3.set n (.lst (ds.set j v))))\/((∀ ds,ob≠.lst ds)/\∃ o',dput ob y v=some o'/\P.nx σ (s3.set n o'))):=by
    intro v x y s3;unfold putAt
    cases x with
    | ref n =>
     dsimp only
     cases hn:s3[n]? with
     | none=>simp[hn]
     | some ob =>
      cases ob with
      | lst ds =>
       cases y with
       | int k =>
        dsimp only
        cases hj:L2.ixN ds.length k with
        | none=>simp[hn,hj]
        | some j=>simp[hn,hj]
       | _=>simp[hn]
      | _ =>
       dsimp only
       cases hj:dput _ y v with
       | none=>simp[hn,hj]
       | some j=>simp[hn,hj]
    | _=>simp
  constructor
  . intro h;exact zA h λv s1 h=>zA h λx s2 h=>zA h λy s3 h=>(key v x y s3).mpr h
  . intro h;exact zA h λv s1 h=>zA h λx s2 h=>zA h λy s3 h=>(key v x y s3).mp h
theorem yD{np nn:Nat}{b:C}{ds:List D}{Q:D->S->Prop}(h:ds.length=np):wE (yg np nn b ds s) Q X↔wC (b (ds.map some++List.replicate (nn - np) none) s) { nx:=λ_ s'=>Q .non s',rt:=Q,xc:=X }:=by
 with_unfolding_all
  rw[ztS];simp[h]
@[simp ↓] theorem zmX{src:SrcE}{g:G}{b:C}{P:Pst}:wC (xg src g b σ s) P↔wE (src σ s) (λsk s1=>match sk with
  | .vals ds=>wC (zdt g b ds σ s1) P
  | .list n k=>wC (forL n g b k 0 σ s1) P
  | .dict n ds=>wC (zcX n s1 λs2=>zdt g b ds σ s2) P) P.xc:=by
 with_unfolding_all
  rw[zsg]
  constructor <;> (intro h;refine zA h λx s1 h=>?_;cases x <;> exact h)
@[simp ↓] theorem zut{k:Src}{e:E}{Q:SK->S->Prop}:wE (yG k e σ s) Q X↔wE (e σ s) (λx s1=>onO (srcOf k x s1) λsk=>Q sk s1) X:=by
 with_unfolding_all
  rw[zsq]
  constructor <;> (intro h;refine zA h λx s1 h=>?_;revert h;simp[ju])
@[simp ↓] theorem zis{a b:E}{Q:SK->S->Prop}:wE (yf a b σ s) Q X↔wE (a σ s) (λx s1=>wE (b σ s1) (λy s2=>onI x λi=>onI y λj=>onT (small i&&small j) (Q (.vals (yx i j)) s2) False) X) X:=by
 with_unfolding_all
  rw[znb]
  constructor <;> (intro h;refine zA h λx s1 h=>zA h λy s2 h=>?_;revert h;simp only[zkA,onT])
  . rintro⟨i,j,rfl,rfl,h,q⟩;exact⟨i,rfl,j,rfl,by rw[if_pos h];exact q⟩
  . rintro⟨i,rfl,j,rfl,q⟩;by_cases h:(small i&&small j)=true
    . rw[if_pos h]at q;exact⟨i,j,rfl,rfl,h,q⟩
    . rw[if_neg h]at q;exact q.elim
@[simp ↓] theorem zvG{vs:List Nat}{src:SrcE}{g:G}{t:T}{e:E}{Q:D->S->Prop}:wE (eLc vs src g t e σ s) Q X↔wE (src σ s) (λsk s1=>match sk with
  | .vals ds=>wE (uf s1 λD0 s2=>lcV D0 vs g t e ds σ s2) Q X
  | .list n k=>wE (uf s1 λD0 s2=>lcL D0 n vs g t e k 0 σ s2) Q X
  | .dict n ds=>wE (vK n s1 λs2=>uf s2 λD0 s3=>lcV D0 vs g t e ds σ s3) Q X) X:=by
 with_unfolding_all
  rw[zvr]
  constructor <;> (intro h;refine zA h λx s1 h=>?_;cases x <;> exact h)
end
section
variable{s:S}{σ:Env}{X:Xc}{Q:D->S->Prop}
@[simp ↓] theorem zpi{i j:Int}:wE (xH (.int i) (.int j) s) Q X↔Q (.int (i+j)) s:=by
 with_unfolding_all
  exact Iff.rfl
@[simp ↓] theorem zsX{a b:Str}:wE (xH (.str a) (.str b) s) Q X↔onT (sz (a.length+b.length)) (Q (.str (a++b)) s) False:=by
 with_unfolding_all
  unfold xH;by_cases h:sz (a.length+b.length)=true <;> simp[h]
@[simp ↓] theorem zsY{a b:List D}:wE (xH (.tup a) (.tup b) s) Q X↔onT (sz (a.length+b.length)) (Q (.tup (a++b)) s) False:=by
 with_unfolding_all
  unfold xH;by_cases h:sz (a.length+b.length)=true <;> simp[h]
@[simp ↓] theorem ztm{i j:Int}:wE (znB (.int i) (.int j) s) Q X↔Q (.int (i - j)) s:=by
 with_unfolding_all
  exact Iff.rfl
@[simp ↓] theorem ztg{i j:Int}:wE (jN (.int i) (.int j) s) Q X↔onT (decide (bits i+bits j<900000)) (Q (.int (i*j)) s) False:=by
 with_unfolding_all
  unfold jN;by_cases h:bits i+bits j<900000 <;> simp[h]
@[simp ↓] theorem ztf{i j:Int}:wE (oMod (.int i) (.int j) s) Q X↔onT (decide (0<j)) (Q (.int (i%j)) s) False:=by
 with_unfolding_all
  unfold oMod zbA;by_cases h:0<j <;> simp[h]
@[simp ↓] theorem ztb{i j:Int}:wE (oDiv (.int i) (.int j) s) Q X↔onT (decide (0<j)&&decide (bits j<8000)) (Q (.int (i / j)) s) False:=by
 with_unfolding_all
  unfold oDiv zbA;by_cases h:(decide (0<j)&&decide (bits j<8000))=true
  . rw[h];simp only[if_pos h];simp
  . have h':=Bool.eq_false_iff.mpr h;rw[h'];simp only[if_neg h];simp
@[simp ↓] theorem ztk{i j:Int}:wE (zgt (.int i) (.int j) s) Q X↔onT (decide (0<=j)&&decide ((bits i+1)*j.toNat<=100000)) (Q (.int (i ^ j.toNat)) s) False:=by
 with_unfolding_all
  unfold zgt zbA;by_cases h:(decide (0<=j)&&decide ((bits i+1)*j.toNat<=100000))=true
  . rw[h];simp only[if_pos h];simp
  . have h':=Bool.eq_false_iff.mpr h;rw[h'];simp only[if_neg h];simp
@[simp ↓] theorem zth{i:Int}:wE (zlD (.int i) s) Q X↔Q (.int (-i)) s:=by
 with_unfolding_all
  exact Iff.rfl
@[simp ↓] theorem zui{i j:Int}:wE (oLt (.int i) (.int j) s) Q X↔Q (.bl (decide (i<j))) s:=by
 with_unfolding_all
  exact Iff.rfl
@[simp ↓] theorem zuh{i j:Int}:wE (oLe (.int i) (.int j) s) Q X↔Q (.bl (decide (i<=j))) s:=by
 with_unfolding_all
  exact Iff.rfl
@[simp ↓] theorem zrg{i j:Int}:wE (oGt (.int i) (.int j) s) Q X↔Q (.bl (decide (j<i))) s:=by
 with_unfolding_all
  exact Iff.rfl
@[simp ↓] theorem zuO{x y:D}:wE (oEq x y s) Q X↔onO (eqD s x y) λb=>Q (.bl b) s:=by
 with_unfolding_all
  unfold oEq zbA;cases h:eqD s x y <;> simp[h]
@[simp ↓] theorem zvD{x y:D}:wE (oNe x y s) Q X↔onO (eqD s x y) λb=>Q (.bl (!b)) s:=by
 with_unfolding_all
  unfold oNe zbA;cases h:eqD s x y <;> simp[h]
@[simp ↓] theorem zvB{x y:D}:wE (oIn x y s) Q X↔onO (isIn s x y) λb=>Q (.bl b) s:=by
 with_unfolding_all
  unfold oIn zbA;cases h:isIn s x y <;> simp[h]
@[simp ↓] theorem zti{x y:D}:wE (uC x y s) Q X↔onO (isIn s x y) λb=>Q (.bl (!b)) s:=by
 with_unfolding_all
  unfold uC zbA;cases h:isIn s x y <;> simp[h]
@[simp ↓] theorem zvy{x y:D}:wE (oAt x y s) Q X↔onO (atD s x y) λb=>Q b s:=by
 with_unfolding_all
  unfold oAt zbA;cases h:atD s x y <;> simp[h]
def isNon:D->Bool
 | .non=>true
 | _=>false
@[simp] theorem zqN:isNon .non=true:=by
 with_unfolding_all
  exact rfl
@[simp] theorem zqM{b:Int}:isNon (.int b)=false:=by
 with_unfolding_all
  exact rfl
@[simp] theorem zqO{b:Nat}:isNon (.ref b)=false:=by
 with_unfolding_all
  exact rfl
@[simp ↓] theorem zuP{x:D}:wE (zei x s) Q X↔Q (.bl (isNon x)) s:=by
 with_unfolding_all
  cases x <;> rfl
@[simp ↓] theorem zuj{x:D}:wE (zcn x s) Q X↔Q (.bl (!isNon x)) s:=by
 with_unfolding_all
  cases x <;> rfl
@[simp ↓] theorem zte{x:D}:wE (vA [x] s) Q X↔onO (zfQ s x) λn=>Q (.int n) s:=by
 with_unfolding_all
  unfold vA;cases h:zfQ s x <;> simp[h]
@[simp ↓] theorem ztd{i:Int}:wE (yS [.int i] s) Q X↔Q (.int i) s:=by
 with_unfolding_all
  exact Iff.rfl
@[simp ↓] theorem ztc{b:Bool}:wE (yS [.bl b] s) Q X↔Q (.int (if b then 1 else 0)) s:=by
 with_unfolding_all
  exact Iff.rfl
@[simp ↓] theorem zuR{i j:Int}:wE (zbE [.int i,.int j] s) Q X↔Q (.int (max i j)) s:=by
 with_unfolding_all
  have e:ziL i [j]=max i j:=by
   simp only[ziL];split <;> omega
  unfold zbE mm;simp[e]
@[simp ↓] theorem zuS{i j:Int}:wE (zcT [.int i,.int j] s) Q X↔Q (.int (min i j)) s:=by
 with_unfolding_all
  have e:ziM i [j]=min i j:=by
   simp only[ziM];split <;> omega
  unfold zcT mm;simp[e]
@[simp ↓] theorem zuT{ds:List D}:wE (wg ds s) Q X↔onT (sz ds.length) (Q (.tup ds) s) False:=by
 with_unfolding_all
  unfold wg;cases sz ds.length <;> simp[stuck]
@[simp ↓] theorem zuQ{ds:List D}:wE (yr ds s) Q X↔onT (sz ds.length) (Q (.ref s.length) (s++[.lst ds])) False:=by
 with_unfolding_all
  unfold yr;cases sz ds.length <;> simp[stuck]
@[simp ↓] theorem zvz{Q:D->S->Prop}:wE (mDK s) Q X↔Q (.ref s.length) (s++[.dK []]):=by
 with_unfolding_all
  exact Iff.rfl
@[simp ↓] theorem zvA{Q:D->S->Prop}:wE (mDT s) Q X↔Q (.ref s.length) (s++[.dT []]):=by
 with_unfolding_all
  exact Iff.rfl
@[simp ↓] theorem zvC{t:Ty}{x:D}:wE (oIs t x s) Q X↔onO (ziD s x t) λb=>Q (.bl b) s:=by
 with_unfolding_all
  unfold oIs;cases ziD s x t <;> simp
@[simp ↓] theorem zsA{i:Int}:wE (zcm (.int i) s) Q X↔Q (.int (Builtin.Int.intBits i:Nat)) s:=by
 with_unfolding_all
  exact Iff.rfl
@[simp ↓] theorem zku{n:Nat}:wE (fTuple [.ref n] s) Q X↔onO (yu s n) λds=>Q (.tup ds) s:=by
 with_unfolding_all
  unfold fTuple yu
  cases h:s[n]? with
  | none=>simp[h]
  | some o=>cases o <;> simp[h]
@[simp ↓] theorem zuN{n:Nat}{y:D}:wE (zU (.ref n) [y] s) Q X↔onO (yu s n) λds=>onT (decide (ds.length<16777216)) (Q .non (s.set n (.lst (ds++[y])))) False:=by
 with_unfolding_all
  unfold zU zqh yu
  cases h:s[n]? with
  | none=>simp[h]
  | some o =>
   cases o <;> simp[h];rename_i ds;by_cases h':ds.length<16777216 <;> simp[h']
@[simp ↓] theorem zuk{n:Nat}:wE (zgu (.ref n) s) Q X↔onO (yu s n) λds=>Q (.ref s.length) (s++[.lst ds.reverse]):=by
 with_unfolding_all
  unfold zgu yu
  cases h:s[n]? with
  | none=>simp[h]
  | some o=>cases o <;> simp[h]
@[simp ↓] theorem zsZ{ds:List D}{lo hi:Option Int}:wE (zph (.tup ds) lo hi s) Q X↔Q (.tup (zeG ds lo hi)) s:=by
 with_unfolding_all
  exact Iff.rfl
@[simp] theorem zvw{i:Nat}{d:D}:gName i d σ s=some (σ.set i (some d)):=by
 with_unfolding_all
  exact rfl
@[simp] theorem zuI{k:Nat}{r:GL}{ds:List D}:gTup k r (.tup ds) σ s=if ds.length=k then r ds σ s else none:=by
 with_unfolding_all
  exact rfl
@[simp] theorem zvv:gNil [] σ s=some σ:=by
 with_unfolding_all
  exact rfl
@[simp] theorem zvu{g:G}{r:GL}{d:D}{ds:List D}:gCons g r (d::ds) σ s=(g d σ s).bind λσ'=>r ds σ' s:=by
 with_unfolding_all
  exact rfl
@[simp] theorem zbv{n:Nat}(h:n<=16777216):sz n=true:=by
 with_unfolding_all
  exact decide_eq_true h
@[simp] theorem ztY{ds:List D}{i:Int}:atD s (.tup ds) (.int i)=L2.atI ds i:=by
 with_unfolding_all
  exact rfl
@[simp] theorem ztX{ds:List D}{i:Int}:atD s (.rol ds) (.int i)=L2.atI ds i:=by
 with_unfolding_all
  exact rfl
theorem yO{n:Nat}{ds:List D}{i:Int}(h:s[n]?=some (.lst ds)):atD s (.ref n) (.int i)=L2.atI ds i:=by
 with_unfolding_all
  simp[atD,h]
theorem atI_nat{α:Type}{xs:List α}{i:Nat}:L2.atI xs (i:Int)=xs[i]?:=by
 with_unfolding_all
  unfold L2.atI L2.ixN;rw[if_pos (by omega)];by_cases h:i<xs.length
  . rw[if_pos (by omega)];simp
  . rw[if_neg (by omega)];simp only[Option.bind_none];exact(qT (by omega)).symm
@[simp] theorem zuB{α:Type}{xs:List α}:L2.atI xs 0=xs[0]?:=by
 with_unfolding_all
  exact atI_nat (i:=0)
@[simp] theorem zuC{α:Type}{xs:List α}:L2.atI xs 1=xs[1]?:=by
 with_unfolding_all
  exact atI_nat (i:=1)
@[simp] theorem zuD{α:Type}{xs:List α}:L2.atI xs 2=xs[2]?:=by
 with_unfolding_all
  exact atI_nat (i:=2)
@[simp] theorem zuE{α:Type}{xs:List α}:L2.atI xs 3=xs[3]?:=by
 with_unfolding_all
  exact atI_nat (i:=3)
@[simp] theorem zsV{ds:List D}:zfQ s (.tup ds)=some ds.length:=by
 with_unfolding_all
  exact rfl
@[simp] theorem zsU{ds:List D}:zfQ s (.rol ds)=some ds.length:=by
 with_unfolding_all
  exact rfl
@[simp] theorem zuW{b:Bool}:truth s (.bl b)=some b:=by
 with_unfolding_all
  exact rfl
@[simp] theorem zup{t:Ty}:ziD s .non t=some false:=by
 with_unfolding_all
  exact rfl
@[simp] theorem zuX{b:Bool}{t:Ty}:ziD s (.bl b) t=some (match t with | .int=>true | .bool=>true | _=>false):=by
 with_unfolding_all
  exact rfl
@[simp] theorem ty_int{b:Int}{t:Ty}:ziD s (.int b) t=some (match t with | .int=>true | _=>false):=by
 with_unfolding_all
  exact rfl
@[simp] theorem ty_str{b:Str}{t:Ty}:ziD s (.str b) t=some (match t with | .str=>true | _=>false):=by
 with_unfolding_all
  exact rfl
@[simp] theorem zuq{b:List D}{t:Ty}:ziD s (.tup b) t=some (match t with | .tuple=>true | _=>false):=by
 with_unfolding_all
  exact rfl
theorem zeY{a b:D}{x y:PyData}(h1:dat s 60 a=some x)(h2:dat s 60 b=some y)(h3:SeqAt.shaped x=true)(h4:SeqAt.shaped y=true):eqD s a b=some (PyData.eqv x y):=by
 with_unfolding_all
  unfold eqD;rw[h1,h2];simp[h3,h4]
@[simp] theorem zqq{n:Nat}{b:Bool}:dat s n (.bl b)=some (.bool b):=by
 with_unfolding_all
  cases n <;> simp[dat]
@[simp] theorem vZ{n:Nat}{b:Int}:dat s n (.int b)=some (.int b):=by
 with_unfolding_all
  cases n <;> simp[dat]
@[simp] theorem xZ{n:Nat}{b:Str}:dat s n (.str b)=some (.str b):=by
 with_unfolding_all
  cases n <;> simp[dat]
@[simp] theorem yQ{n:Nat}:dats s n []=some []:=by
 with_unfolding_all
  cases n <;> simp[dats]
theorem ue{n:Nat}{ds:List D}:dat s (n+1) (.tup ds)=(dats s n ds).map .tuple:=by
 with_unfolding_all
  simp[dat]
theorem zP{n:Nat}{d:D}{r:List D}{x:PyData}{xs:List PyData}(h1:dat s n d=some x)(h2:dats s n r=some xs):dats s n (d::r)=some (x::xs):=by
 with_unfolding_all
  cases n <;> simp[dats,h1,h2]
theorem xF{n a:Nat}{ds:List D}(h:s[a]?=some (.lst ds)):dat s (n+1) (.ref a)=(dats s n ds).map .list:=by
 with_unfolding_all
  simp[dat,yu,h]
end
end Fc
namespace P1
open PySem Fc
noncomputable section
def b_law_cell:C :=
 (zE (cIf (tB (e2 oLt (zf 1) (eN vA (za (zf 0) zj))))
 (ye (e2 oAt (zf 0) (zf 1)))
 yh)
 (ye (eC (.int 0))))
def d_law_cell:F:=yg 2 2 b_law_cell
def b_law_generator:C :=
 (zE (zQ (zB d_law_cell [] (za (zf 0) (za (zf 1) zj))) (gName 2))
 (ye (eN yr (za (e2 oMod (eN yS (za (eN zbE (za (e2 znB (zf 2) (e2 zgt (eC (.int 10)) (eC (.int 18)))) (za (eC (.int 0)) zj))) zj)) (e2 zgt (e2 zgt (eC (.int 10)) (eC (.int 60))) (eC (.int 10)))) (za (e2 oMod (eN yS (za (zf 2) zj)) (eC (.int 2147483647))) (za (e2 jN (eC (.int 1000)) (zf 1)) zj))))))
def d_law_generator:F:=yg 2 3 b_law_generator
def b_law_hash:C :=
 (zE (zQ (e2 oMod (eN yS (za (e2 xH (e2 xH (e2 xH (e2 jN (zf 0) (eC (.int 1103515245))) (e2 jN (e2 jN (eC (.int 7919)) (zf 1)) (zf 1))) (zf 1)) (eC (.int 1))) zj)) (eC (.int 2147483647))) (gName 2))
 (zE (zQ (e2 oMod (eN yS (za (e2 xH (e2 jN (zf 2) (zf 2)) (eC (.int 69621))) zj)) (eC (.int 2147483629))) (gName 2))
 (ye (e2 oMod (eN yS (za (e2 jN (zf 2) (eC (.int 48271))) zj)) (eC (.int 2147483587))))))
def d_law_hash:F:=yg 2 3 b_law_hash
def b_law_random:C :=
 (zE (cIf (tB (e2 oGt (e2 oAt (zf 0) (eC (.int 0))) (eC (.int 0))))
 (zE (zQ (e2 oMod (eN yS (za (e2 oAt (zf 0) (eC (.int 0))) zj)) (zf 1)) (gName 2))
 (zE (jE (zf 0) (eC (.int 0)) (e2 oDiv (e2 oAt (zf 0) (eC (.int 0))) (zf 1)))
 (ye (zf 2))))
 yh)
 (zE (zQ (eC (.int 0)) (gName 2))
 (zE (xg (yf (eC (.int 0)) (e2 xH (eC (.int 1)) (e2 oDiv (e1 zcm (zf 1)) (eC (.int 30))))) (gName 3)
 (zE (jE (zf 0) (eC (.int 2)) (e2 xH (e2 oAt (zf 0) (eC (.int 2))) (eC (.int 1))))
 (zQ (e2 xH (e2 jN (zf 2) (eC (.int 2147483587))) (zB d_law_hash [] (za (e2 oAt (zf 0) (eC (.int 1))) (za (e2 oAt (zf 0) (eC (.int 2))) zj)))) (gName 2))))
 (ye (e2 oMod (eN yS (za (zf 2) zj)) (zf 1))))))
def d_law_random:F:=yg 2 4 b_law_random
def b_law_arcs:C :=
 (zE (zQ (eN yr zj) (gName 4))
 (zE (xg (yf (eC (.int 0)) (zf 1)) (gName 5)
 (xg (yf (eC (.int 0)) (zf 2)) (gName 6)
 (cIf (tB (e2 oEq (zB d_law_random [] (za (zf 0) (za (zf 3) zj))) (eC (.int 0))))
 (zR (eM zU (zf 4) (za (eN wg (za (zf 5) (za (zf 6) (za (e2 oEq (zB d_law_random [] (za (zf 0) (za (eC (.int 2)) zj))) (eC (.int 0))) zj)))) zj)))
 yh)))
 (zE (cIf (tAnd (tB (e2 oNe (zf 4) (eN yr zj))) (tB (e2 oEq (zB d_law_random [] (za (zf 0) (za (eC (.int 4)) zj))) (eC (.int 0)))))
 (zR (eM zU (zf 4) (za (e2 xH (zdU (e2 oAt (zf 4) (eC (.int 0))) pNo (zej (eC (.int 2)))) (eN wg (za (zdW (tE (e2 oAt (e2 oAt (zf 4) (eC (.int 0))) (eC (.int 2))))) zj))) zj)))
 yh)
 (ye (e2 oAt (eN yr (za (zf 4) (za (e1 zgu (zf 4)) zj))) (zB d_law_random [] (za (zf 0) (za (eC (.int 2)) zj))))))))
def d_law_arcs:F:=yg 4 7 b_law_arcs
def b_law_grid:C :=
 (zE (zQ (eN yr (za (eN yr (za (eC (.int 0)) (za (eC (.int 0)) (za (eC (.int 0)) zj)))) (za (eN yr (za (eC (.int 0)) (za (eC (.int 0)) (za (eC (.int 0)) zj)))) (za (eN yr (za (eC (.int 0)) (za (eC (.int 0)) (za (eC (.int 0)) zj)))) zj)))) (gName 1))
 (zE (xg (yG .seq (zf 0)) (gTup 3 (gCons (gName 2) (gCons (gName 3) (gCons (gName 4) gNil))))
 (jE (e2 oAt (zf 1) (zf 2)) (zf 3) (eN zbE (za (eN yS (za (e2 oAt (e2 oAt (zf 1) (zf 2)) (zf 3)) zj)) (za (e2 xH (eC (.int 1)) (eN yS (za (zf 4) zj))) zj)))))
 (ye (zf 1))))
def d_law_grid:F:=yg 1 5 b_law_grid
def b_law_listed:C :=
 (zE (zQ (eN yr zj) (gName 1))
 (zE (xg (yf (eC (.int 0)) (eC (.int 3))) (gName 2)
 (xg (yf (eC (.int 0)) (eC (.int 3))) (gName 3)
 (cIf (tB (e2 oGt (e2 oAt (e2 oAt (zf 0) (zf 2)) (zf 3)) (eC (.int 0))))
 (zR (eM zU (zf 1) (za (eN wg (za (zf 2) (za (zf 3) (za (e2 oEq (e2 oAt (e2 oAt (zf 0) (zf 2)) (zf 3)) (eC (.int 2))) zj)))) zj)))
 yh)))
 (ye (eN fTuple (za (zf 1) zj)))))
def d_law_listed:F:=yg 1 4 b_law_listed
def b_is_name:C :=
 (zE (cIf (tOr (tNot (tE (e1 (oIs .str) (zf 0)))) (tNot (tB (uv oLe oLe (eC (.int 1)) (eN vA (za (zf 0) zj)) (eC (.int 12))))))
 (ye (eC (.bl false)))
 yh)
 (ye (e2 oEq (eLc [1] (yG .seq (zf 0)) (gName 1) (tB (e2 uC (zf 1) (eC (.str "abcdefghijklmnopqrstuvwxyz")))) (zf 1)) (eN yr zj))))
def d_is_name:F:=yg 1 2 b_is_name
def b_is_whole:C :=
 (ye (ziw (e1 (oIs .int) (zf 0)) (zdW (tE (e1 (oIs .bool) (zf 0))))))
def d_is_whole:F:=yg 1 1 b_is_whole
def b_is_arc:C :=
 (zE (cIf (tOr (tNot (tE (e1 (oIs .tuple) (zf 0)))) (tOr (tB (e2 oNe (eN vA (za (zf 0) zj)) (eC (.int 3)))) (tOr (tNot (tE (zB d_is_whole [] (za (e2 oAt (zf 0) (eC (.int 0))) zj)))) (tNot (tE (zB d_is_whole [] (za (e2 oAt (zf 0) (eC (.int 1))) zj)))))))
 (ye (eC (.bl false)))
 yh)
 (ye (ziw (uv oLe oLt (eC (.int 0)) (e2 oAt (zf 0) (eC (.int 0))) (zf 1)) (ziw (uv oLe oLt (eC (.int 0)) (e2 oAt (zf 0) (eC (.int 1))) (zf 2)) (e1 (oIs .bool) (e2 oAt (zf 0) (eC (.int 2))))))))
def d_is_arc:F:=yg 3 3 b_is_arc
def b_arcs_of:C :=
 (ye (eN fTuple (za (eLc [1,2] (yG .seq (eN yX (za (eLc [1,2] (yG .seq (zf 0)) (gTup 2 (gCons (gName 1) (gCons (gName 2) gNil))) tYes (eN wg (za (eN yS (za (zf 1) zj)) (za (eN yS (za (zf 2) zj)) zj)))) zj))) (gTup 2 (gCons (gName 1) (gCons (gName 2) gNil))) tYes (eN wg (za (zf 1) (za (zf 2) (za (e2 oAt (zf 0) (eN wg (za (zf 1) (za (zf 2) zj)))) zj))))) zj)))
def d_arcs_of:F:=yg 1 3 b_arcs_of
def b_joined:C :=
 (zE (zQ (eN (λ_=>mDT) zj) (gName 2))
 (zE (xg (yG .seq (e2 oAt (zf 0) (eC (.int 2)))) (gTup 3 (gCons (gName 3) (gCons (gName 4) (gCons (gName 5) gNil))))
 (xg (yG .seq (e2 oAt (zf 1) (eC (.int 2)))) (gTup 3 (gCons (gName 6) (gCons (gName 7) (gCons (gName 8) gNil))))
 (cIf (tB (e2 oEq (zf 6) (zf 4)))
 (jE (zf 2) (eN wg (za (zf 3) (za (zf 7) zj))) (eOr (zdV (zf 2) (eN wg (za (zf 3) (za (zf 7) zj))) (eC (.bl false))) (eOr (zf 5) (zf 8))))
 yh)))
 (ye (eN wg (za (e2 oAt (zf 0) (eC (.int 0))) (za (e2 oAt (zf 1) (eC (.int 1))) (za (zB d_arcs_of [] (za (zf 2) zj)) zj)))))))
def d_joined:F:=yg 2 9 b_joined
def b_falls_around:C :=
 (zE (zQ (zf 0) (gName 1))
 (zE (xg (yf (eC (.int 0)) (eC (.int 3))) (gName 2)
 (zE (cIf (tB (e2 oNe (eLc [3] (yG .seq (e2 oAt (zf 1) (eC (.int 2)))) (gName 3) (tAnd (tB (e2 oEq (e2 oAt (zf 3) (eC (.int 0))) (e2 oAt (zf 3) (eC (.int 1))))) (tE (e2 oAt (zf 3) (eC (.int 2))))) (zf 3)) (eN yr zj)))
 (ye (eC (.bl true)))
 yh)
 (zQ (zB d_joined [] (za (zf 1) (za (zf 0) zj))) (gName 1))))
 (ye (eC (.bl false)))))
def d_falls_around:F:=yg 1 4 b_falls_around
end
end P1
namespace Fc
open PySem
theorem bits_lt{i:Int}(h1:-(2 ^ 2000)<i)(h2:i<2 ^ 2000):bits i<2000:=by
 unfold bits;by_cases h:i.natAbs=0
 . rw[h];decide
 . refine(Nat.log2_lt h).mpr ?_;omega
theorem zcl{i j:Int}(h1:-(2 ^ 2000)<i)(h2:i<2 ^ 2000)(h3:-(2 ^ 2000)<j)(h4:j<2 ^ 2000):decide (bits i+bits j<900000)=true:=by
 have a:=bits_lt h1 h2;have b:=bits_lt h3 h4;exact decide_eq_true (by omega)
def Gen(s:S)(g:Nat)(B:Nat):Prop:=∃ a b c:Int,s[g]?=some (.lst [.int a,.int b,.int c])/\0<=a/\0<=b/\b<2147483647/\0<=c/\c+B<=2 ^ 90
theorem Gen.mono{s:S}{g B B':Nat}(h:Gen s g B)(k:B'<=B):Gen s g B':=by
 obtain⟨a,b,c,h1,h2,h3,h4,h5,h6⟩:=h;exact⟨a,b,c,h1,h2,h3,h4,h5,by omega⟩
def Fr(g:Nat)(s s':S):Prop:=s.length<=s'.length/\∀ n:Nat,n≠g->∀ o,s[n]?=some o->s'[n]?=some o
def Pf(s s':S):Prop:=∀(n:Nat) (o:O),s[n]?=some o->s'[n]?=some o
theorem zH{s:S}{o:O}:(s++[o])[s.length]?=some o:=by simp
theorem zmh{m n:Nat}(h:m<=n):(2:Int) ^ m<=2 ^ n:=by
 have:(2 ^ m:Nat)<=2 ^ n:=Nat.pow_le_pow_right (by omega) h
 exact_mod_cast this
theorem set_same{s:S}{n:Nat}{o:O}(h:s[n]?=some o):s.set n o=s:=by
 apply ph;intro i;rw[qI];split
 . rename_i e;subst e;rw[h];simp[(su.mp h).1]
 . rfl
theorem Pf.refl{s:S}:Pf s s:=λ_ _ h=>h
theorem Pf.trans{s s1 s2:S}(a:Pf s s1)(b:Pf s1 s2):Pf s s2:=λn o h=>b n o (a n o h)
theorem Pf.app{s t:S}:Pf s (s++t):=λn o h=>by
 rw[sX (su.mp h).1];exact h
theorem Pf.len{s s':S}(h:Pf s s'):s.length<=s'.length:=by
 cases hs:s.length with
 | zero=>omega
 | succ n =>
  have e:s[n]?=some (s[n]'(by omega)):=by simp
  have:=(su.mp (h n _ e)).1;omega
theorem Pf.fr{g:Nat}{s s':S}(h:Pf s s'):Fr g s s':=⟨h.len,λn _ o e=>h n o e⟩
theorem Pf.gen{s s':S}{g B:Nat}(h:Pf s s')(k:Gen s g B):Gen s' g B:=by
 obtain⟨a,b,c,h1,h2⟩:=k;exact⟨a,b,c,h _ _ h1,h2⟩
theorem Fr.refl{g:Nat}{s:S}:Fr g s s:=Pf.refl.fr
theorem Fr.trans{g:Nat}{s s1 s2:S}(a:Fr g s s1)(b:Fr g s1 s2):Fr g s s2:=⟨rN a.1 b.1,λn hn o h=>b.2 n hn o (a.2 n hn o h)⟩
theorem Fr.set{g:Nat}{s:S}{o:O}:Fr g s (s.set g o):=⟨by simp,λn hn o' h=>by rw[ql (tY hn)];exact h⟩
end Fc
namespace P1
open PySem Fc
theorem zpG{ns:List Int}{i:Nat}{s:S}{X:Xc}{Q:D->S->Prop}(hQ:∀ z,Q (.int z) s):wE (d_law_cell [.rol (ns.map .int),.int i] s) Q X:=by
 unfold d_law_cell;refine(yD (by rfl)).mpr ?_;unfold b_law_cell;simp;refine xX (λh=>?_) λ_=>hQ 0;have h:i<ns.length:=of_decide_eq_true h;rw[atI_nat,tU,tQ h];exact hQ _
theorem zpH{b c:Int}{s:S}{X:Xc}{Q:D->S->Prop}(h1:0<=b)(h2:b<2147483647)(h3:0<=c)(h4:c<2 ^ 100)(hQ:∀ z,0<=z->z<2147483587->Q (.int z) s):wE (d_law_hash [.int b,.int c] s) Q X:=by
 unfold d_law_hash;refine(yD (by rfl)).mpr ?_;unfold b_law_hash
 have k1:∀ x:Int,0<=x%2147483647/\x%2147483647<2147483647:=λx=>by omega
 have k2:∀ x:Int,0<=x%2147483629/\x%2147483629<2147483629:=λx=>by omega
 simp;rw[zcl (by omega) (by omega) (by omega) (by omega),zcl (by omega) (by omega) (by omega) (by omega),zcl (by omega) (by omega) (by omega) (by omega)];have a1:=k1 (b*1103515245+7919*c*c+c+1);generalize (b*1103515245+7919*c*c+c+1)%2147483647=u at *;rw[zcl (by omega) (by omega) (by omega) (by omega)];have a2:=k2 (u*u+69621);generalize (u*u+69621)%2147483629=v at *;rw[zcl (by omega) (by omega) (by omega) (by omega)];simp only[yI];exact hQ _ (by omega) (by omega)
theorem zfw{ns:List Int}{i:Nat}{s:S}{X:Xc}{Q:D->S->Prop}(hi:i<1000000)(hQ:∀ o,Gen (s++[o]) s.length (2 ^ 80)->Q (.ref s.length) (s++[o])):wE (d_law_generator [.rol (ns.map .int),.int i] s) Q X:=by
 unfold d_law_generator;refine(yD (by rfl)).mpr ?_;unfold b_law_generator;simp;refine zpG λz=>?_;simp;rw[show decide ((bits 10+1)*18<=100000)=true by decide +kernel,show decide ((bits 10+1)*60<=100000)=true by decide +kernel,show decide ((bits 1000000000000000000000000000000000000000000000000000000000000+1)*10<=100000)=true by decide +kernel,zcl (by omega) (by omega) (by omega) (by omega)];simp only[yI];refine hQ _ ⟨_,_,_,zH,?_,?_,?_,?_,?_⟩
 . exact Int.emod_nonneg _ (by omega)
 . omega
 . omega
 . omega
 . omega
theorem zsH{b:Int}{n:Nat}(h1:0<b)(h2:b<2 ^ n):Builtin.Int.intBits b<=n:=by
 unfold Builtin.Int.intBits;split
 . omega
 . rename_i h
   have e:((2 ^ n:Nat):Int)=2 ^ n:=by simp
   have k:b.natAbs<2 ^ n:=by
    have:(b.natAbs:Int)<((2 ^ n:Nat):Int):=by rw[e];omega
    omega
   have:b.natAbs.log2<n:=(Nat.log2_lt (by omega)).mpr k;omega
theorem yo{g B:Nat}{b:Int}{s:S}{X:Xc}{Q:D->S->Prop}(hg:Gen s g (B+40))(h1:0<b)(h2:b<2 ^ 1000)(hQ:∀(z:Int) (o:O),0<=z->z<b->Gen (s.set g o) g B->Q (.int z) (s.set g o)):wE (d_law_random [.ref g,.int b] s) Q X:=by
 unfold d_law_random;refine(yD (by rfl)).mpr ?_;unfold b_law_random;obtain⟨a0,b0,c0,e,ha,hb,hb2,hc,hB⟩:=hg;have hl:g<s.length:=(su.mp e).1;simp[yO e];refine xX (λh=>?_) λh=>?_
 . have h:=of_decide_eq_true h;have hb':decide (bits b<8000)=true:=decide_eq_true (by have:=bits_lt (i:=b) (by omega) (by omega);omega);rw[decide_eq_true h1,hb'];simp[Fc.putAt,e,L2.ixN];refine hQ _ _ (Int.emod_nonneg _ (by omega)) (Int.emod_lt_of_pos _ h1) ⟨a0 / b,b0,c0,by rw[sY hl],Int.ediv_nonneg ha (by omega),hb,hb2,hc,by omega⟩
 . have hn:Builtin.Int.intBits b<=1000:=zsH h1 h2;generalize Builtin.Int.intBits b=nb at hn;rw[show decide (bits 30<8000)=true by decide +kernel,yI,show small 0=true by decide,show small (1+(nb:Int) / 30)=true by unfold small;simp;omega,rC,yI]
   have hlen:(yx 0 (1+(nb:Int) / 30)).length<=35:=by
     simp only[yx,rA,List.length_range];omega
   generalize yx 0 (1+(nb:Int) / 30)=ds at hlen;refine yP (λ(ds:List D) (σ:Fc.Env) (s':S)=>ds.length<=35/\∃ c z t,s'=s.set g (.lst [.int a0,.int b0,.int c])/\σ=[some (.ref g),some (.int b),some (.int z),t]/\0<=c/\c+ds.length+B<=2 ^ 90/\0<=z/\z<2 ^ (32*(40 - ds.length))) ds ⟨hlen,c0,0,none,?_,rfl,hc,by omega,by omega,?_⟩ ?_ ?_
   . exact(set_same e).symm
   . exact Int.pow_pos (by omega)
   . rintro d r σ s' ⟨hl2,c,z,t,rfl,rfl,k1,k2,k3,k4⟩;have hl3:r.length+1<=35:=hl2
     have k2:c+(r.length+1)+B<=2 ^ 90:=by simpa using k2
     refine⟨_,rfl,?_⟩
     have e2:∀ o,(s.set g o)[g]?=some o:=λo=>by rw[sY hl]
     have zb:z<2 ^ 1300:=by
      refine Int.lt_of_lt_of_le k4 ?_;exact zmh (by simp;omega)
     simp[yO (e2 _),Fc.putAt,e2,L2.ixN];rw[zcl (by omega) (by omega) (by omega) (by omega),yI];refine zpH hb hb2 (by omega) (by omega) λh h0 h3=>?_;simp;refine⟨by omega,c+1,rfl,by omega,by omega,by omega,?_⟩
     have e40:32*(40 - r.length)=32*(40 - (d::r).length)+32:=by
      simp;omega
     rw[e40,Int.pow_add];generalize (2:Int) ^ (32*(40 - (d::r).length))=P at k4;omega
   . rintro σ s' ⟨_,c,z,t,rfl,rfl,k1,k2,k3,k4⟩;simp;rw[decide_eq_true h1,yI];exact hQ _ _ (Int.emod_nonneg _ (by omega)) (Int.emod_lt_of_pos _ h1) ⟨a0,b0,c,by rw[sY hl],ha,hb,hb2,k1,by simpa using k2⟩
end P1
namespace Fc
open PySem
theorem vP{g:G}{b:C}{P:Pst}{n:Nat}{ds:List D}(I:List D->Fc.Env->S->Prop)(hk:∀ r σ s,I r σ s->s[n]?=some (.lst ds))
  (hs:∀ d r σ s,I (d::r) σ s->∃ σ1,g d σ s=some σ1/\wC (b σ1 s) { P with nx:=λe s=>I r e s,ct:=λe s=>I r e s,bk:=P.nx }) (hd:∀ σ s,I [] σ s->P.nx σ s) :
  ∀(k i:Nat) {σ:Fc.Env}{s:S},ds.length=i+k->I (ds.drop i) σ s->wC (forL n g b k i σ s) P
 | 0,i,σ,s,hl,h=>by
  with_unfolding_all
   have e:=hk _ _ _ h;unfold forL yu;rw[e];dsimp only;rw[if_pos (by omega)];rw[qL (by omega)]at h;exact hd σ s h
 | k+1,i,σ,s,hl,h=>by
  with_unfolding_all
   have e:=hk _ _ _ h
   have hi:i<ds.length:=by omega
   rw[rO hi]at h;obtain⟨σ1,h1,h2⟩:=hs _ _ σ s h;unfold forL yu;rw[e];dsimp only;rw[if_pos (by omega),tQ hi];dsimp only;rw[h1];dsimp only
   cases hb:b σ1 s with
   | none=>rw[hb]at h2;exact h2.elim
   | some r =>
    rw[hb]at h2
    cases r with
    | nx e2 s2=>exact vP I hk hs hd k (i+1) (by omega) h2
    | ct e2 s2=>exact vP I hk hs hd k (i+1) (by omega) h2
    | bk e2 s2=>exact h2
    | rt d2 s2=>exact h2
    | xc c fs e2 s2=>exact h2
@[simp] theorem ztx:yx 0 3=[.int 0,.int 1,.int 2]:=rfl
@[simp] theorem znN:small 0=true:=by decide
@[simp] theorem znO:small 3=true:=by decide
theorem yM{s:S}{n:Nat}{o:O}(h:n<s.length):(s.set n o)[n]?=some o:=by rw[sY h]
theorem zJ{s:S}{n m:Nat}{o:O}(h:n≠m):(s.set n o)[m]?=s[m]?:=by rw[ql h]
theorem zq{s:S}{n:Nat}{o:O}(h:s[n]?=some o):n<s.length:=(su.mp h).1
theorem zV{s:S}{n:Nat}{ds:List D}(h:s[n]?=some (.lst ds)):yu s n=some ds:=by simp[yu,h]
end Fc
namespace P1
open PySem Fc
abbrev Mt:=Nat->Nat->Nat
abbrev Arc:=Nat×Nat×Bool
def aD(a:Arc):D:=.tup [.int a.1,.int a.2.1,.bl a.2.2]
def zaa(M:Mt)(i j:Nat):List Arc:=if 0<M i j then [(i,j,M i j == 2)]else []
def zjg(M:Mt)(i:Nat):List Arc:=[0,1,2].flatMap λj=>zaa M i j
def yH(M:Mt):List Arc:=[0,1,2].flatMap λi=>zjg M i
def zcP(b e:Str)(M:Mt):D:=.tup [.str b,.str e,.tup ((yH M).map aD)]
def Row(s:S)(r:Nat)(m:Nat->Nat):Prop:=s[r]?=some (.lst [.int (m 0),.int (m 1),.int (m 2)])
structure GridAt(s:S)(n r0 r1 r2:Nat)(M:Mt):Prop where
 at_:s[n]?=some (.lst [.ref r0,.ref r1,.ref r2])
 h0:Row s r0 (M 0)
 h1:Row s r1 (M 1)
 h2:Row s r2 (M 2)
theorem GridAt.pf{s s':S}{n r0 r1 r2:Nat}{M:Mt}(h:GridAt s n r0 r1 r2 M)(k:Pf s s'):GridAt s' n r0 r1 r2 M:=⟨k _ _ h.at_,k _ _ h.h0,k _ _ h.h1,k _ _ h.h2⟩
theorem GridAt.get{s:S}{n r0 r1 r2:Nat}{M:Mt}(h:GridAt s n r0 r1 r2 M){i j:Nat}(hi:i<3)(hj:j<3):∃ r,atD s (.ref n) (.int i)=some (.ref r)/\atD s (.ref r) (.int j)=some (.int (M i j)):=by
 have e1:∀ i:Nat,atD s (.ref n) (.int i)=[D.ref r0,D.ref r1,D.ref r2][i]?:=λi=>by rw[yO h.at_,atI_nat]
 have e2:∀(r:Nat) (m:Nat->Nat),Row s r m->∀ j:Nat,atD s (.ref r) (.int j)=[D.int (m 0),D.int (m 1),D.int (m 2)][j]?:=λr m hr j=>by rw[yO hr,atI_nat]
 match i,hi with
 | 0,_=>exact⟨r0,e1 0,by rw[e2 _ _ h.h0];match j,hj with | 0,_=>rfl | 1,_=>rfl | 2,_=>rfl⟩
 | 1,_=>exact⟨r1,e1 1,by rw[e2 _ _ h.h1];match j,hj with | 0,_=>rfl | 1,_=>rfl | 2,_=>rfl⟩
 | 2,_=>exact⟨r2,e1 2,by rw[e2 _ _ h.h2];match j,hj with | 0,_=>rfl | 1,_=>rfl | 2,_=>rfl⟩
theorem wL{s:S}{i j:Int}:eqD s (.int i) (.int j)=some (i == j):=by
 rw[zeY (vZ) (vZ) (by simp[SeqAt.shaped,PyData.canLay0,PyData.depth]) (by simp[SeqAt.shaped,PyData.canLay0,PyData.depth])];simp[PyData.eqv]
theorem zgO{s:S}{n r0 r1 r2 i j:Nat}{M:Mt}{pre:List D}{P:Pst}(h:GridAt s n r0 r1 r2 M)(hi:i<3)(hj:j<3)(hp:pre.length<16777216)
    (hQ:P.nx [some (.ref n),some (.ref s.length),some (.int i),some (.int j)] (s++[.lst (pre++(zaa M i j).map aD)])) :
    wC (cIf (tB (e2 oGt (e2 oAt (e2 oAt (zf 0) (zf 2)) (zf 3)) (eC (.int 0))))
      (zR (eM zU (zf 1) (za (eN wg (za (zf 2) (za (zf 3) (za (e2 oEq (e2 oAt (e2 oAt (zf 0) (zf 2)) (zf 3)) (eC (.int 2))) zj)))) zj)))
      yh [some (.ref n),some (.ref s.length),some (.int i),some (.int j)] (s++[.lst pre])) P:=by
  obtain⟨r,g1,g2⟩:=(h.pf (Pf.app (t:=[.lst pre]))).get hi hj;simp[g1,g2];unfold zaa at hQ;refine xX (λhc=>?_) λhc=>?_
  . have hc:=of_decide_eq_true hc;rw[if_pos (by omega)]at hQ;simp[uB,wL,yu,hp]
    have e:((M i j:Int) == 2)=(M i j == 2):=by
      by_cases z:M i j=2
      . simp[z]
      . have:(M i j:Int)≠2:=by omega
        rw[beq_eq_false_iff_ne.mpr z,beq_eq_false_iff_ne.mpr this]
    rw[e];simpa[aD]using hQ
  . have hc:=of_decide_eq_false hc;rw[if_neg (by omega)]at hQ;simpa using hQ
theorem zak{M:Mt}{i j:Nat}:(zaa M i j).length<=1:=by
 unfold zaa;split <;> simp
theorem zcM{M:Mt}{i:Nat}:(zjg M i).length<=3:=by
 have h0:=zak (M:=M) (i:=i) (j:=0);have h1:=zak (M:=M) (i:=i) (j:=1);have h2:=zak (M:=M) (i:=i) (j:=2);simp only[zjg,pF,pG,qG,List.length_nil];omega
theorem zhg{M:Mt}:(yH M).length<=9:=by
 have h0:=zcM (M:=M) (i:=0);have h1:=zcM (M:=M) (i:=1);have h2:=zcM (M:=M) (i:=2);simp only[yH,pF,pG,qG,List.length_nil];omega
theorem zfz{s:S}{n r0 r1 r2:Nat}{M:Mt}{X:Xc}{Q:D->S->Prop}(h:GridAt s n r0 r1 r2 M)(hQ:∀ o,Q (.tup ((yH M).map aD)) (s++[o])):wE (d_law_listed [.ref n] s) Q X:=by
 unfold d_law_listed;refine(yD (by rfl)).mpr ?_;unfold b_law_listed;simp
 have inner:∀(i:Nat) (hi:i<3) (u:Option D) (pre:List D) (hp:pre.length<100) (P:Pst),(P.nx [some (.ref n),some (.ref s.length),some (.int i),some (.int 2)] (s++[.lst (pre++(zjg M i).map aD)])) ->
   wC (zdt (gName 3) (cIf (tB (e2 oGt (e2 oAt (e2 oAt (zf 0) (zf 2)) (zf 3)) (eC (.int 0))))
   (zR (eM zU (zf 1) (za (eN wg (za (zf 2) (za (zf 3) (za (e2 oEq (e2 oAt (e2 oAt (zf 0) (zf 2)) (zf 3)) (eC (.int 2))) zj)))) zj)))
   yh) [.int 0,.int 1,.int 2] [some (.ref n),some (.ref s.length),some (.int i),u] (s++[.lst pre])) P:=by
  intro i hi u pre hp P hP;have h0:=zak (M:=M) (i:=i) (j:=0);have h1:=zak (M:=M) (i:=i) (j:=1);refine zX.mpr ⟨_,rfl,zgO (j:=0) h hi (by omega) (by omega) ?_⟩;refine zX.mpr ⟨_,rfl,zgO (j:=1) h hi (by omega) (by simp;omega) ?_⟩;refine zX.mpr ⟨_,rfl,zgO (j:=2) h hi (by omega) (by simp;omega) ?_⟩;simpa[vg,zjg]using hP
 have h0:=zcM (M:=M) (i:=0);have h1:=zcM (M:=M) (i:=1);refine zX.mpr ⟨_,rfl,?_⟩;simp;refine inner 0 (by omega) _ [] (by simp) _ ?_;refine zX.mpr ⟨_,rfl,?_⟩;simp;refine inner 1 (by omega) _ _ (by simp;omega) _ ?_;refine zX.mpr ⟨_,rfl,?_⟩;simp;refine inner 2 (by omega) _ _ (by simp;omega) _ ?_;simp[vg,yu];simpa[yH]using hQ (.lst ((yH M).map aD))
def rw3(m:Nat->Nat):List D:=[.int (m 0),.int (m 1),.int (m 2)]
def xR(L:Nat)(M:Mt):List O:=[.lst (rw3 (M 0)),.lst (rw3 (M 1)),.lst (rw3 (M 2)),.lst [.ref L,.ref (L+1),.ref (L+2)]]
def wZ(M:Mt)(i j v:Nat):Mt:=λa b=>if a=i/\b=j then v else M a b
def zhc(M:Mt)(a:Arc):Mt:=wZ M a.1 a.2.1 (max (M a.1 a.2.1) (1+a.2.2.toNat))
def wH(M:Mt)(A:List Arc):Mt:=A.foldl zhc M
def In3(A:List Arc):Prop:=∀ a∈A,a.1<3/\a.2.1<3
theorem zav{s:S}{M:Mt}:GridAt (s++xR s.length M) (s.length+3) s.length (s.length+1) (s.length+2) M:=by
 have g:∀ k,(s++xR s.length M)[s.length+k]?=(xR s.length M)[k]?:=λk=>by
  rw[qp (by omega)];congr 1;omega
 exact⟨g 3,g 0,g 1,g 2⟩
theorem zjH{s:S}{M:Mt}{i j v:Nat}(hi:i<3)(hj:j<3):(s++xR s.length M).set (s.length+i) (.lst ((rw3 (M i)).set j (.int v)))=s++xR s.length (wZ M i j v):=by
 rw[List.set_append_right _ _ (by omega)];congr 1;rw[show s.length+i - s.length=i by omega]
 match i,hi with
 | 0,_=>match j,hj with
  | 0,_=>simp[xR,rw3,wZ]
  | 1,_=>simp[xR,rw3,wZ]
  | 2,_=>simp[xR,rw3,wZ]
 | 1,_=>match j,hj with
  | 0,_=>simp[xR,rw3,wZ]
  | 1,_=>simp[xR,rw3,wZ]
  | 2,_=>simp[xR,rw3,wZ]
 | 2,_=>match j,hj with
  | 0,_=>simp[xR,rw3,wZ]
  | 1,_=>simp[xR,rw3,wZ]
  | 2,_=>simp[xR,rw3,wZ]
theorem zbZ{s:S}{M:Mt}{i:Nat}(hi:i<3):atD (s++xR s.length M) (.ref (s.length+3)) (.int i)=some (.ref (s.length+i))/\(s++xR s.length M)[s.length+i]?=some (.lst (rw3 (M i))):=by
 have g:=zav (s:=s) (M:=M);refine⟨?_,?_⟩
 . rw[yO g.at_,atI_nat]
   match i,hi with
   | 0,_=>rfl
   | 1,_=>rfl
   | 2,_=>rfl
 . match i,hi with
   | 0,_=>exact g.h0
   | 1,_=>exact g.h1
   | 2,_=>exact g.h2
theorem znJ{m:Nat->Nat}{j:Nat}(hj:j<3):(rw3 m)[j]?=some (.int (m j)):=by
 match j,hj with
 | 0,_=>rfl
 | 1,_=>rfl
 | 2,_=>rfl
theorem zlT{s:S}{M:Mt}{i j v:Nat}(hi:i<3)(hj:j<3):Fc.putAt (s++xR s.length M) (.ref (s.length+i)) (.int j) (.int v)=some (s++xR s.length (wZ M i j v)):=by
 unfold Fc.putAt;dsimp only;rw[(zbZ hi).2];dsimp only
 have:L2.ixN (rw3 (M i)).length (j:Int)=some j:=by
  unfold L2.ixN;rw[if_pos (by omega),if_pos (by simp[rw3];omega)];simp
 rw[this];simp only[sE];rw[zjH hi hj]
theorem zlS{s:S}{M:Mt}{i j:Nat}(hi:i<3)(hj:j<3):atD (s++xR s.length M) (.ref (s.length+i)) (.int j)=some (.int (M i j)):=by
 rw[yO (zbZ hi).2,atI_nat,znJ hj]
theorem zpN{s:S}{M:Mt}{a:Arc}{d:D}{P:Pst}(hi:a.1<3)(hj:a.2.1<3)(hP:P.nx [some d,some (.ref (s.length+3)),some (.int a.1),some (.int a.2.1),some (.bl a.2.2)] (s++xR s.length (zhc M a))) :
  wC (jE (e2 oAt (zf 1) (zf 2)) (zf 3) (eN zbE (za (eN yS (za (e2 oAt (e2 oAt (zf 1) (zf 2)) (zf 3)) zj)) (za (e2 xH (eC (.int 1)) (eN yS (za (zf 4) zj))) zj)))
   [some d,some (.ref (s.length+3)),some (.int a.1),some (.int a.2.1),some (.bl a.2.2)] (s++xR s.length M)) P:=by
 simp[(zbZ (s:=s) (M:=M) hi).1,zlS hi hj]
 have e:max (M a.1 a.2.1:Int) (1+if a.2.2=true then 1 else 0)=((max (M a.1 a.2.1) (1+a.2.2.toNat):Nat):Int):=by
  cases a.2.2 <;> simp <;> omega
 rw[e,zlT hi hj];exact hP
def ArcSrc(s:S)(d:D)(A:List Arc):Prop:=d=.tup (A.map aD)\/∃ n,d=.ref n/\s[n]?=some (.lst (A.map aD))
theorem zgL{s:S}{d:D}{A:List Arc}{X:Xc}{Q:D->S->Prop}(hd:ArcSrc s d A)(hA:In3 A)(hQ:Q (.ref (s.length+3)) (s++xR s.length (wH (λ_ _=>0) A))):wE (d_law_grid [d] s) Q X:=by
 unfold d_law_grid;refine(yD (by rfl)).mpr ?_;unfold b_law_grid;simp;have e0:s++[O.lst [.int 0,.int 0,.int 0],.lst [.int 0,.int 0,.int 0],.lst [.int 0,.int 0,.int 0],.lst [.ref s.length,.ref (s.length+1),.ref (s.length+2)]]=s++xR s.length (λ_ _=>0):=rfl;rw[e0]
 let I:List D->Fc.Env->S->Prop:=λds σ s'=>∃(B C:List Arc) (t u v:Option D),A=B++C/\ds=C.map aD/\σ=[some d,some (.ref (s.length+3)),t,u,v]/\s'=s++xR s.length (wH (λ_ _=>0) B)
 have start:I (A.map aD) [some d,some (.ref (s.length+3)),none,none,none] (s++xR s.length λ_ _=>0):=⟨[],A,none,none,none,rfl,rfl,rfl,rfl⟩
 have hs:∀(P:Pst) (d':D) (r:List D) (σ:Fc.Env) (s':S),I (d'::r) σ s'->∃ σ1,gTup 3 (gCons (gName 2) (gCons (gName 3) (gCons (gName 4) gNil))) d' σ s'=some σ1/\wC (jE (e2 oAt (zf 1) (zf 2)) (zf 3) (eN zbE (za (eN yS (za (e2 oAt (e2 oAt (zf 1) (zf 2)) (zf 3)) zj)) (za (e2 xH (eC (.int 1)) (eN yS (za (zf 4) zj))) zj))) σ1 s') { P with nx:=λe s=>I r e s,ct:=λe s=>I r e s,bk:=P.nx }:=by
   rintro P d' r σ s' ⟨B,C,t,u,v,e,ed,rfl,rfl⟩
   cases C with
   | nil=>cases ed
   | cons a C =>
    cases ed;have ha:=hA a (by rw[e];simp);refine⟨_,rfl,zpN ha.1 ha.2 ⟨B++[a],C,_,_,_,by simp[e],rfl,rfl,?_⟩⟩;simp[wH]
 have fin:∀(P:Pst) (σ:Fc.Env) (s':S),P.nx=(λe s=>onD e[1]? λd=>Q d s)->I [] σ s'->P.nx σ s':=by
   rintro P σ s' hP ⟨B,C,t,u,v,e,ed,rfl,rfl⟩
   cases C with
   | cons a C=>cases ed
   | nil =>
    rw[hP];simp at e;subst e;exact hQ
 rcases hd with rfl | ⟨n,rfl,hn⟩
 . simp[srcOf];exact yP I _ start (hs _) (λσ s'=>fin _ σ s' rfl)
 . have hn':=Pf.app (t:=xR s.length λ_ _=>0) _ _ hn;simp[srcOf,hn'];refine vP I ?_ (hs _) (λσ s'=>fin _ σ s' rfl) _ 0 (by simp) start;rintro r σ s' ⟨B,C,t,u,v,e,ed,rfl,rfl⟩;exact Pf.app _ _ hn
structure Drw(s:S)(g p q:Nat)(s':S)(A:List Arc)(B:Nat):Prop where
 at_:s'[s.length]?=some (.lst (A.map aD))
 fr:Fr g s s'
 gen:Gen s' g B
 bd:∀ a∈A,a.1<p/\a.2.1<q
theorem Drw.mono{s:S}{g p q:Nat}{s':S}{A:List Arc}{B B':Nat}(h:Drw s g p q s' A B)(k:B'<=B):Drw s g p q s' A B':=⟨h.at_,h.fr,h.gen.mono k,h.bd⟩
theorem Drw.draw{s:S}{g p q:Nat}{s':S}{A:List Arc}{B B':Nat}{o:O}(h:Drw s g p q s' A B)(hg:g<s.length)(k:Gen (s'.set g o) g B'):Drw s g p q (s'.set g o) A B' :=
 ⟨by rw[zJ (by omega)];exact h.at_,h.fr.trans Fr.set,k,h.bd⟩
theorem Drw.put{s:S}{g p q:Nat}{s':S}{A:List Arc}{B:Nat}{a:Arc}(h:Drw s g p q s' A B)(hg:g<s.length)(ha:a.1<p/\a.2.1<q):Drw s g p q (s'.set s.length (.lst (A.map aD++[aD a]))) (A++[a]) B:=by
 have hl:=zq h.at_;refine⟨by rw[yM hl];simp,⟨?_,λn hn o e=>?_⟩,?_,?_⟩
 . simpa using h.fr.1
 . have:=zq e;rw[zJ (by omega)];exact h.fr.2 n hn o e
 . obtain⟨a0,b0,c0,e,r⟩:=h.gen;exact⟨a0,b0,c0,by rw[zJ (by omega)];exact e,r⟩
 . intro x hx
   rcases tZ.mp hx with hx | hx
   . exact h.bd x hx
   . simp at hx;subst hx;exact ha
theorem vY:SeqAt.shaped (.list [])=true:=by decide
theorem zam{s:S}{n:Nat}(f:Arc->PyData)(h:∀ a,dat s n (aD a)=some (f a)):∀ A:List Arc,dats s n (A.map aD)=some (A.map f)
 | []=>by simp
 | a::A=>zP (h a) (zam f h A)
def zcU(a:Arc):PyData:=.tuple [.int a.1,.int a.2.1,.bool a.2.2]
theorem zdR{s:S}{n:Nat}(a:Arc):dat s (n+1) (aD a)=some (zcU a):=by
 unfold aD;rw[ue,zP vZ (zP vZ (zP zqq yQ))];rfl
theorem zoe(a:Arc):(zcU a).canLay0=true/\(zcU a).depth=1:=by
 simp[zcU,PyData.canLay0,PyData.canLayAll0,PyData.depth,PyData.depthAll]
theorem zbC:∀ A:List Arc,PyData.canLayAll0 (A.map zcU)=true/\PyData.depthAll (A.map zcU)<=1
 | []=>by simp[PyData.canLayAll0,PyData.depthAll]
 | a::A=>by
  have h1:=zoe a;have h2:=zbC A;simp[PyData.canLayAll0,PyData.depthAll,h1.1,h1.2,h2.1,h2.2]
theorem zgK(A:List Arc):SeqAt.shaped (.list (A.map zcU))=true:=by
 have h:=zbC A;refine rE.mpr ⟨by simp only[PyData.canLay0,h.1],decide_eq_true ?_⟩;simp only[PyData.depth];omega
theorem eq_nil{s:S}{n m:Nat}{A:List Arc}(h:s[n]?=some (.lst (A.map aD)))(h2:s[m]?=some (.lst [])):eqD s (.ref n) (.ref m)=some A.isEmpty:=by
 have e1:dat s 60 (.ref n)=some (.list (A.map zcU)):=by rw[xF h,zam zcU (λa=>zdR a)];rfl
 have e2:dat s 60 (.ref m)=some (.list []):=by rw[xF h2];simp
 rw[zeY e1 e2 (zgK A) vY];cases A <;> simp[PyData.eqv,PyData.eqvAll]
theorem zrU{s:S}{g p q B:Nat}{dn:Int}{s':S}{A:List Arc}{i j:Nat}{P:Pst}{e:Fc.Env}(hg:g<s.length)(hd:0<dn)(hd2:dn<2 ^ 1000)(h:Drw s g p q s' A (B+80))(hi:i<p)(hj:j<q)(hA:A.length<16777216)
   (e1:e=[some (.ref g),some (.int p),some (.int q),some (.int dn),some (.ref s.length),some (.int i),some (.int j)])
   (hP:∀ s2 A2,Drw s g p q s2 A2 B->A2.length<=A.length+1->P.nx e s2) :
   wC (cIf (tB (e2 oEq (zB d_law_random [] (za (zf 0) (za (zf 3) zj))) (eC (.int 0))))
    (zR (eM zU (zf 4) (za (eN wg (za (zf 5) (za (zf 6) (za (e2 oEq (zB d_law_random [] (za (zf 0) (za (eC (.int 2)) zj))) (eC (.int 0))) zj)))) zj)))
    yh e s') P:=by
 subst e1;simp;refine yo (B:=B+40) (h.gen.mono (by omega)) hd hd2 λz o z0 z1 k=>?_;have h2:=h.draw hg k;simp[wL];refine xX (λ_=>?_) λ_=>?_
 . simp[uB,h2.at_];refine yo (B:=B) h2.gen (by omega) (by omega) λz' o' z0' z1' k'=>?_;have h3:=h2.draw hg k';rw[List.set_set]at h3;simp[wL,zV h3.at_,hA];exact hP _ _ (h3.put hg (a:=(i,j,z' == 0)) ⟨hi,hj⟩) (by simp)
 . exact hP _ _ (h2.mono (by omega)) (by omega)
theorem zmB{s:S}{g p q B:Nat}{dn:Int}{X:Xc}{Q:D->S->Prop}(hgen:Gen s g (B+1200))(hp:p<=3)(hq:q<=3)(hd:0<dn)(hd2:dn<2 ^ 1000)
   (hQ:∀(n:Nat) (s':S) (A:List Arc),Fr g s s'->Gen s' g B->s'[n]?=some (.lst (A.map aD))->(∀ a∈A,a.1<p/\a.2.1<q)->A.length<=10->s.length<=n->Q (.ref n) s'):wE (d_law_arcs [.ref g,.int p,.int q,.int dn] s) Q X:=by
 unfold d_law_arcs;refine(yD (by rfl)).mpr ?_;unfold b_law_arcs
 have hg:g<s.length:=by obtain⟨_,_,_,e,_⟩:=hgen;exact zq e
 have sm:∀ n:Nat,n<=3->small (n:Int)=true:=λn h=>by unfold small;simp;omega
 simp[sm p hp]
 have rng:∀ n:Nat,n<=3->(yx 0 (n:Int)).length<=3/\∀ d∈yx 0 (n:Int),∃ i:Nat,d=.int i/\i<n:=λn h=>by
   refine⟨by simp[yx];omega,λd hd=>?_⟩;simp only[yx,tM,pH]at hd;obtain⟨i,h1,rfl⟩:=hd;exact⟨i,by simp,by omega⟩
 have start:Drw s g p q (s++[.lst []]) [] (B+1200):=⟨by simp,Pf.app.fr,Pf.app.gen hgen,by simp⟩
 refine yP (λ(ds:List D) (σ:Fc.Env) (s':S)=>ds.length<=3/\(∀ d∈ds,∃ i:Nat,d=.int i/\i<p)/\∃ A t u,Drw s g p q s' A (B+200+300*ds.length)/\A.length+3*ds.length<=9/\σ=[some (.ref g),some (.int p),some (.int q),some (.int dn),some (.ref s.length),t,u]) _ ⟨(rng p hp).1,(rng p hp).2,[],none,none,start.mono (by have:=(rng p hp).1;omega),by have:=(rng p hp).1;simp;omega,rfl⟩ ?_ ?_
 . rintro d r σ s' ⟨l1,hm,A,t,u,h,hl,rfl⟩;obtain⟨i,rfl,hi⟩:=hm _ (tH);have l1':r.length+1<=3:=l1;have h:Drw s g p q s' A (B+200+300*(r.length+1)):=h;have hl:A.length+3*(r.length+1)<=9:=hl;refine⟨_,rfl,?_⟩;simp[sm q hq];refine yP (λ(ds:List D) (σ:Fc.Env) (s':S)=>ds.length<=3/\(∀ d∈ds,∃ i:Nat,d=.int i/\i<q)/\∃ A u,Drw s g p q s' A (B+200+300*r.length+80*ds.length)/\A.length+3*r.length+ds.length<=9/\σ=[some (.ref g),some (.int p),some (.int q),some (.int dn),some (.ref s.length),some (.int i),u]) _ ⟨(rng q hq).1,(rng q hq).2,A,u,h.mono (by have:=(rng q hq).1;omega),by have:=(rng q hq).1;omega,rfl⟩ ?_ ?_
   . rintro d r' σ s' ⟨l2,hm',A,u,h,hl,rfl⟩;obtain⟨j,rfl,hj⟩:=hm' _ (tH);have l2':r'.length+1<=3:=l2;have h:Drw s g p q s' A (B+200+300*r.length+80*(r'.length+1)):=h;have hl:A.length+3*r.length+(r'.length+1)<=9:=hl;refine⟨_,rfl,zrU (B:=B+200+300*r.length+80*r'.length) hg hd hd2 (h.mono (by omega)) hi hj (by omega) rfl λs2 A2 h2 hl2=>?_⟩;exact⟨by omega,λd hd=>hm' d (tV _ hd),A2,_,h2,by omega,rfl⟩
   . rintro σ s' ⟨_,_,A,u,h,hl,rfl⟩;exact⟨by omega,λd hd=>hm d (tV _ hd),A,h.mono (by simp),by simpa using hl,_,_,rfl⟩
 . rintro σ s' ⟨_,_,A,t,u,h,hl,rfl⟩;have h:Drw s g p q s' A (B+200):=h
   have hl:A.length<=9:=by simpa using hl
   have fin:∀(s2:S) (A2:List Arc),Drw s g p q s2 A2 (B+40)->A2.length<=10->wC (ye (e2 oAt (eN yr (za (zf 4) (za (e1 zgu (zf 4)) zj))) (zB d_law_random [] (za (zf 0) (za (eC (.int 2)) zj)))) [some (.ref g),some (.int p),some (.int q),some (.int dn),some (.ref s.length),t,u] s2) { nx:=λ_ s'=>Q .non s',rt:=Q,xc:=X }:=by
     intro s2 A2 h2 hl2;simp[zV h2.at_];have k1:Pf s2 (s2++[O.lst (A2.map aD).reverse,O.lst [D.ref s.length,D.ref s2.length]]):=Pf.app;refine yo (B:=B) (k1.gen h2.gen) (by omega) (by omega) λz o z0 z1 k=>?_;have hL:=zq h2.at_;have hlen:=h2.fr.1
     have g0:∀(m:Nat) (w:O),m≠g->(s2++[O.lst (A2.map aD).reverse,O.lst [D.ref s.length,D.ref s2.length]])[m]?=some w->((s2++[O.lst (A2.map aD).reverse,O.lst [D.ref s.length,D.ref s2.length]]).set g o)[m]?=some w:=λm w hm hw=>by rw[zJ (tY hm)];exact hw
     have e1:=g0 (s2.length+1) _ (by omega) (by rw[qp (by omega)];simp;rfl);have e2:=g0 s2.length _ (by omega) (by rw[qp (by omega)];simp;rfl);have e3:=g0 s.length _ (by omega) (k1 _ _ h2.at_);have fr:Fr g s ((s2++[O.lst (A2.map aD).reverse,O.lst [D.ref s.length,D.ref s2.length]]).set g o):=(h2.fr.trans k1.fr).trans Fr.set;rw[yO e1]
     have hz:z=0\/z=1:=by omega
     rcases hz with rfl | rfl
     . simp;exact hQ _ _ A2 fr k e3 h2.bd hl2 (tX _)
     . simp;refine hQ _ _ A2.reverse fr k (by rw[e2];simp) (λa ha=>h2.bd a (by simpa using ha)) (by simpa using hl2) (by omega)
   have h1:Drw s g p q (s'++[.lst []]) A (B+200):=⟨Pf.app _ _ h.at_,h.fr.trans Pf.app.fr,Pf.app.gen h.gen,h.bd⟩
   have en:=eq_nil (s:=s'++[.lst []]) h1.at_ (zH (s:=s') (o:=.lst []));simp only[jK,oJ,qU];rw[en]
   cases A with
   | nil =>
     simp only[List.isEmpty_nil,zK,Bool.not_true,zgC];simpa using fin _ [] (h1.mono (by omega)) (by simp)
   | cons a A =>
     simp only[List.isEmpty_cons,zK,Bool.not_false,yI];refine yo (B:=B+160) (h1.gen.mono (by omega)) (by omega) (by omega) λz o z0 z1 k=>?_;have h2:=h1.draw hg k;simp only[wL,zK];refine xX (λ_=>?_) λ_=>?_
     . have ha:=h2.bd a (tH);have h3:=h2.put hg (a:=(a.1,a.2.1,!a.2.2)) ha
       have e0:atD ((s'++[O.lst []]).set g o) (.ref s.length) (.int 0)=some (aD a):=by rw[yO h2.at_];simp
       have il:uB ((s'++[O.lst []]).set g o) (.ref s.length)=true:=by simp[uB,h2.at_]
       rw[il,yI,e0];have f:=fin _ _ (h3.mono (by omega)) (by simp at hl ⊢;omega)
       have hl':((a::A).map aD).length<16777216:=by simp at hl ⊢;omega
       have hd:=decide_eq_true hl';simp[aD,zeG,HT.sIx];rw[e0];simp only[zK,aD];simp;rw[zV h2.at_];simp only[zK];rw[hd,yI];simpa[aD]using f
     . simpa using fin _ _ (h2.mono (by omega)) (by simp at hl ⊢;omega)
def Bd2(M:Mt):Prop:=∀ i j,M i j<=2
theorem znh{M:Mt}{a:Arc}(h:Bd2 M):Bd2 (zhc M a):=by
 intro i j;unfold zhc wZ;have:=h a.1 a.2.1;have:=h i j;cases a.2.2 <;> simp <;> split <;> omega
theorem zfS:∀{A:List Arc}{M:Mt},Bd2 M->Bd2 (wH M A)
 | [],_,h=>h
 | a::A,M,h=>zfS (A:=A) (znh h)
end P1
open PySem
namespace Fc
theorem zlt{s0:S}{vs:List Nat}{g:G}{t:T}{e:E}{ds:List D}{σ:Fc.Env}{Q:D->S->Prop}{X:Xc}(f:D->Option D)(hl:ds.length<16777216)
  (hs:∀ d∈ds,∀ s,Pf s0 s->∃ σ1,g d (wipe σ vs) s=some σ1/\wE (t σ1 s) (λc s1=>Pf s s1/\if c=true then wE (e σ1 s1) (λy s2=>Pf s1 s2/\f d=some y) (λ_ _ _=>False)else f d=none) (λ_ _ _=>False))
  (hQ:∀ s',Pf s0 s'->s'[s0.length]?=some (.lst (ds.filterMap f))->Q (.ref s0.length) s'):wE (uf s0 λD0 s2=>lcV D0 vs g t e ds σ s2) Q X:=by
 rw[zaZ]
 have pset:∀{s:S}{o:O},Pf s0 s->Pf s0 (s.set s0.length o):=λ{s o} h n w hw=>by
  have:=zq hw;rw[zJ (by omega)];exact h n w hw
 obtain⟨s',acc',h1,h2,bs,h3,h4,h5⟩:=zlu (D0:=s0.length) (vs:=vs) (g:=g) (t:=t) (e:=e) (σ:=σ) (λr acc s=>∃ bs,ds=bs++r/\acc=bs.filterMap f/\Pf s0 s) ds [] (s:=s0++[.lst []]) ⟨[],rfl,rfl,Pf.app⟩ zH (by
  rintro d r acc s ⟨bs,e1,rfl,pf⟩ hD;obtain⟨σ1,g1,g2⟩:=hs d (by rw[e1];simp) s pf;refine⟨σ1,g1,zA g2 λc s1 ⟨p1,h⟩=>?_⟩
  cases c with
  | false =>
   simp only[rR,if_false]at h ⊢;exact⟨p1 _ _ hD,bs++[d],by simp[e1],by simp[h],pf.trans p1⟩
  | true =>
   simp only[if_true]at h ⊢
   refine zA h λy s2 ⟨p2,h⟩=>⟨p2 _ _ (p1 _ _ hD),?_,bs++[d],by simp[e1],by simp[h],pset ((pf.trans p1).trans p2)⟩
   have:(bs.filterMap f).length<=bs.length:=List.length_filterMap_le ..
   have:bs.length<=ds.length:=by rw[e1];simp
   omega)
 refine⟨s',h1,hQ s' h5 ?_⟩;rw[h2,h4];simp at h3;rw[h3]
end Fc
namespace P1
open PySem Fc
theorem zez{s:S}{i:Int}{X:Xc}{Q:D->S->Prop}(hQ:Q (.bl true) s):wE (d_is_whole [.int i] s) Q X:=by
 unfold d_is_whole;refine(yD (by rfl)).mpr ?_;unfold b_is_whole;simp;exact hQ
theorem zdZ{α β:Type}:∀ l:List α,l.filterMap (λ_=>(none:Option β))=[]
 | []=>rfl
 | a::l=>by rw[rD];exact zdZ l
def letters:Str:="abcdefghijklmnopqrstuvwxyz"
def NameOk(x:Str):Prop:=1<=x.length/\x.length<=12/\∀ c∈x.cps.toList,(Builtin.Str.occurrences letters ⟨#[c]⟩ 0 letters.length 1).isEmpty=false
theorem zdJ{s:S}{x:Str}{X:Xc}{Q:D->S->Prop}(h:NameOk x)(hQ:∀ s',Pf s s'->Q (.bl true) s'):wE (d_is_name [.str x] s) Q X:=by
 unfold d_is_name;refine(yD (by rfl)).mpr ?_;unfold b_is_name;obtain⟨h1,h2,h3⟩:=h;have hs:sz x.length=true:=zbv (by omega);have e1:decide (1<=(x.length:Int))=true:=decide_eq_true (by omega);have e2:decide ((x.length:Int)<=12)=true:=decide_eq_true (by omega);simp[zfQ,hs,e1,e2,srcOf]
 have hlen:(signs x).length<16777216:=by
   have:x.cps.size=x.length:=rfl;simp[signs];omega
 refine zlt (λ_=>none) hlen (λd hd s' pf=>⟨_,rfl,?_⟩) λs' pf h=>?_
 . obtain⟨c,hc,rfl⟩:=tM.mp hd;have h4:=h3 c hc
   have e3:isIn s' (.str ⟨#[c]⟩) (.str letters)=some true:=by simp[isIn,h4]
   simp[Fc.wipe];rw[show(Str.ofString "abcdefghijklmnopqrstuvwxyz")=letters from rfl,e3];simp;exact Pf.refl
 . have e4:eqD (s'++[O.lst []]) (.ref s.length) (.ref s'.length)=some true:=by
    have:=eq_nil (s:=s'++[.lst []]) (n:=s.length) (m:=s'.length) (A:=[]) (Pf.app _ _ (by rw[h,zdZ];rfl)) zH;simpa using this
   rw[e4];exact hQ _ (pf.trans Pf.app)
theorem zlV{M:Mt}{i j:Nat}(hi:i<3)(hj:j<3):In3 (zaa M i j):=by
 intro a ha;unfold zaa at ha;split at ha
 . simp at ha;subst ha;exact⟨hi,hj⟩
 . simp at ha
theorem zeb{M:Mt}:In3 (yH M):=by
 intro a ha;simp only[yH,zjg,pJ]at ha;obtain⟨i,hi,j,hj,ha⟩:=ha;simp at hi hj;exact zlV (by omega) (by omega) a ha
theorem zns{α β γ:Type}(g:α->β)(f:β->Option γ)(k:α->γ)(h:∀ a,f (g a)=some (k a)):∀ l:List α,(l.map g).filterMap f=l.map k
 | []=>rfl
 | a::l=>by rw[tK,rD,h a,tK,zns g f k h l]
abbrev Pr:=Nat×Nat
def kD(p:Pr):List L2.Key:=[.inl (p.1:Int),.inl (p.2:Int)]
theorem zjS{p q:Pr}:kD p=kD q↔p=q:=by
 unfold kD;constructor
 . intro h;obtain⟨a,b⟩:=p;obtain⟨c,d⟩:=q;simp at h;obtain⟨h1,h2⟩:=h
   have h1:(a:Int)=c:=by simpa using h1
   have h2:(b:Int)=d:=by simpa using h2
   have e1:a=c:=by omega
   have e2:b=d:=by omega
   rw[e1,e2]
 . rintro rfl;rfl
def kvO(F:Mt)(ps:List Pr):List (List L2.Key×D):=ps.map λp=>(kD p,.bl (F p.1 p.2 == 2))
structure Pls(F:Mt)(ps:List Pr):Prop where
 nd:ps.Nodup
 mem:∀ p,p∈ps↔p.1<3/\p.2<3/\0<F p.1 p.2
theorem zbF{F:Mt}{p:Pr}:∀{ps:List Pr},kget (kvO F ps) (kD p)=if p∈ps then some (.bl (F p.1 p.2 == 2))else none
 | []=>rfl
 | q::ps=>by
  have ih:=zbF (F:=F) (p:=p) (ps:=ps);unfold kget kvO at ih ⊢;by_cases h:kD q=kD p
  . have e:=zjS.mp h;subst e;simp
  . have ne:¬ p=q:=λz=>h (by rw[z]);simp only[tK,rQ,h,decide_false,tR,ne,false_or];exact ih
theorem zhF{F:Mt}{p:Pr}{w:Nat}{ps:List Pr}:kput (kvO F ps) (kD p) (.bl (w == 2))=kvO (wZ F p.1 p.2 w) (if p∈ps then ps else ps++[p]):=by
 have any:((kvO F ps).any λkv=>decide (kv.1=kD p))=true↔p∈ps:=by
   simp[kvO,zjS]
 have upd:∀ q:Pr,wZ F p.1 p.2 w q.1 q.2=if q=p then w else F q.1 q.2:=λq=>by
   unfold wZ;by_cases h:q=p
   . subst h;simp
   . rw[if_neg h,if_neg];rintro⟨h1,h2⟩;exact h (Prod.ext h1 h2)
 unfold kput;by_cases h:p∈ps
 . rw[if_pos (any.mpr h),if_pos h];unfold kvO;rw[sO];refine qM λq hq=>?_;simp only[Function.comp,zjS,upd];by_cases e:q=p
   . simp[e]
   . simp[e]
 . rw[if_neg (λz=>h (any.mp z)),if_neg h];unfold kvO;rw[sV];congr 1
   . refine qM λq hq=>?_;have e:¬ q=p:=λz=>h (z ▸ hq);simp[upd,e]
   . simp[upd]
theorem Pls.put{F:Mt}{ps:List Pr}{p:Pr}{w:Nat}(h:Pls F ps)(h1:p.1<3)(h2:p.2<3)(hw:0<w):Pls (wZ F p.1 p.2 w) (if p∈ps then ps else ps++[p]):=by
 have upd:∀ q:Pr,wZ F p.1 p.2 w q.1 q.2=if q=p then w else F q.1 q.2:=λq=>by
   unfold wZ;by_cases h:q=p
   . subst h;simp
   . rw[if_neg h,if_neg];rintro⟨h1,h2⟩;exact h (Prod.ext h1 h2)
 by_cases hp:p∈ps
 . rw[if_pos hp];refine⟨h.nd,λq=>?_⟩;rw[h.mem,upd];by_cases e:q=p
   . subst e;have:=(h.mem q).mp hp;simp[hw,this]
   . simp[e]
 . rw[if_neg hp];refine⟨?_,λq=>?_⟩
   . rw[rY];refine⟨h.nd,by simp,λa ha b hb e=>?_⟩;simp at hb;subst hb;subst e;exact hp ha
   . rw[tZ,h.mem,upd];by_cases e:q=p
     . subst e;simp[hw,h1,h2]
     . simp[e]
theorem jJ{α:Type}[DecidableEq α]:∀{l m:List α},l.Nodup->l⊆m->l.length<=m.length
 | [],_,_,_=>rJ _
 | a::l,m,h,hs=>by
  obtain⟨h1,h2⟩:=qW.mp h;have ha:a∈m:=hs (tH);have hl:l⊆m.erase a:=λx hx=>(List.mem_erase_of_ne (λz=>h1 (by rw[← z];exact hx))).mpr (hs (tV _ hx));have:=jJ h2 hl;have e:=List.length_erase_of_mem ha;have:0<m.length:=List.length_pos_of_mem ha;simp only[rG];omega
theorem Pls.len{F:Mt}{ps:List Pr}(h:Pls F ps):ps.length<=9:=by
 have:ps⊆[(0,0),(0,1),(0,2),(1,0),(1,1),(1,2),(2,0),(2,1),(2,2)]:=λp hp=>by
  have:=(h.mem p).mp hp;obtain⟨a,b⟩:=p;obtain⟨h1,h2,_⟩:=this;simp only at h1 h2
  match a,b,h1,h2 with
  | 0,0,_,_=>simp
  | 0,1,_,_=>simp
  | 0,2,_,_=>simp
  | 1,0,_,_=>simp
  | 1,1,_,_=>simp
  | 1,2,_,_=>simp
  | 2,0,_,_=>simp
  | 2,1,_,_=>simp
  | 2,2,_,_=>simp
 have k:=jJ h.nd this;simpa using k
theorem zpO{s:S}{n:Nat}{F:Mt}{ps:List Pr}{d1 d2:D}{i k j k':Nat}{f m:Bool}{P:Pst}(hn:s[n]?=some (.dT (kvO F ps)))(hp:Pls F ps)(hi:i<3)(hj:j<3)(hF:Bd2 F)(hf0:∀ a b,(a,b)∉ps->F a b=0)
   (h1:¬ k'=k->P.nx [some d1,some d2,some (.ref n),some (.int i),some (.int k),some (.bl f),some (.int k'),some (.int j),some (.bl m)] s)
   (h2:k'=k->∀ ps',Pls (wZ F i j (max (F i j) (1+(f||m).toNat))) ps'->P.nx [some d1,some d2,some (.ref n),some (.int i),some (.int k),some (.bl f),some (.int k'),some (.int j),some (.bl m)] (s.set n (.dT (kvO (wZ F i j (max (F i j) (1+(f||m).toNat))) ps')))) :
   wC (cIf (tB (e2 oEq (zf 6) (zf 4)))
     (jE (zf 2) (eN wg (za (zf 3) (za (zf 7) zj))) (eOr (zdV (zf 2) (eN wg (za (zf 3) (za (zf 7) zj))) (eC (.bl false))) (eOr (zf 5) (zf 8))))
     yh [some d1,some d2,some (.ref n),some (.int i),some (.int k),some (.bl f),some (.int k'),some (.int j),some (.bl m)] s) P:=by
 have hl:=hp.len
 have g:uL s (.ref n) (.tup [.int i,.int j])=some (kget (kvO F ps) (kD (i,j))):=by
   unfold uL rd;simp[hn,unl,dget,keysOf,keyOf];rfl
 have isd:isDict s (.ref n)=true:=by simp[isDict,rd,hn,unl]
 have key:∀ w:Nat,0<w->Fc.putAt s (.ref n) (.tup [.int i,.int j]) (.bl (w == 2))=some (s.set n (.dT (kvO (wZ F i j w) (if (i,j)∈ps then ps else ps++[(i,j)])))):=λw hw=>by
   unfold Fc.putAt;dsimp only;rw[hn];dsimp only
   have hlen:(kvO F ps).length<16777216:=by simp[kvO];omega
   have e:=zhF (F:=F) (p:=(i,j)) (w:=w) (ps:=ps);unfold dput;dsimp only;rw[if_pos hlen];simp[keysOf,keyOf];unfold kD at e;rw[e]
 have kgf:(kget (kvO F ps) (kD (i,j))).getD (.bl false)=.bl (F i j == 2):=by
   rw[zbF];by_cases h:(i,j)∈ps
   . rw[if_pos h];rfl
   . rw[if_neg h,hf0 i j h];rfl
 simp[wL];refine xX (λh=>?_) λh=>?_
 . have h:k'=k:=by
     have:(k':Int)=k:=by simpa using h
     omega
   rw[isd,yI,g];simp only[zK];rw[kgf];simp;have hb:=hF i j
   have fin:∀ c:Bool,c=(max (F i j) (1+(f||m).toNat) == 2)->onO (Fc.putAt s (.ref n) (.tup [.int i,.int j]) (.bl c)) λs4=>P.nx [some d1,some d2,some (.ref n),some (.int i),some (.int k),some (.bl f),some (.int k'),some (.int j),some (.bl m)] s4:=by
     rintro c rfl;rw[key _ (by omega)];exact h2 h _ (hp.put (p:=(i,j)) hi hj (by omega))
   refine xX (λhc=>?_) λhc=>?_
   . have hc:F i j=2:=by simpa using hc
     rw[hc];refine fin _ ?_;rw[hc];cases f <;> cases m <;> rfl
   . have hc:¬ F i j=2:=by simpa using hc
     have hv:F i j=0\/F i j=1:=by omega
     cases f with
     | true =>
      simp;refine fin _ ?_
      rcases hv with e | e <;> rw[e] <;> cases m <;> rfl
     | false =>
      simp;refine fin _ ?_
      rcases hv with e | e <;> rw[e] <;> cases m <;> rfl
 . have h:¬ k'=k:=by
     have:¬ (k':Int)=k:=by simpa using h
     omega
   simpa using h1 h
def leP(p q:Pr):Bool:=decide (p.1<q.1\/(p.1=q.1/\p.2<=q.2))
def a2(a:Arc):Pr:=(a.1,a.2.1)
theorem jH{F:Mt}{a:Arc}:a∈yH F↔a.1<3/\a.2.1<3/\0<F a.1 a.2.1/\a.2.2=(F a.1 a.2.1 == 2):=by
 simp only[yH,zjg,pJ,zaa];constructor
 . rintro⟨i,hi,j,hj,h⟩;split at h
   . rename_i hF;simp at h;subst h;simp at hi hj;exact⟨by simp;omega,by simp;omega,hF,rfl⟩
   . simp at h
 . rintro⟨h1,h2,h3,h4⟩;refine⟨a.1,by simp;omega,a.2.1,by simp;omega,?_⟩;rw[if_pos h3];obtain⟨i,j,f⟩:=a;simp at h4 ⊢;exact h4
theorem zkG{F:Mt}:((yH F).map a2).Pairwise (λp q=>p.1<q.1\/(p.1=q.1/\p.2<q.2)):=by
 have sc:∀ i j:Nat,((zaa F i j).map a2).Sublist [(i,j)]:=λi j=>by unfold zaa;split <;> simp[a2]
 have sr:∀ i:Nat,((zjg F i).map a2).Sublist [(i,0),(i,1),(i,2)]:=λi=>by
  have h:=(sc i 0).append ((sc i 1).append (sc i 2));simpa[zjg]using h
 have h:=(sr 0).append ((sr 1).append (sr 2));refine List.Pairwise.sublist (l₂:=[(0,0),(0,1),(0,2),(1,0),(1,1),(1,2),(2,0),(2,1),(2,2)]) (by simpa[yH]using h) (by decide)
theorem zpF{F:Mt}{ps:List Pr}(h:Pls F ps):ps.mergeSort leP=(yH F).map a2:=by
 have hs:=zkG (F:=F)
 have nd:((yH F).map a2).Nodup:=hs.imp λ{a b} h e=>by subst e;omega
 refine List.Perm.eq_of_pairwise (le:=λp q=>leP p q=true) (λa b _ _ h1 h2=>?_) (List.pairwise_mergeSort (λa b c h1 h2=>?_) (λa b=>?_) ps) (hs.imp λ{a b} h=>?_) ((oh ps leP).trans ((List.perm_ext_iff_of_nodup h.nd nd).mpr λp=>?_))
 . simp only[leP,decide_eq_true_eq]at h1 h2;exact Prod.ext (by omega) (by omega)
 . simp only[leP,decide_eq_true_eq]at h1 h2 ⊢;omega
 . simp only[leP,qR,decide_eq_true_eq];omega
 . simp only[leP,decide_eq_true_eq];omega
 . rw[h.mem,tM];constructor
   . rintro⟨h1,h2,h3⟩;exact⟨(p.1,p.2,F p.1 p.2 == 2),jH.mpr ⟨h1,h2,h3,rfl⟩,rfl⟩
   . rintro⟨a,ha,rfl⟩;obtain⟨h1,h2,h3,_⟩:=jH.mp ha;exact⟨h1,h2,h3⟩
def pQ(p:Pr):D:=.tup [.int p.1,.int p.2]
def pP(p:Pr):PyData:=.tuple [.int p.1,.int p.2]
theorem znl{s:S}{n:Nat}(p:Pr):dat s (n+1) (pQ p)=some (pP p):=by
 unfold pQ;rw[ue,zP vZ (zP vZ yQ)];rfl
theorem znq{s:S}(p:Pr):enc s (pQ p)=pP p:=by unfold enc;rw[znl];rfl
theorem zqr{s:S}{n:Nat}:∀ ps:List Pr,dats s (n+1) (ps.map pQ)=some (ps.map pP)
 | []=>by simp
 | p::ps=>zP (znl p) (zqr ps)
theorem zkY{s:S}{ps:List Pr}(h:ps.length<=9):zbt s (ps.map pQ)=true:=by
 unfold zbt
 have e:(ps.map pQ).map (enc s)=ps.map pP:=by
  rw[sO];exact qM λp _=>znq p
 rw[zqr,e];have h1:sz (ps.map pQ).length=true:=zbv (by simp;omega);rw[h1];simp[List.all_map,zaK,pP,PySem.W.alike,PySem.W.alikeAll]
theorem zmz{s:S}{ps:List Pr}:zbB s (ps.map pQ)=(ps.mergeSort leP).map pQ:=by
 unfold zbB;refine(List.map_mergeSort λa _ b _=>?_).symm;have e:=congrFun (congrFun (PySem.W.dataLe_ii (β:=Pr) (λp=>(p.1:Int)) (λp=>(p.2:Int))) a) b
 have e2:PySem.W.dataLe false (enc s) (pQ a) (pQ b)=PySem.W.dataLe false (λp:Pr=>.tuple [.int (p.1:Int),.int (p.2:Int)]) a b:=by
   simp only[PySem.W.dataLe_eq,znq,pP]
 rw[e2,e];unfold leP;by_cases h:a.1<b.1\/(a.1=b.1/\a.2<=b.2)
 . rw[decide_eq_true h,decide_eq_true (by omega)]
 . rw[decide_eq_false h,decide_eq_false (by omega)]
end P1
namespace Fc
open PySem
theorem zls{D0 n:Nat}{dsA:List D}{vs:List Nat}{g:G}{t:T}{e:E}{σ:Fc.Env}(I:List D->List D->S->Prop)(hk:∀ r acc s,I r acc s->s[n]?=some (.lst dsA)):∀(k i:Nat) (acc:List D) {s:S},dsA.length=i+k->I (dsA.drop i) acc s->s[D0]?=some (.lst acc) ->
  (∀ d r acc s,I (d::r) acc s->s[D0]?=some (.lst acc)->∃ σ1,g d (wipe σ vs) s=some σ1/\wE (t σ1 s) (λc s1=>if c=true then wE (e σ1 s1) (λy s2=>s2[D0]?=some (.lst acc)/\acc.length<16777216/\I r (acc++[y]) (s2.set D0 (.lst (acc++[y])))) (λ_ _ _=>False)else s1[D0]?=some (.lst acc)/\I r acc s1) (λ_ _ _=>False)) ->
  ∃ s' acc',lcL D0 n vs g t e k i σ s=some s'/\s'[D0]?=some (.lst acc')/\I [] acc' s'
 | 0,i,acc,s,hl,h,hD,_=>by
  have e1:=hk _ _ _ h;rw[qL (by omega)]at h;refine⟨s,acc,?_,hD,h⟩;unfold lcL yu;rw[e1];simp[hl]
 | k+1,i,acc,s,hl,h,hD,hs=>by
  with_unfolding_all
   have e1:=hk _ _ _ h
   have hi:i<dsA.length:=by omega
   rw[rO hi]at h;obtain⟨σ1,h1,h2⟩:=hs _ _ acc s h hD;unfold lcL yu;rw[e1];dsimp only;rw[if_pos (by omega),tQ hi];dsimp only;rw[h1];dsimp only
   cases ht:t σ1 s with
   | none=>rw[ht]at h2;exact h2.elim
   | some q =>
    rw[ht]at h2
    cases q with
    | exc c fs s'=>exact h2.elim
    | ok c s1 =>
     cases c with
     | false =>
      simp only[uX,rR,if_false]at h2;exact zls I hk k (i+1) acc (by omega) h2.2 h2.1 hs
     | true =>
      simp only[uX,if_true]at h2;dsimp only
      cases he:e σ1 s1 with
      | none=>rw[he]at h2;exact h2.elim
      | some q =>
       rw[he]at h2
       cases q with
       | exc c fs s'=>exact h2.elim
       | ok y s2 =>
        obtain⟨h3,h4,h5⟩:=uX.mp h2;have hl':D0<s2.length:=(su.mp h3).1;dsimp only;unfold zcd;rw[h3];dsimp only;rw[if_pos h4];exact zls I hk k (i+1) (acc++[y]) (by omega) h5 (by rw[sY hl']) hs
theorem uG{s0:S}{n:Nat}{vs:List Nat}{g:G}{t:T}{e:E}{ds:List D}{σ:Fc.Env}{Q:D->S->Prop}{X:Xc}(f:D->Option D)(hn:s0[n]?=some (.lst ds))(hl:ds.length<16777216)
  (hs:∀ d∈ds,∀ s,Pf s0 s->∃ σ1,g d (wipe σ vs) s=some σ1/\wE (t σ1 s) (λc s1=>Pf s s1/\if c=true then wE (e σ1 s1) (λy s2=>Pf s1 s2/\f d=some y) (λ_ _ _=>False)else f d=none) (λ_ _ _=>False))
  (hQ:∀ s',Pf s0 s'->s'[s0.length]?=some (.lst (ds.filterMap f))->Q (.ref s0.length) s'):wE (uf s0 λD0 s2=>lcL D0 n vs g t e ds.length 0 σ s2) Q X:=by
 rw[zaZ]
 have pset:∀{s:S}{o:O},Pf s0 s->Pf s0 (s.set s0.length o):=λ{s o} h n w hw=>by
  have:=zq hw;rw[zJ (by omega)];exact h n w hw
 obtain⟨s',acc',h1,h2,bs,h3,h4,h5⟩:=zls (D0:=s0.length) (n:=n) (dsA:=ds) (vs:=vs) (g:=g) (t:=t) (e:=e) (σ:=σ) (λr acc s=>∃ bs,ds=bs++r/\acc=bs.filterMap f/\Pf s0 s) (λr acc s ⟨_,_,_,pf⟩=>pf _ _ hn) ds.length 0 [] (s:=s0++[.lst []]) (by omega) ⟨[],rfl,rfl,Pf.app⟩ zH (by
  rintro d r acc s ⟨bs,e1,rfl,pf⟩ hD;obtain⟨σ1,g1,g2⟩:=hs d (by rw[e1];simp) s pf;refine⟨σ1,g1,zA g2 λc s1 ⟨p1,h⟩=>?_⟩
  cases c with
  | false =>
   simp only[rR,if_false]at h ⊢;exact⟨p1 _ _ hD,bs++[d],by simp[e1],by simp[h],pf.trans p1⟩
  | true =>
   simp only[if_true]at h ⊢
   refine zA h λy s2 ⟨p2,h⟩=>⟨p2 _ _ (p1 _ _ hD),?_,bs++[d],by simp[e1],by simp[h],pset ((pf.trans p1).trans p2)⟩
   have:(bs.filterMap f).length<=bs.length:=List.length_filterMap_le ..
   have:bs.length<=ds.length:=by rw[e1];simp
   omega)
 refine⟨s',h1,hQ s' h5 ?_⟩;rw[h2,h4];simp at h3;rw[h3]
theorem znc{s:S}{n:Nat}{o:O}{f:S->Option (Res D)}{Q:D->S->Prop}{X:Xc}(h:s[n]?=some o)(hn:∀ o',o≠.lck o'):wE (vK n s f) Q X↔wE (f (s.set n (.lck o))) (λd s'=>Q d (s'.set n o)) X:=by
 with_unfolding_all
  unfold vK;rw[h]
  cases o with
  | lck o'=>exact absurd rfl (hn o')
  | _ =>
   dsimp only;split
   . rename_i e;rw[e];rfl
   . rename_i r e
     cases hr:f (s.set n _)with
     | none=>rfl
     | some q =>
      cases q with
      | ok d s'=>exact absurd hr (e d s')
      | exc c fs s'=>rfl
theorem Pf.unlock{s s':S}{n:Nat}{o o':O}(h:s[n]?=some o)(p:Pf (s.set n o') s'):Pf s (s'.set n o):=λm w hw=>by
 have hl:n<s.length:=zq h;by_cases e:n=m
 . subst e;rw[h]at hw;cases hw
   have:n<s'.length:=by have:=p.len;simp at this;omega
   rw[yM this]
 . rw[zJ e];exact p _ _ (by rw[zJ e];exact hw)
end Fc
namespace P1
open PySem Fc
def pOf:D->Option D
 | .tup [.int i,.int j]=>some (.tup [.int i,.int j])
 | _=>none
theorem zjE{α β γ:Type}(g:α->β)(f:β->Option γ)(k:α->γ):∀ l:List α,(∀ a∈l,f (g a)=some (k a))->(l.map g).filterMap f=l.map k
 | [],_=>rfl
 | a::l,h=>by rw[tK,rD,h a (tH),tK,zjE g f k l λb hb=>h b (tV _ hb)]
theorem zdH{s:S}{n:Nat}{F:Mt}{ps:List Pr}{X:Xc}{Q:D->S->Prop}(hn:s[n]?=some (.dT (kvO F ps)))(hp:Pls F ps)(hQ:∀ s',Pf s s'->Q (.tup ((yH F).map aD)) s'):wE (d_arcs_of [.ref n] s) Q X:=by
 unfold d_arcs_of;refine(yD (by rfl)).mpr ?_;unfold b_arcs_of;have hl:=hp.len;have hal:=zhg (M:=F)
 have src1:srcOf .seq (.ref n) s=some (.dict n (ps.map pQ)):=by
   simp[srcOf,hn,unl,zgb,kvO,sO];intro a b _;simp[kD,dOf,pQ]
 simp;rw[src1];simp only[zK];rw[znc hn (λo' z=>by cases z)];refine zlt pOf (by simp;omega) (λd hd s' pf=>?_) λs1 p1 h1=>?_
 . obtain⟨p,hp',rfl⟩:=tM.mp hd;refine⟨_,rfl,?_⟩;simp[Fc.wipe,pQ,pOf];exact Pf.refl
 . rw[zns pQ pOf pQ (λp=>rfl)]at h1;have hlt:=zq hn;have q1:Pf s (s1.set n (.dT (kvO F ps))):=Pf.unlock hn p1
   have g1:(s1.set n (.dT (kvO F ps)))[(s.set n (.lck (.dT (kvO F ps)))).length]?=some (.lst (ps.map pQ)):=by
     rw[zJ (by simp;omega)];exact h1
   generalize s1.set n (.dT (kvO F ps))=s2 at q1 g1;generalize (s.set n (.lck (.dT (kvO F ps)))).length=m at g1
   have e5:yX [.ref m] s2=new (.lst (((yH F).map a2).map pQ)) s2:=by
     unfold yX;simp only[g1,zkY hl,if_true,zmz,zpF hp]
   rw[e5,zna];generalize hL:((yH F).map a2).map pQ=L
   have hLl:L.length<16777216:=by rw[← hL];simp;omega
   have zuo:srcOf .seq (.ref s2.length) (s2++[.lst L])=some (.list s2.length L.length):=by simp[srcOf]
   rw[zuo];simp only[zK]
   let f:D->Option D:=λd=>match d with
     | .tup [.int i,.int j]=>some (.tup [.int i,.int j,.bl (F i.toNat j.toNat == 2)])
     | _=>none
   refine uG (n:=s2.length) (ds:=L) f zH hLl (λd hd s' pf=>?_) λs3 p3 h3=>?_
   . rw[← hL]at hd;obtain⟨p,hp',rfl⟩:=tM.mp hd;obtain⟨a,ha,rfl⟩:=tM.mp hp';obtain⟨k1,k2,k3,k4⟩:=jH.mp ha;have en:=pf _ _ (Pf.app (t:=[.lst L]) _ _ (q1 _ _ hn))
     have e6:atD s' (.ref n) (.tup [.int a.1,.int a.2.1])=some (.bl (F a.1 a.2.1 == 2)):=by
      have g:=zbF (F:=F) (p:=(a.1,a.2.1)) (ps:=ps);rw[if_pos ((hp.mem _).mpr ⟨k1,k2,k3⟩)]at g;unfold kD at g;simp[atD,en,unl,dget,keysOf,keyOf];rw[g]
     refine⟨_,rfl,?_⟩;simp[Fc.wipe,pQ,a2];refine⟨Pf.refl,?_⟩;rw[e6];simp[f];exact Pf.refl
   . have ef:L.filterMap f=(yH F).map aD:=by
      rw[← hL,sO];refine zjE _ f aD _ λa ha=>?_;obtain⟨k1,k2,k3,k4⟩:=jH.mp ha;simp[f,pQ,a2,aD,k4]
     rw[ef]at h3;rw[zku,zV h3];exact hQ _ (q1.trans (Pf.app.trans p3))
def zlj(a b:Arc)(F:Mt):Mt:=if b.1=a.2.1 then wZ F a.1 b.2.1 (max (F a.1 b.2.1) (1+(a.2.2||b.2.2).toNat))else F
def inJ(F:Mt)(a:Arc)(Bs:List Arc):Mt:=Bs.foldl (λF b=>zlj a b F) F
def zlE(F:Mt)(As Bs:List Arc):Mt:=As.foldl (λF a=>inJ F a Bs) F
structure DJ(F:Mt)(ps:List Pr):Prop where
 pl:Pls F ps
 bd:Bd2 F
 z:∀ a b,¬ (a<3/\b<3)->F a b=0
theorem DJ.out{F:Mt}{ps:List Pr}(h:DJ F ps):∀ a b,(a,b)∉ps->F a b=0:=λa b hn=>by
 by_cases k:a<3/\b<3
 . have:¬ 0<F a b:=λw=>hn ((h.pl.mem (a,b)).mpr ⟨k.1,k.2,w⟩);omega
 . exact h.z a b k
theorem DJ.put{F:Mt}{ps ps':List Pr}{i j:Nat}{f:Bool}(h:DJ F ps)(hi:i<3)(hj:j<3)(k:Pls (wZ F i j (max (F i j) (1+f.toNat))) ps'):DJ (wZ F i j (max (F i j) (1+f.toNat))) ps':=by
 refine⟨k,λa b=>?_,λa b hab=>?_⟩
 . unfold wZ;have:=h.bd i j;have:=h.bd a b;cases f <;> simp <;> split <;> omega
 . unfold wZ;rw[if_neg (by rintro⟨rfl,rfl⟩;exact hab ⟨hi,hj⟩)];exact h.z a b hab
theorem zfy{s:S}{b1 e1 b2 e2:Str}{M N:Mt}{X:Xc}{Q:D->S->Prop}(hQ:∀ s',Pf s s'->Q (zcP b1 e2 (zlE (λ_ _=>0) (yH M) (yH N))) s'):wE (d_joined [zcP b1 e1 M,zcP b2 e2 N] s) Q X:=by
 unfold d_joined;refine(yD (by rfl)).mpr ?_;unfold b_joined;have hM:=zeb (M:=M);have hN:=zeb (M:=N);have eM:zcP b1 e1 M=.tup [.str b1,.str e1,.tup ((yH M).map aD)]:=rfl;have eN':zcP b2 e2 N=.tup [.str b2,.str e2,.tup ((yH N).map aD)]:=rfl;generalize hdM:zcP b1 e1 M=dM at *;generalize hdN:zcP b2 e2 N=dN at *;generalize hA:yH M=As at *;generalize hB:yH N=Bs at *
 have z0:DJ (λ_ _=>0) []:=⟨⟨pA,λp=>by simp⟩,λ_ _=>by omega,λ_ _ _=>rfl⟩
 have at1:∀ s',atD s' dM (.int 2)=some (.tup (As.map aD)):=λs'=>by rw[eM];simp
 have at2:∀ s',atD s' dN (.int 2)=some (.tup (Bs.map aD)):=λs'=>by rw[eN'];simp
 simp;rw[at1];simp[srcOf];refine yP (λ(ds:List D) (σ:Fc.Env) (s':S)=>∃(A1 A2:List Arc) (F:Mt) (ps:List Pr) (t1 t2 t3 t4 t5 t6:Option D),As=A1++A2/\ds=A2.map aD/\σ=[some dM,some dN,some (.ref s.length),t1,t2,t3,t4,t5,t6]/\s'=s++[.dT (kvO F ps)]/\DJ F ps/\F=zlE (λ_ _=>0) A1 Bs) _ ⟨[],As,_,[],none,none,none,none,none,none,rfl,rfl,rfl,rfl,z0,rfl⟩ ?_ ?_
 . rintro d r σ s' ⟨A1,A2,F,ps,t1,t2,t3,t4,t5,t6,ea,ed,rfl,rfl,dj,eF⟩
   cases A2 with
   | nil=>cases ed
   | cons a A2 =>
    cases ed;have ha:=hM a (by rw[ea];simp);refine⟨_,rfl,?_⟩;simp;rw[at2];simp[srcOf];refine yP (λ(ds:List D) (σ:Fc.Env) (s':S)=>∃(B1 B2:List Arc) (F':Mt) (ps:List Pr) (t4 t5 t6:Option D),Bs=B1++B2/\ds=B2.map aD/\σ=[some dM,some dN,some (.ref s.length),some (.int a.1),some (.int a.2.1),some (.bl a.2.2),t4,t5,t6]/\s'=s++[.dT (kvO F' ps)]/\DJ F' ps/\F'=inJ F a B1) _ ⟨[],Bs,F,ps,t4,t5,t6,rfl,rfl,rfl,rfl,dj,rfl⟩ ?_ ?_
    . rintro d r' σ s' ⟨B1,B2,F',ps',t4,t5,t6,eb,ed,rfl,rfl,dj',eF'⟩
      cases B2 with
      | nil=>cases ed
      | cons b B2 =>
       cases ed;have hb:=hN b (by rw[eb];simp);refine⟨_,rfl,zpO (F:=F') (ps:=ps') zH dj'.pl ha.1 hb.2 dj'.bd dj'.out (λh=>?_) λh ps2 k=>?_⟩
       . refine⟨B1++[b],B2,F',ps',_,_,_,by simp[eb],rfl,rfl,rfl,dj',?_⟩;rw[eF'];simp only[inJ,qw,sW,List.foldl_nil];exact(if_neg h).symm
       . refine⟨B1++[b],B2,_,ps2,_,_,_,by simp[eb],rfl,rfl,by simp,dj'.put ha.1 hb.2 k,?_⟩;rw[eF'];simp only[inJ,qw,sW,List.foldl_nil];exact(if_pos h).symm
    . rintro σ s' ⟨B1,B2,F',ps',t4,t5,t6,eb,ed,rfl,rfl,dj',eF'⟩
      cases B2 with
      | cons b B2=>cases ed
      | nil =>
       simp at eb;subst eb;refine⟨A1++[a],A2,by simp[ea],rfl,?_⟩;refine⟨⟨_,_,_,_,_,_,rfl⟩,F',ps',rfl,dj',?_⟩;rw[eF',eF];simp[zlE]
 . rintro σ s' ⟨A1,A2,F,ps,t1,t2,t3,t4,t5,t6,ea,ed,rfl,rfl,dj,eF⟩
   cases A2 with
   | cons a A2=>cases ed
   | nil =>
    simp at ea;subst ea
    have g0:∀ s',atD s' dM (.int 0)=some (.str b1):=λs'=>by rw[eM];simp
    have g1:∀ s',atD s' dN (.int 1)=some (.str e2):=λs'=>by rw[eN'];simp
    simp;rw[g0];simp;rw[g1];simp;refine zdH zH dj.pl λs2 p2=>?_;have h:=hQ s2 (Pf.app.trans p2);rw[← eF]at h;exact h
theorem vf{s:S}{x y:Str}(h1:PyData.strOk x=true)(h2:PyData.strOk y=true):eqD s (.str x) (.str y)=some (x == y):=by
 rw[zeY (xZ) (xZ) (by simp[SeqAt.shaped,PyData.canLay0,PyData.depth,h1]) (by simp[SeqAt.shaped,PyData.canLay0,PyData.depth,h2])];simp[PyData.eqv]
def zrb(M N:Mt):Mt:=zlE (λ_ _=>0) (yH M) (yH N)
def sup:List Nat->Nat
 | []=>0
 | a::r=>max a (sup r)
theorem zgQ:∀ l m:List Nat,sup (l++m)=max (sup l) (sup m)
 | [],m=>by simp[sup]
 | a::l,m=>by
  simp only[qQ,sup,zgQ l m];omega
def vl(a b:Arc)(i j:Nat):Nat:=if b.1=a.2.1/\a.1=i/\b.2.1=j then 1+(a.2.2||b.2.2).toNat else 0
theorem zmP{a b:Arc}{F:Mt}{i j:Nat}:zlj a b F i j=max (F i j) (vl a b i j):=by
 unfold zlj vl;by_cases h:b.1=a.2.1
 . rw[if_pos h];unfold wZ;by_cases h2:i=a.1/\j=b.2.1
   . obtain⟨rfl,rfl⟩:=h2;simp[h]
   . rw[if_neg h2,if_neg (λz=>h2 ⟨z.2.1.symm,z.2.2.symm⟩)];omega
 . rw[if_neg h,if_neg (λz=>h z.1)];omega
theorem znt{a:Arc}{i j:Nat}:∀{Bs:List Arc}{F:Mt},inJ F a Bs i j=max (F i j) (sup (Bs.map λb=>vl a b i j))
 | [],F=>by simp[inJ,sup]
 | b::Bs,F=>by
  have ih:=znt (a:=a) (i:=i) (j:=j) (Bs:=Bs) (F:=zlj a b F);show inJ (zlj a b F) a Bs i j=_;rw[ih,zmP];simp only[tK,sup];omega
theorem zkF{i j:Nat}{Bs:List Arc}:∀{As:List Arc}{F:Mt},zlE F As Bs i j=max (F i j) (sup (As.map λa=>sup (Bs.map λb=>vl a b i j)))
 | [],F=>by simp[zlE,sup]
 | a::As,F=>by
  have ih:=zkF (i:=i) (j:=j) (Bs:=Bs) (As:=As) (F:=inJ F a Bs);show zlE (inJ F a Bs) As Bs i j=_;rw[ih,znt];simp only[tK,sup];omega
def cel(M:Mt)(g:Arc->Nat)(i k:Nat):Nat:=if 0<M i k then g (i,k,M i k == 2)else 0
theorem zmQ{M:Mt}{g:Arc->Nat}{i k:Nat}:sup ((zaa M i k).map g)=cel M g i k:=by
 unfold zaa cel;split <;> simp[sup]
theorem zpR{M:Mt}{g:Arc->Nat}{i:Nat}:sup ((zjg M i).map g)=max (cel M g i 0) (max (cel M g i 1) (cel M g i 2)):=by
 simp only[zjg,pF,pG,sJ,sV,zgQ,zmQ]
theorem zeB{M:Mt}{g:Arc->Nat}:sup ((yH M).map g)=max (max (cel M g 0 0) (max (cel M g 0 1) (cel M g 0 2))) (max (max (cel M g 1 0) (max (cel M g 1 1) (cel M g 1 2))) (max (cel M g 2 0) (max (cel M g 2 1) (cel M g 2 2)))):=by
 simp only[yH,pF,pG,sJ,sV,zgQ,zpR]
def tm(x y:Nat):Nat:=if 0<x/\0<y then max x y else 0
def xO(M N:Mt):Mt:=λi j=>if i<3/\j<3 then max (tm (M i 0) (N 0 j)) (max (tm (M i 1) (N 1 j)) (tm (M i 2) (N 2 j)))else 0
theorem ztP{x y:Nat}(hx:x<=2)(hy:y<=2):(if 0<x then (if 0<y then 1+((x == 2)||(y == 2)).toNat else 0)else 0)=tm x y:=by
 match x,y,hx,hy with
 | 0,_,_,_=>simp[tm]
 | 1,0,_,_=>rfl
 | 1,1,_,_=>rfl
 | 1,2,_,_=>rfl
 | 2,0,_,_=>rfl
 | 2,1,_,_=>rfl
 | 2,2,_,_=>rfl
theorem jk{M N:Mt}(hM:Bd2 M)(hN:Bd2 N):zrb M N=xO M N:=by
  funext i j;unfold zrb;rw[zkF,zeB];simp only[zeB];have t:∀ k,(if 0<M i k then (if 0<N k j then 1+((M i k == 2)||(N k j == 2)).toNat else 0)else 0)=tm (M i k) (N k j):=λk=>ztP (hM i k) (hN k j);unfold xO
  have hi:i=0\/i=1\/i=2\/¬ i<3:=by omega
  have hj:j=0\/j=1\/j=2\/¬ j<3:=by omega
  have t0:=t 0;have t1:=t 1;have t2:=t 2
  rcases hi with rfl | rfl | rfl | hi <;> rcases hj with rfl | rfl | rfl | hj
  all_goals first
    | (rw[if_pos (by omega),← t0,← t1,← t2];simp[cel,vl];done)
    | (rw[if_neg (by omega)]
       have a0:¬ 0=j:=by omega
       have a1:¬ 1=j:=by omega
       have a2:¬ 2=j:=by omega
       simp[cel,vl,a0,a1,a2];done)
    | (rw[if_neg (by omega)]
       have a0:¬ 0=i:=by omega
       have a1:¬ 1=i:=by omega
       have a2:¬ 2=i:=by omega
       simp[cel,vl,a0,a1,a2];done)
theorem zmT(x y z:Nat):tm (tm x y) z=tm x (tm y z):=by
 unfold tm
 (repeat' split) <;> omega
theorem zeC(x y:Nat):tm x y=tm y x:=by
 unfold tm
 (repeat' split) <;> omega
theorem zlm(x y z:Nat):tm (max x y) z=max (tm x z) (tm y z):=by
 unfold tm
 (repeat' split) <;> omega
theorem zpX(x y z:Nat):tm z (max x y)=max (tm z x) (tm z y):=by
 rw[zeC,zlm,zeC x,zeC y]
theorem ztK{x y x' y':Nat}(h1:x<=x')(h2:y<=y'):tm x y<=tm x' y':=by
 unfold tm
 (repeat' split) <;> omega
theorem zmU{x y n:Nat}(h1:x<=n)(h2:y<=n):tm x y<=n:=by
 unfold tm;split <;> omega
theorem uP{M N:Mt}{i j:Nat}(hi:i<3)(hj:j<3):xO M N i j=max (tm (M i 0) (N 0 j)) (max (tm (M i 1) (N 1 j)) (tm (M i 2) (N 2 j))):=if_pos ⟨hi,hj⟩
theorem zgp{M N:Mt}{i j:Nat}(h:¬ (i<3/\j<3)):xO M N i j=0:=if_neg h
theorem mul_assoc(M N P:Mt):xO (xO M N) P=xO M (xO N P):=by
 funext i j;by_cases h:i<3/\j<3
 . obtain⟨hi,hj⟩:=h;rw[uP hi hj,uP hi hj];rw[uP hi (show 0<3 by omega),uP hi (show 1<3 by omega),uP hi (show 2<3 by omega),uP (show 0<3 by omega) hj,uP (show 1<3 by omega) hj,uP (show 2<3 by omega) hj];simp only[zlm,zpX,zmT]
   ac_rfl
 . rw[zgp h,zgp h]
theorem vU{M N:Mt}(hM:Bd2 M)(hN:Bd2 N):Bd2 (xO M N):=by
 intro i j;by_cases h:i<3/\j<3
 . rw[uP h.1 h.2];have:=zmU (hM i 0) (hN 0 j);have:=zmU (hM i 1) (hN 1 j);have:=zmU (hM i 2) (hN 2 j);omega
 . rw[zgp h];omega
def pw(M:Mt):Nat->Mt
 | 0=>M
 | n+1=>xO (pw M n) M
theorem znE(M:Mt)(m:Nat):∀ n,xO (pw M m) (pw M n)=pw M (m+n+1)
 | 0=>rfl
 | n+1=>by
  show xO (pw M m) (xO (pw M n) M)=xO (pw M (m+n+1)) M;rw[← mul_assoc,znE M m n]
theorem zkL{M:Mt}(h:Bd2 M):∀ n,Bd2 (pw M n)
 | 0=>h
 | n+1=>vU (zkL h n) h
def dg(M:Mt):Bool:=M 0 0 == 2||M 1 1 == 2||M 2 2 == 2
def hf(M:Mt):Bool:=dg M||(dg (pw M 1)||dg (pw M 2))
theorem zhp{M:Mt}:dg M=true↔∃ i,i<3/\M i i=2:=by
 unfold dg;simp only[qR,beq_iff_eq];constructor
 . rintro((h | h) | h)
   . exact⟨0,by omega,h⟩
   . exact⟨1,by omega,h⟩
   . exact⟨2,by omega,h⟩
 . rintro⟨i,hi,h⟩
   match i,hi with
   | 0,_=>exact .inl (.inl h)
   | 1,_=>exact .inl (.inr h)
   | 2,_=>exact .inr h
theorem zln{x y:Nat}:0<tm x y↔0<x/\0<y:=by
 unfold tm;split
 . omega
 . omega
theorem zuV{x y:Nat}(h:tm x y=2):0<x/\0<y/\(x=2\/y=2):=by
 unfold tm at h;split at h
 . omega
 . omega
theorem vN{M N:Mt}{i j k:Nat}(hi:i<3)(hj:j<3)(hk:k<3):tm (M i k) (N k j)<=xO M N i j:=by
 rw[uP hi hj]
 match k,hk with
 | 0,_=>omega
 | 1,_=>omega
 | 2,_=>omega
theorem zhO{M N:Mt}{i j:Nat}(hi:i<3)(hj:j<3):∃ k,k<3/\xO M N i j=tm (M i k) (N k j):=by
 rw[uP hi hj];by_cases h0:tm (M i 1) (N 1 j)<=tm (M i 0) (N 0 j)/\tm (M i 2) (N 2 j)<=tm (M i 0) (N 0 j)
 . exact⟨0,by omega,by omega⟩
 . by_cases h1:tm (M i 2) (N 2 j)<=tm (M i 1) (N 1 j)
   . exact⟨1,by omega,by omega⟩
   . exact⟨2,by omega,by omega⟩
def reach(M:Mt)(i j:Nat):Prop:=i=j\/∃ m,0<pw M m i j
theorem ziS{M:Mt}{i j k:Nat}(hi:i<3)(hj:j<3)(hk:k<3)(h:reach M i j)(e:0<M j k):reach M i k:=by
 rcases h with rfl | ⟨m,h⟩
 . exact .inr ⟨0,e⟩
 . refine .inr ⟨m+1,?_⟩;have:=vN (M:=pw M m) (N:=M) hi hk hj;have:=zln.mpr ⟨h,e⟩;show 0<xO (pw M m) M i k;omega
theorem zgI{M:Mt}{i j k:Nat}(hi:i<3)(hj:j<3)(hk:k<3)(h:reach M i j)(e:reach M j k):reach M i k:=by
 rcases h with rfl | ⟨m,h⟩
 . exact e
 . rcases e with rfl | ⟨n,e⟩
   . exact .inr ⟨m,h⟩
   . refine .inr ⟨m+n+1,?_⟩;rw[← znE];have:=vN (M:=pw M m) (N:=pw M n) hi hk hj;have:=zln.mpr ⟨h,e⟩;omega
theorem zkM{M:Mt}:∀(n:Nat) {i j:Nat},i<3->j<3->pw M n i j=2->∃ a b,a<3/\b<3/\M a b=2/\reach M i a/\reach M b j
 | 0,i,j,hi,hj,h=>⟨i,j,hi,hj,h,.inl rfl,.inl rfl⟩
 | n+1,i,j,hi,hj,h=>by
  obtain⟨k,hk,e⟩:=zhO (M:=pw M n) (N:=M) hi hj
  have h':tm (pw M n i k) (M k j)=2:=by rw[← e];exact h
  obtain⟨p1,p2,p3⟩:=zuV h'
  rcases p3 with p3 | p3
  . obtain⟨a,b,ha,hb,e1,e2,e3⟩:=zkM n hi hk p3;exact⟨a,b,ha,hb,e1,e2,ziS hb hk hj e3 p2⟩
  . exact⟨k,j,hk,hj,p3,.inr ⟨n,p1⟩,.inl rfl⟩
theorem zcK{M:Mt}:∀(m:Nat) {i j:Nat},i<3->j<3->0<pw M m i j->i=j\/0<M i j\/∃ k,k<3/\0<M i k/\0<M k j
 | 0,i,j,_,_,h=>.inr (.inl h)
 | m+1,i,j,hi,hj,h=>by
  obtain⟨k,hk,e⟩:=zhO (M:=pw M m) (N:=M) hi hj
  have h':0<tm (pw M m i k) (M k j):=by rw[← e];exact h
  obtain⟨p1,p2⟩:=zln.mp h'
  rcases zcK m hi hk p1 with rfl | q | ⟨l,hl,q1,q2⟩
  . exact .inr (.inl p2)
  . exact .inr (.inr ⟨k,hk,q,p2⟩)
  . by_cases e1:i=j
    . exact .inl e1
    . by_cases e2:l=j
      . subst e2;exact .inr (.inl q1)
      . by_cases e3:l=i
        . subst e3;exact .inr (.inr ⟨k,hk,q2,p2⟩)
        . by_cases e4:k=i
          . subst e4;exact .inr (.inl p2)
          . by_cases e5:k=l
            . subst e5;exact .inr (.inr ⟨k,hk,q1,p2⟩)
            . have:k=j:=by omega
              subst this;exact .inr (.inr ⟨l,hl,q1,q2⟩)
theorem zpW{x:Nat}(h:0<x)(h2:x<=2):tm 2 x=2:=by
 unfold tm;rw[if_pos (by omega)];omega
theorem zfc{M:Mt}(hM:Bd2 M):hf M=true↔∃ n i,i<3/\pw M n i i=2:=by
 constructor
 . intro h;unfold hf at h;simp only[qR,zhp]at h
   rcases h with ⟨i,hi,h⟩ | ⟨i,hi,h⟩ | ⟨i,hi,h⟩
   . exact⟨0,i,hi,h⟩
   . exact⟨1,i,hi,h⟩
   . exact⟨2,i,hi,h⟩
 . rintro⟨n,i,hi,h⟩;obtain⟨a,b,ha,hb,e,r1,r2⟩:=zkM n hi hi h;have r:=zgI hb hi ha r2 r1
   have s:b=a\/0<M b a\/∃ k,k<3/\0<M b k/\0<M k a:=by
     rcases r with r | ⟨m,r⟩
     . exact .inl r
     . exact zcK m hb ha r
   unfold hf;simp only[qR,zhp]
   rcases s with rfl | s | ⟨k,hk,s1,s2⟩
   . exact .inl ⟨b,hb,e⟩
   . refine .inr (.inl ⟨a,ha,?_⟩);have h1:=vN (M:=M) (N:=M) ha ha hb;rw[e,zpW s (hM b a)]at h1;have h2:=zkL hM 1 a a;have e1:pw M 1 a a=xO M M a a:=rfl;omega
   . refine .inr (.inr ⟨a,ha,?_⟩);have h1:=vN (M:=M) (N:=M) ha hk hb;rw[e,zpW s1 (hM b k)]at h1;have h3:=zkL hM 1 a k;have e1:pw M 1 a k=xO M M a k:=rfl
     have e2:pw M 1 a k=2:=by omega
     have h4:=vN (M:=pw M 1) (N:=M) ha ha hk;rw[e2,zpW s2 (hM k a)]at h4;have h5:=zkL hM 2 a a;have e3:pw M 2 a a=xO (pw M 1) M a a:=rfl;omega
theorem zhk{a b:Bool}(h:a=true↔b=true):a=b:=by
 cases a <;> cases b <;> simp_all
theorem zpa{P Q:Mt}(hQ:Bd2 Q)(hP:Bd2 P)(h:∃ i,i<3/\xO P Q i i=2):∃ i,i<3/\xO Q P i i=2:=by
 obtain⟨i,hi,h⟩:=h;obtain⟨k,hk,e⟩:=zhO (M:=P) (N:=Q) hi hi;refine⟨k,hk,?_⟩;have h1:=vN (M:=Q) (N:=P) hk hk hi;rw[zeC,← e,h]at h1;have:=vU hQ hP k k;omega
theorem zkN(A B:Mt)(hA:Bd2 A)(hB:Bd2 B):∀ n,∃ Q,Bd2 Q/\pw (xO A B) n=xO A Q/\pw (xO B A) n=xO Q A
 | 0=>⟨B,hB,rfl,rfl⟩
 | n+1=>by
  obtain⟨Q,hQ,e1,e2⟩:=zkN A B hA hB n;refine⟨xO Q (xO A B),vU hQ (vU hA hB),?_,?_⟩
  . show xO (pw (xO A B) n) (xO A B)=_;rw[e1,mul_assoc]
  . show xO (pw (xO B A) n) (xO B A)=_;rw[e2];simp only[mul_assoc]
theorem zhB{A B:Mt}(hA:Bd2 A)(hB:Bd2 B)(h:hf (xO A B)=true):hf (xO B A)=true:=by
 obtain⟨n,i,hi,h⟩:=(zfc (vU hA hB)).mp h;obtain⟨Q,hQ,e1,e2⟩:=zkN A B hA hB n;rw[e1]at h;obtain⟨k,hk,h'⟩:=zpa hQ hA ⟨i,hi,h⟩;exact(zfc (vU hB hA)).mpr ⟨n,k,hk,by rw[e2];exact h'⟩
theorem zoE{A B:Mt}(hA:Bd2 A)(hB:Bd2 B):hf (xO A B)=hf (xO B A):=zhk ⟨zhB hA hB,zhB hB hA⟩
def LeM(M N:Mt):Prop:=∀ i j,i<3->j<3->M i j<=N i j
theorem zmc{A B A' B':Mt}(h1:LeM A A')(h2:LeM B B'):LeM (xO A B) (xO A' B'):=by
 intro i j hi hj;obtain⟨k,hk,e⟩:=zhO (M:=A) (N:=B) hi hj;rw[e];exact rN (ztK (h1 i k hi hk) (h2 k j hk hj)) (vN hi hj hk)
theorem zhX{A A':Mt}(h:LeM A A'):∀ n,LeM (pw A n) (pw A' n)
 | 0=>h
 | n+1=>zmc (zhX h n) h
theorem zjI{A A':Mt}(h:LeM A A')(hA:Bd2 A)(hA':Bd2 A')(k:hf A=true):hf A'=true:=by
 obtain⟨n,i,hi,e⟩:=(zfc hA).mp k;refine(zfc hA').mpr ⟨n,i,hi,?_⟩;have:=zhX h n i i hi hi;have:=zkL hA' n i i;omega
theorem zof{M N:Mt}(h:∀ i j,i<3->j<3->M i j=N i j):yH M=yH N:=by
 have c:∀ i j,i<3->j<3->zaa M i j=zaa N i j:=λi j hi hj=>by unfold zaa;rw[h i j hi hj]
 simp only[yH,zjg,pF,pG,c _ _ (show 0<3 by omega) (show 0<3 by omega),c _ _ (show 0<3 by omega) (show 1<3 by omega),c _ _ (show 0<3 by omega) (show 2<3 by omega),
  c _ _ (show 1<3 by omega) (show 0<3 by omega),c _ _ (show 1<3 by omega) (show 1<3 by omega),c _ _ (show 1<3 by omega) (show 2<3 by omega),c _ _ (show 2<3 by omega) (show 0<3 by omega),c _ _ (show 2<3 by omega) (show 1<3 by omega),c _ _ (show 2<3 by omega) (show 2<3 by omega)]
theorem fold_at{i j:Nat}:∀{A:List Arc}{F:Mt},wH F A i j=max (F i j) (sup (A.map λa=>if a.1=i/\a.2.1=j then 1+a.2.2.toNat else 0))
 | [],F=>by simp[wH,sup]
 | a::A,F=>by
  have ih:=fold_at (i:=i) (j:=j) (A:=A) (F:=zhc F a);show wH (zhc F a) A i j=_;rw[ih];simp only[tK,sup]
  have:zhc F a i j=max (F i j) (if a.1=i/\a.2.1=j then 1+a.2.2.toNat else 0):=by
   unfold zhc wZ;by_cases h:a.1=i/\a.2.1=j
   . rw[if_pos h,if_pos ⟨h.1.symm,h.2.symm⟩,h.1,h.2]
   . rw[if_neg h,if_neg (λz=>h ⟨z.1.symm,z.2.symm⟩)];omega
  omega
theorem zau{M:Mt}(hM:Bd2 M){i j:Nat}(hi:i<3)(hj:j<3):wH (λ_ _=>0) (yH M) i j=M i j:=by
 rw[fold_at,zeB]
 have t:∀ k l,(if 0<M k l then 1+(M k l == 2).toNat else 0)=M k l:=λk l=>by
  have:=hM k l
  match h:M k l,this with
  | 0,_=>rfl
  | 1,_=>rfl
  | 2,_=>rfl
 have tt:=t i j
 match i,hi,j,hj with
 | 0,_,0,_=>simp[cel];exact tt
 | 0,_,1,_=>simp[cel];exact tt
 | 0,_,2,_=>simp[cel];exact tt
 | 1,_,0,_=>simp[cel];exact tt
 | 1,_,1,_=>simp[cel];exact tt
 | 1,_,2,_=>simp[cel];exact tt
 | 2,_,0,_=>simp[cel];exact tt
 | 2,_,1,_=>simp[cel];exact tt
 | 2,_,2,_=>simp[cel];exact tt
def zbg:D->Option D
 | .tup [.int i,.int j,.bl c]=>if i=j/\c=true then some (.tup [.int i,.int j,.bl c])else none
 | _=>none
def zbx(a:Arc):Bool:=(a.1 == a.2.1)&&a.2.2
theorem zhu:∀ A:List Arc,(A.map aD).filterMap zbg=(A.filter zbx).map aD
 | []=>rfl
 | a::A=>by
  rw[tK,rD,zhu A,qH];by_cases h:a.1=a.2.1/\a.2.2=true
  . have e:zbg (aD a)=some (aD a):=by
     unfold aD zbg;dsimp only;rw[if_pos ⟨by rw[h.1],h.2⟩]
    have e2:zbx a=true:=by simp[zbx,h.1,h.2]
    rw[e,if_pos e2];rfl
  . have e:zbg (aD a)=none:=by
     unfold aD zbg;dsimp only;rw[if_neg];rintro⟨z1,z2⟩;exact h ⟨by omega,z2⟩
    have e2:¬ zbx a=true:=by
     simp[zbx];intro z;simpa[z]using h
    rw[e,if_neg e2]
theorem zoz{M:Mt}:((yH M).filter zbx).isEmpty=!dg M:=by
 by_cases h:dg M=true
 . obtain⟨i,hi,e⟩:=zhp.mp h;have m:((i,i,true):Arc)∈(yH M).filter zbx:=qX.mpr ⟨jH.mpr ⟨hi,hi,by simp[e],by simp[e]⟩,by simp[zbx]⟩;rw[h]
   cases q:(yH M).filter zbx with
   | nil=>rw[q]at m;cases m
   | cons=>rfl
 . cases q:(yH M).filter zbx with
   | nil=>simp[h]
   | cons a l =>
    exfalso
    have m:a∈(yH M).filter zbx:=by rw[q];simp
    obtain⟨m1,m2⟩:=qX.mp m;obtain⟨h1,h2,h3,h4⟩:=jH.mp m1;simp[zbx]at m2;refine h (zhp.mpr ⟨a.1,h1,?_⟩);rw[m2.2,← m2.1]at h4;simpa using h4.symm
theorem ztJ{s:S}{b e:Str}{M:Mt}:atD s (zcP b e M) (.int 2)=some (.tup ((yH M).map aD)):=by simp[zcP]
theorem zgP{s:S}{b e:Str}{M N:Mt}{t1 t2:Option D}{P:Pst}(hN:Bd2 N)(hM:Bd2 M)
    (h1:dg N=true->∀ s',Pf s s'->P.rt (.bl true) s')
    (h2:dg N=false->∀ s',Pf s s'->P.nx [some (zcP b e M),some (zcP b e (xO N M)),t1,t2] s') :
    wC ((zE (cIf (tB (e2 oNe (eLc [3] (yG .seq (e2 oAt (zf 1) (eC (.int 2)))) (gName 3) (tAnd (tB (e2 oEq (e2 oAt (zf 3) (eC (.int 0))) (e2 oAt (zf 3) (eC (.int 1))))) (tE (e2 oAt (zf 3) (eC (.int 2))))) (zf 3)) (eN yr zj)))
 (ye (eC (.bl true)))
 yh)
 (zQ (zB d_joined [] (za (zf 1) (za (zf 0) zj))) (gName 1))) [some (zcP b e M),some (zcP b e N),t1,t2] s) P:=by
  have hal:=zhg (M:=N);generalize hdN:zcP b e N=dN;generalize hdM:zcP b e M=dM;simp;rw[← hdN,ztJ];simp[srcOf];refine zlt zbg (by simp;omega) (λd hd s' pf=>?_) λs3 p3 h3=>?_
  . obtain⟨a,ha,rfl⟩:=tM.mp hd;refine⟨_,rfl,?_⟩;simp[Fc.wipe,aD,wL];refine xX (λz=>?_) λz=>?_
    . have z:a.1=a.2.1:=by
        have:(a.1:Int)=a.2.1:=by simpa using z
        omega
      simp[zbg,z];cases a.2.2 <;> simp[Pf.refl]
    . have z:¬ a.1=a.2.1:=by
        have:¬ (a.1:Int)=a.2.1:=by simpa using z
        omega
      simp[zbg,z,Pf.refl];omega
  . rw[zhu]at h3;have e4:=eq_nil (s:=s3++[O.lst []]) (n:=s.length) (m:=s3.length) (Pf.app _ _ h3) zH;rw[zoz]at e4;rw[e4];simp;refine xX (λz=>?_) λz=>?_
    . exact h1 z _ (p3.trans Pf.app)
    . rw[← hdM];refine zfy λs4 p4=>?_;have h:=h2 z s4 (p3.trans (Pf.app.trans p4))
      have e:zcP b e (zlE (λ_ _=>0) (yH N) (yH M))=zcP b e (xO N M):=by
        rw[← jk hN hM];rfl
      rw[e,hdM];rw[hdM]at h;exact h
theorem zmF{s:S}{b e:Str}{M:Mt}{X:Xc}{Q:D->S->Prop}(hM:Bd2 M)(hQ:∀ s',Pf s s'->Q (.bl (hf M)) s'):wE (d_falls_around [zcP b e M] s) Q X:=by
 unfold d_falls_around;refine(yD (by rfl)).mpr ?_;unfold b_falls_around;generalize hdM:zcP b e M=dM;simp;rw[← hdM]
 have hf':∀ c,hf M=c->∀ s',Pf s s'->Q (.bl c) s':=λc h=>by rw[← h];exact hQ
 have e1:pw M 1=xO M M:=rfl;have e2:pw M 2=xO (xO M M) M:=rfl;refine zX.mpr ⟨_,rfl,?_⟩;refine zgP hM hM (λz s1 p1=>?_) λz s1 p1=>?_
 . exact hf' true (by simp[hf,z]) _ p1
 refine zX.mpr ⟨_,rfl,?_⟩;refine zgP (vU hM hM) hM (λz2 s2 p2=>?_) λz2 s2 p2=>?_
 . exact hf' true (by simp[hf,e1,z2]) _ (p1.trans p2)
 refine zX.mpr ⟨_,rfl,?_⟩;refine zgP (vU (vU hM hM) hM) hM (λz3 s3 p3=>?_) λz3 s3 p3=>?_
 . exact hf' true (by simp[hf,e2,z3]) _ (p1.trans (p2.trans p3))
 refine vg.mpr ?_;simp;exact hf' false (by simp[hf,e1,e2,z,z2,z3]) _ (p1.trans (p2.trans p3))
end P1
namespace Fc
open PySem
section
variable{s:S}{σ:Env}{X:Xc}{Q:D->S->Prop}
def zhw(s:S)(x:D)(f:Str):Option D:=match x with
 | .ref n=>match s[n]? with
  | some (.ins _ fs)=>fs.lookup f
  | some (.err _ fs)=>fs.lookup f
  | _=>none
 | _=>none
@[simp ↓] theorem ztN{f:Str}{x:D}:wE (xr f x s) Q X↔onO (zhw s x f) λd=>Q d s:=by
 with_unfolding_all
  unfold xr zhw
  cases x with
  | ref n =>
   dsimp only
   cases h:s[n]? with
   | none=>simp
   | some o =>
    cases o with
    | ins c fs=>dsimp only;cases fs.lookup f <;> simp
    | err c fs=>dsimp only;cases fs.lookup f <;> simp
    | _=>simp
  | _=>simp
theorem jZ{n:Nat}{c f:Str}{fs:List (Str×D)}(h:s[n]?=some (.ins c fs)):zhw s (.ref n) f=fs.lookup f:=by
 simp[zhw,h]
def zrC(s:S)(x:D)(f:Str)(v:D):Option S:=match x with
 | .ref n=>match s[n]? with
  | some (.ins c fs)=>if fs.length<900 then some (s.set n (.ins c (fput f v fs)))else none
  | _=>none
 | _=>none
@[simp ↓] theorem zuK{f:Str}{o e:E}{P:Pst}:wC (zlA f o e σ s) P↔wE (e σ s) (λv s1=>wE (o σ s1) (λx s2=>onO (zrC s2 x f v) λs3=>P.nx σ s3) P.xc) P.xc:=by
 with_unfolding_all
  show wC (ex σ (e σ s) _) P↔_;rw[uF]
  have key:∀(v x:D) (s2:S),wC (match x with
     | .ref n=>match s2[n]? with
      | some (.ins c fs)=>if fs.length<900 then some (R.nx σ (s2.set n (.ins c (fput f v fs))))else none
      | _=>none
     | _=>none) P↔onO (zrC s2 x f v) λs3=>P.nx σ s3:=by
    intro v x s2;unfold zrC
    cases x with
    | ref n =>
     dsimp only
     cases h:s2[n]? with
     | none=>simp
     | some o =>
      cases o with
      | ins c fs =>
       dsimp only;by_cases z:fs.length<900 <;> simp[z]
      | _=>simp
    | _=>simp
  constructor
  . intro h;exact zA h λv s1 h=>zA (uF.mp h) λx s2 h=>(key v x s2).mp h
  . intro h;exact zA h λv s1 h=>uF.mpr (zA h λx s2 h=>(key v x s2).mpr h)
theorem zex{n:Nat}{c f:Str}{v:D}{fs:List (Str×D)}(h:s[n]?=some (.ins c fs))(hl:fs.length<900):zrC s (.ref n) f v=some (s.set n (.ins c (fput f v fs))):=by
 simp[zrC,h,hl]
def onN(d:D)(k:Prop):Prop:=match d with
 | .non=>k
 | _=>False
@[simp] theorem ztq{k:Prop}:onN .non k↔k:=Iff.rfl
theorem zhK{m:Option (Res D)}{r:D}:wE (match m with
  | some (.ok .non s')=>some (.ok r s')
  | some (.exc x fs s')=>some (.exc x fs s')
  | _=>none) Q X↔wE m (λd s'=>onN d (Q r s')) X:=by
 with_unfolding_all
  cases m with
  | none=>simp
  | some q =>
   cases q with
   | exc c fs s'=>simp
   | ok d s'=>cases d <;> simp[onN]
@[simp ↓] theorem zuv{c:Str}{init:F}{dfl:List D}{es:EL}:wE (zbP c init dfl es σ s) Q X↔wE (es σ s) (λds s1=>wE (init (.ref s1.length::(ds++dfl)) (s1++[.ins c []])) (λd s'=>onN d (Q (.ref s1.length) s')) X) X:=by
 with_unfolding_all
  show wE (bnd (es σ) _ s) Q X↔_;rw[yU];constructor
  . intro h;exact zA h λds s1 h=>zhK.mp h
  . intro h;exact zA h λds s1 h=>zhK.mpr h
def zoJ(s:S)(x:D)(c m:Str):Bool:=match x with
 | .ref n=>match s[n]? with
  | some (.ins c' fs)=>decide (c'=c)&&(fs.lookup m).isNone
  | _=>false
 | _=>false
theorem zjL{n:Nat}{c m:Str}{fs:List (Str×D)}(h:s[n]?=some (.ins c fs))(hm:fs.lookup m=none):zoJ s (.ref n) c m=true:=by
 simp[zoJ,h,hm]
@[simp ↓] theorem zuw{c m:Str}{f:F}{dfl:List D}{o:E}{es:EL}:wE (zY c m f dfl o es σ s) Q X↔wE (o σ s) (λx s1=>onT (zoJ s1 x c m) (wE (es σ s1) (λds s2=>wE (f (x::(ds++dfl)) s2) Q X) X) False) X:=by
 with_unfolding_all
  show wE (bnd (o σ) _ s) Q X↔_;rw[yU]
  have key:∀(x:D) (s1:S),wE (match x with
     | .ref n=>match s1[n]? with
      | some (.ins c' fs)=>if c'=c/\fs.lookup m=none then bnd (es σ) (λds=>f (x::(ds++dfl))) s1 else none
      | _=>none
     | _=>none) Q X↔onT (zoJ s1 x c m) (wE (es σ s1) (λds s2=>wE (f (x::(ds++dfl)) s2) Q X) X) False:=by
    intro x s1;unfold zoJ
    cases x with
    | ref n =>
     dsimp only
     cases h:s1[n]? with
     | none=>simp
     | some o =>
      cases o with
      | ins c' fs =>
       dsimp only;by_cases z:c'=c
       . by_cases z2:fs.lookup m=none
         . simp only[z,z2,and_self,if_true,decide_true,Option.isNone_none,rC,yI];exact yU
         . have z3:(List.lookup m fs).isNone=false:=by cases hh:List.lookup m fs with
            | none=>exact absurd hh z2
            | some _=>rfl
           simp[z,z2,z3]
       . simp[z]
      | _=>simp
    | _=>simp
  constructor
  . intro h;exact zA h λx s1 h=>(key x s1).mp h
  . intro h;exact zA h λx s1 h=>(key x s1).mpr h
def zed(s:S)(x:D):Option (List D):=match x with
 | .ref n=>match s[n]? with
  | some (.dK kvs)=>some (kvs.map pairD)
  | _=>none
 | _=>none
@[simp ↓] theorem zsD{x:D}:wE (zaS x s) Q X↔onO (zed s x) λds=>Q (.ref s.length) (s++[.lst ds]):=by
 with_unfolding_all
  unfold zaS zed
  cases x with
  | ref n =>
   dsimp only
   cases h:s[n]? with
   | none=>simp
   | some o=>cases o <;> simp
  | _=>simp
theorem zlY{n:Nat}{kvs:List (L2.Key×D)}(h:s[n]?=some (.dK kvs)):zed s (.ref n)=some (kvs.map pairD):=by
 simp[zed,h]
@[simp ↓] theorem zsE{ds:List D}:wE (zab [.tup ds] s) Q X↔Q (.ref s.length) (s++[.lst ds]):=by
 with_unfolding_all
  exact Iff.rfl
theorem zmZ{n:Nat}{ds:List D}(h:s[n]?=some (.lst ds)):wE (zab [.ref n] s) Q X↔Q (.ref s.length) (s++[.lst ds]):=by
 with_unfolding_all
  unfold zab;dsimp only;rw[h];exact Iff.rfl
theorem zpZ{n:Nat}{d:D}{k:Nat}(h:s[n]?=some (.lst [d]))(hk:k<1000000):wE (jN (.ref n) (.int k) s) Q X↔Q (.ref s.length) (s++[.lst (List.replicate k d)]):=by
 with_unfolding_all
  have e:(List.replicate k [d]).flatten=List.replicate k d:=by
   induction k with
   | zero=>rfl
   | succ k ih=>rw[oE,pO,ih (by omega)];rfl
  unfold jN;dsimp only;rw[h];dsimp only;rw[if_pos (by simp[sz];omega)];simp[e]
theorem zgY{n:Nat}{o:O}{f:S->Option R}{P:Pst}(h:s[n]?=some o)(hl:∀ o',o≠.lck o')(k:wC (f (s.set n (.lck o))) { nx:=λe s=>P.nx e (s.set n o),rt:=λd s=>P.rt d (s.set n o),bk:=λe s=>P.bk e (s.set n o),ct:=λe s=>P.ct e (s.set n o),xc:=P.xc }):wC (zcX n s f) P:=by
 with_unfolding_all
  unfold zcX;rw[h]
  cases o with
  | lck o'=>exact absurd rfl (hl o')
  | _ =>
   dsimp only;revert k
   cases f (s.set n (.lck _))with
   | none=>exact λk=>k
   | some r=>cases r <;> exact λk=>k
theorem znd{n:Nat}{o:O}{f:S->Option (Res D)}(h:s[n]?=some o)(hl:∀ o',o≠.lck o')(k:wE (f (s.set n (.lck o))) (λd s=>Q d (s.set n o)) X):wE (vK n s f) Q X:=by
 with_unfolding_all
  unfold vK;rw[h]
  cases o with
  | lck o'=>exact absurd rfl (hl o')
  | _ =>
   dsimp only;revert k
   cases f (s.set n (.lck _))with
   | none=>exact λk=>k
   | some r=>cases r <;> exact λk=>k
end
section
variable{s:S}{σ:Env}{X:Xc}{Q:D->S->Prop}
@[simp ↓] theorem zsT{c f:Str}{e:E}{P:Pst}:wC (xj c f e σ s) P↔wE (e σ s) (λv s'=>P.xc c [(f,v)] s') P.xc:=by
 with_unfolding_all
  exact uF
def isJ(s:S)(x:D)(sub:List Str):Option Bool:=match x with
 | .ref n=>match s[n]? with
  | some (.ins c _)=>some (sub.contains c)
  | some (.err c _)=>some (sub.contains c)
  | some (.lst _)=>some false
  | some (.dK _)=>some false
  | some (.dT _)=>some false
  | _=>none
 | .rol _=>none
 | .stu _=>none
 | _=>some false
@[simp ↓] theorem zve{sub:List Str}{x:D}:wE (zqi sub x s) Q X↔onO (isJ s x sub) λb=>Q (.bl b) s:=by
 with_unfolding_all
  unfold zqi isJ
  cases x with
  | ref n =>
   dsimp only
   cases h:s[n]? with
   | none=>simp
   | some o=>cases o <;> simp
  | _=>simp
theorem zoK{n:Nat}{c:Str}{sub:List Str}{fs:List (Str×D)}(h:s[n]?=some (.ins c fs)):isJ s (.ref n) sub=some (sub.contains c):=by
 simp[isJ,h]
@[simp ↓] theorem ztl{d:D}:wE (ji [d] s) Q X↔onO (uI s 60 d) λx=>onT (x.showable&&sz x.shown.length) (Q (.str x.shown) s) False:=by
 with_unfolding_all
  unfold ji;dsimp only
  cases h:uI s 60 d with
  | none=>simp[h]
  | some x =>
   cases hc:(x.showable&&sz x.shown.length) <;> simp[h,hc]
@[simp ↓] theorem zta{n:Nat}:wE (jh [.ref n] s) Q X↔onO (yu s n) λds=>onO (uW ds) λkvs=>Q (.ref s.length) (s++[.dK (jj [] kvs)]):=by
 with_unfolding_all
  unfold jh;dsimp only
  cases h:yu s n with
  | none=>simp[h]
  | some ds =>
   dsimp only
   cases h2:uW ds with
   | none=>simp[h2]
   | some kvs=>simp[h2]
theorem zfo{n:Nat}{kvs:List (L2.Key×D)}{ks ys:List Str}(h:s[n]?=some (.dK kvs))(hk:vO kvs=some ks)(hl:ks.length<64)(hs:zai ks=some ys):wE (vB [.ref n] s) Q X↔Q (.ref s.length) (s++[.lst (ys.map .str)]):=by
 with_unfolding_all
  unfold vB;dsimp only;rw[h];dsimp only;rw[hk];dsimp only;rw[if_pos hl,hs];exact Iff.rfl
end
end Fc
namespace Fc
open PySem PySem.Spec PyProof.Rows L2
variable{cm:CM}{W:WX}
def strsOf:List D->Option (List Str)
 | []=>some []
 | .str x::r=>(strsOf r).map (x::·)
 | _=>none
def zoj:List D->Option (List Bool)
 | []=>some []
 | .bl x::r=>(zoj r).map (x::·)
 | _=>none
def zoH(ds:List D)(v:D):Option Nat:=match v with
 | .str k=>match strsOf ds with
  | some ks=>if k∈ks then some (ks.idxOf k)else none
  | none=>none
 | .bl k=>match zoj ds with
  | some ks=>if k∈ks then some (ks.idxOf k)else none
  | none=>none
 | _=>none
def zcf:D->List D->M D:=λx xs s=>match x,xs with
 | .ref n,[v]=>match s[n]? with
  | some (.lst ds)=>(zoH ds v).map λi=>.ok (.int i) s
  | _=>none
 | _,_=>none
theorem zfG:∀{ds:List D}{ks:List Str},strsOf ds=some ks->ds=ks.map .str
 | [],ks,h=>by cases h;rfl
 | .str x::r,ks,h=>by
  obtain⟨l,h1,rfl⟩:=tW.mp h;rw[zfG h1];rfl
 | .non::_,_,h=>by cases h
 | .bl _::_,_,h=>by cases h
 | .int _::_,_,h=>by cases h
 | .tup _::_,_,h=>by cases h
 | .ref _::_,_,h=>by cases h
 | .rol _::_,_,h=>by cases h
 | .stu _::_,_,h=>by cases h
theorem zhj:∀{ds:List D}{ks:List Bool},zoj ds=some ks->ds=ks.map .bl
 | [],ks,h=>by cases h;rfl
 | .bl x::r,ks,h=>by
  obtain⟨l,h1,rfl⟩:=tW.mp h;rw[zhj h1];rfl
 | .non::_,_,h=>by cases h
 | .str _::_,_,h=>by cases h
 | .int _::_,_,h=>by cases h
 | .tup _::_,_,h=>by cases h
 | .ref _::_,_,h=>by cases h
 | .rol _::_,_,h=>by cases h
 | .stu _::_,_,h=>by cases h
theorem zjc(ks:List Str):strsOf (ks.map .str)=some ks:=by
 induction ks with
 | nil=>rfl
 | cons k ks ih=>simp[strsOf,ih]
section
variable{K:oU}{p:List Addr}{H:Hp}{X:Cx}{a b:Expr}{fa:E}{fl:EL}
theorem zil:∀{ks:List Str}{vs:List V}{us:List Value},RVs K p H (ks.map .str) vs->Vals vs us->StrsAre us ks
 | [],vs,us,h,r=>by
  simp only[qu,RVs]at h;subst h;cases r;exact .nil
 | k::ks,vs,us,h,r=>by
  simp only[tK,RVs]at h;obtain⟨v,r',rfl,h1,h2⟩:=h;have e:=wQ h1;subst e
  cases r with
  | cons r1 r2 =>
   obtain⟨t,rfl⟩:=r1;exact .cons k t (zil h2 r2)
theorem zjk:∀{ks:List Bool}{vs:List V}{us:List Value},RVs K p H (ks.map .bl) vs->Vals vs us->us=ks.map .bool
 | [],vs,us,h,r=>by
  simp only[qu,RVs]at h;subst h;cases r;rfl
 | k::ks,vs,us,h,r=>by
  simp only[tK,RVs]at h;obtain⟨v,r',rfl,h1,h2⟩:=h;have e:=zaJ h1;subst e
  cases r with
  | cons r1 r2 =>
   cases (show _=Value.bool k from r1);rw[zjk h2 r2];rfl
def rIndex(K:oU)(cm:CM):V->List V->Hp->VK->Prop:=λx vs H Q=>∃ p s n ds y d i,RS K cm p s H/\RV K p H (.ref n) x/\vs=[y]/\RV K p H d y/\s[n]?=some (.lst ds)/\zoH ds d=some i/\Q (.int (i:Nat)) H
theorem mt_index:MtR X "list.index" (rIndex X.K cm):=by
 intro pins s0 σ H x vs v us Q I rx rv h;obtain⟨p,s,n,ds,y,d,i,rs,r1,rfl,r2,hn,hi,q⟩:=h;obtain⟨a,ws,rfl,_,hH,rr⟩:=yw rs r1 hn;cases (show v=Value.ref a from rx);obtain⟨u,rfl,ru⟩:=vals1 rv;obtain⟨its,w,pl,hz⟩:=I.list (SqL.of hH);have hl:=w.length;have hl2:=rr.length;unfold zoH at hi;split at hi
 . rename_i k;have e:=wQ r2;subst e;obtain⟨t,rfl⟩:=ru;split at hi
   . rename_i ks hk;split at hi
     . rename_i hm;cases hi;have e:=zfG hk;subst e;exact PySem.SeqAt.list_index_strs pl.isList (zil rr w) (by simp at hl2;omega) hm ⟨.int _,H,I.tok _,⟨_,rfl⟩,q⟩
     . cases hi
   . cases hi
 . rename_i k;have e:=zaJ r2;subst e;cases (show u=Value.bool k from ru);split at hi
   . rename_i ks hk;split at hi
     . rename_i hm;cases hi;have e:=zhj hk;subst e;have ei:=zjk rr w;subst ei;refine PySem.SeqAt.call_list_index (ks:=ks) (k:=k) pl.isList ⟨by simp,λj h1 h2=>?_⟩ (by simp at hl2;omega) hm ⟨.int _,H,I.tok _,⟨_,rfl⟩,q⟩;have:=PySem.SeqAt.EqAt.bool_bool (A:=X.A.in1) (s:=s0) ks[j] k;simp only[qN];rw[show decide (ks[j]=k)=(ks[j] == k) by rw[Bool.eq_iff_iff];simp];exact this
     . cases hi
   . cases hi
 . cases hi
theorem ziQ{apos cpos:Pos}(ho:JE X cm W a fa)(ha:JA X cm W [b] fl)
   (hbase:attributeBase a "index" X.env (eval a X.env)=eval a X.env:=by rfl)
   (hfew:((backTo cpos (starEach [b] X.env)).all (λx=>!x.1)&&(backToKw cpos (keywordEach [] X.env)).all (λx=>x.1.isSome)
     && decide (([b]:List Expr).length+([]:List Keyword).length+(if ([]:List Keyword).isEmpty then 0 else 1)<30))=true:=by rfl)
   (hline:(apos.endLine == cpos.line)=true:=by rfl) (hs:starEach [b] X.env=(false,eval b X.env)::starEach [] X.env:=by rfl) (hplain:(backTo cpos (starEach [] X.env)).any (·.1)=false:=by rfl) :
   JE X cm W (.Call (.Attribute a "index" apos) [b] [] cpos) (eM zcf fa fl):=by
 refine r_m PySem.F.slot_list_index (by rfl) (mt_index (cm:=cm)) (λW p s σ H x xs d ds Q rs rx rxs q=>?_) ho ha hbase hfew hline hs hplain;unfold zcf at q;split at q
 . rename_i n v;split at q
   . rename_i ds' hn
     cases hi:zoH ds' v with
     | none=>rw[hi]at q;exact q.elim
     | some i =>
      rw[hi]at q;obtain⟨y,rfl,r1⟩:=wN rxs;exact⟨p,s,n,ds',y,v,i,rs,rx,rfl,r1,hn,hi,Po.ok q rs (wu _)⟩
   . exact q.elim
 . exact q.elim
end
section
variable{s:S}{X:Xc}{Q:D->S->Prop}
theorem zpY{n:Nat}{ds:List D}{v:D}{i:Nat}(h:s[n]?=some (.lst ds))(hi:zoH ds v=some i)(q:Q (.int i) s):wE (zcf (.ref n) [v] s) Q X:=by
 unfold zcf;simp only[h,hi,sE];exact uX.mpr q
end
end Fc
namespace FZ
open PySem Builtin.SmallTypes L2
def ztV(K:oU)(a b:Addr):It :=
 ⟨λi H=>∃(xs ys:List V) (x y:V),SqL K H a xs/\SqL K H b ys/\xs[i]?=some x/\ys[i]?=some y,
  λi H v H'=>∃ T x y,v=.ref T/\H T=none/\H'=upd H T (.tup [x,y])/\(∀ xs,SqL K H a xs->xs[i]?=some x)/\∀ ys,SqL K H b ys->ys[i]?=some y,
  λi H=>∃ xs ys:List V,SqL K H a xs/\SqL K H b ys/\xs.length<=i/\ys.length<=i⟩
end FZ
namespace Fc
open PySem PySem.Spec PyProof.Rows L2
def zsz(s:S)(L:Nat)(ns:List Nat):Bool:=ns.all λn=>match yu s n with
 | some ds=>decide (ds.length=L)
 | none=>false
def znG:List D->Option (List Nat)
 | [.ref a,.ref b]=>some [a,b]
 | [.ref a,.ref b,.ref c]=>some [a,b,c]
 | _=>none
theorem zdX{s:S}{L n:Nat}{ns:List Nat}(h:zsz s L ns=true)(hn:n∈ns):∃ xs,s[n]?=some (.lst xs)/\xs.length=L:=by
 have:=sH.mp h n hn;split at this
 . rename_i ds hd;exact⟨ds,xW hd,of_decide_eq_true this⟩
 . cases this
variable{K:oU}{cm:CM}
section
variable{X:Cx}{a b:Expr}{vs:List Nat}
theorem zuo{p:List Addr}{σ:L2.St}{H:Hp}{R:It->Hp->Prop}{ds:List D}{s1:S}{xs:List V}(rs:RS X.K cm p s1 H)(rr:RVs X.K p H ds xs){n m k:Nat}(h:znG ds=some [n,m])(he:zsz s1 k [n,m]=true)
   (q:∀ a b,p[n]?=some a->p[m]?=some b->R (FZ.ztV X.K a b) H):∃ a b us vs,xs=[.ref a,.ref b]/\SqL X.K H a us/\SqL X.K H b vs/\R (FZ.ztV X.K a b) H:=by
 unfold znG at h;split at h
 . cases h;obtain⟨x,y,rfl,rx,ry⟩:=zir rr;obtain⟨us,e1,_⟩:=zdX he (tH);obtain⟨ws,e2,_⟩:=zdX he (tV _ (tH));obtain⟨a,vs,rfl,z1,z2,z3⟩:=yw rs rx e1;obtain⟨b,ts,rfl,y1,y2,y3⟩:=yw rs ry e2;exact⟨a,b,vs,ts,rfl,SqL.of z2,SqL.of y2,q a b z1 y1⟩
 . cases h
 . cases h
end
end Fc
namespace Fc
open PySem PySem.Spec PyProof.Rows L2
def zjP(s:S)(i L n:Nat):Option D:=match yu s n with
 | some ds=>if ds.length=L then (ds[i]?).map λd=>.tup [.int (i:Nat),d]else none
 | none=>none
def zhz(n:Nat)(g:G)(b:C):Nat->Nat->Env->S->Option R
 | 0,i,σ,s=>if zsz s i [n]then some (.nx σ s)else none
 | k+1,i,σ,s=>match zjP s i (i+(k+1)) n with
  | some d=>match g d σ s with
   | some σ1=>match b σ1 s with
    | some (.nx σ2 s2)=>zhz n g b k (i+1) σ2 s2
    | some (.ct σ2 s2)=>zhz n g b k (i+1) σ2 s2
    | some (.bk σ2 s2)=>some (.nx σ2 s2)
    | r=>r
   | none=>none
  | none=>none
def zfD(s:S)(ds:List D):Option (Nat×Nat):=match ds with
 | [.ref n]=>(yu s n).map λxs=>(n,xs.length)
 | _=>none
def zeL(es:EL)(g:G)(b:C):C:=λσ s=>ex σ (es σ s) λds s1=>match zfD s1 ds with
 | some (n,k)=>zhz n g b k 0 σ s1
 | none=>none
variable{K:oU}{cm:CM}{W:WX}
theorem ziE{s:S}{i L n:Nat}{d:D}(h:zjP s i L n=some d):∃ xs x,s[n]?=some (.lst xs)/\xs[i]?=some x/\xs.length=L/\d=.tup [.int (i:Nat),x]:=by
 unfold zjP at h;split at h
 . rename_i ds hd;split at h
   . rename_i hl;obtain⟨x,h1,h2⟩:=tW.mp h;exact⟨ds,x,xW hd,h1,hl,h2.symm⟩
   . cases h
 . cases h
theorem zkd{a:Addr}{n:Nat}{k:Nat}{g:Fc.G}{vs:List Nat}{b:C}{p:List Addr}{e:Env}{s:S}{σ:L2.St}{H:Hp}{Dn:Ends}(hG:p[n]?=some a)(re:RE K p H e σ)(rs:RS K cm p s H)(q:PoS K cm W p H (zhz n g b k 0 e s) Dn) :
  LoopW (Ite K a) (tG K cm g vs) (tS K cm W b) Dn σ H:=by
 refine⟨λi m σ H=>∃ p e s,p[n]?=some a/\RE K p H e σ/\RS K cm p s H/\PoS K cm W p H (zhz n g b m i e s) Dn,⟨k,p,e,s,hG,re,rs,q⟩,?_⟩;rintro i m σ H ⟨p,e,s,hG,re,rs,q⟩
 cases m with
 | zero =>
  unfold zhz at q;split at q
  . rename_i hz;obtain⟨xs,e1,e3⟩:=zdX hz (tH);obtain⟨a',vs,z0,z1,z2,z3⟩:=yw rs (wW hG) e1;cases z0;exact .inl ⟨⟨vs,SqL.of z2,by rw[← z3.length,e3];exact tX _⟩,q p H σ Fut.refl rs re⟩
  . exact q.elim
 | succ m =>
  unfold zhz at q;split at q
  . rename_i d hd;obtain⟨xs,y,e1,e2,e3,ed⟩:=ziE hd;obtain⟨a',us,z0,z1,z2,z3⟩:=yw rs (wW hG) e1;cases z0;obtain⟨v,hv,rv⟩:=z3.get e2;refine .inr ⟨⟨us,v,SqL.of z2,hv⟩,λσ' H'=>∃ p e s,p[n]?=some a/\RE K p H' e σ'/\RS K cm p s H'/\PoS K cm W p H' (zhz n g b m (i+1) e s) Dn,λσ' H' z=>⟨m,by omega,z⟩,λx H' yy=>?_⟩
    have key:Fut p H p H'/\RS K cm p s H'/\RV K p H' d x:=by
     obtain⟨T,x1,rfl,hT,rfl,k1⟩:=yy;have k1:=k1 us (SqL.of z2);rw[hv]at k1;cases k1;have sm:=wR (u:=HO.tup [.int (i:Nat),v]) hT;subst ed;refine⟨Fut.same sm,rs.same sm,zaz upd_same ?_⟩;simp only[RVs];exact⟨_,_,rfl,wu _,_,_,rfl,rv.mono (Fut.same sm),rfl⟩
    obtain⟨f,rs',rv⟩:=key
    cases hg:g d e s with
    | none=>simp only[hg]at q;exact q.elim
    | some e' =>
     simp only[hg]at q;refine⟨p,e,s,d,e',re.mono f,rs',rv,hg,λσ' re' _=>⟨p,e',s,re',rs',?_⟩⟩;have q:=q.fut f
     cases hb:b e' s with
     | none=>rw[hb]at q;exact q.elim
     | some r =>
      rw[hb]at q
      cases r with
      | nx e2 s2=>exact λp2 H2 σ2 f2 rs2 re2=>⟨p2,e2,s2,f2.pre _ _ hG,re2,rs2,q.fut f2⟩
      | ct e2 s2=>exact λp2 H2 σ2 f2 rs2 re2=>⟨p2,e2,s2,f2.pre _ _ hG,re2,rs2,q.fut f2⟩
      | bk e2 s2=>exact q
      | rt d2 s2=>exact q
      | xc c fs e2 s2=>exact q
  . exact q.elim
section
variable{X:Cx}{a:Expr}{fl:EL}{elts:List Expr}{kk:Nat}{tpos cpos zpos pos:Pos}{g:Fc.G}{vs:List Nat}{body:List Stmt}{bd:C}
theorem zsM{p:List Addr}{e:Env}{σ:L2.St}{H:Hp}{s:S}{Dn:Ends}(re:RE X.K p H e σ)(q:PoS X.K cm W p H (zeL fl g bd e s) Dn) :
  Po X.K cm W (RVs X.K) p σ H (fl e s) λvs1 H1=>∃ a xs,vs1=[.ref a]/\SqL X.K H1 a xs/\LoopW (Ite X.K a) (tG X.K cm g vs) (tS X.K cm W bd) Dn σ H1:=by
 unfold zeL Fc.ex at q
 cases h:fl e s with
 | none=>rw[h]at q;exact q.elim
 | some r =>
  rw[h]at q
  cases r with
  | exc c fs s'=>exact λp1 H1 cls dd f rs1 rx=>q p1 H1 σ cls dd f rs1 (re.mono f) rx
  | ok ds s1 =>
   intro p1 H1 xs f rs1 rr;dsimp only at q;split at q
   . rename_i n k hz;unfold zfD at hz;split at hz
     . rename_i n';obtain⟨ys,h1,h2⟩:=tW.mp hz;cases h2;obtain⟨x,rfl,rx⟩:=wN rr;obtain⟨b,us,rfl,z1,z2,z3⟩:=yw rs1 rx (xW h1);exact⟨b,us,rfl,SqL.of z2,zkd z1 (re.mono f) rs1 (PoS.fut q f)⟩
     . cases hz
   . exact q.elim
theorem zrq(hp:PassesOwn (model X.prog X.w) X.A X.env X.xe)(hc:X.calm=true)(ha:JA X cm W [a] fl)(hm:X.mg "enumerate"=none)(hg:JG X cm (.Tuple elts kk tpos) g vs)(hb:JSs X cm W body bd)(hgl:Gl X "enumerate":=by rfl)
  (h1:starEach [a] X.env=[(false,eval a X.env)]:=by rfl)
  (hs:∀ x,foldedSetIterable (.Call (.Name "enumerate" cpos) [a] [] zpos) X.env x=pure x:=by intro _;rfl) :
  JS X cm W (.For (.Tuple elts kk tpos) (.Call (.Name "enumerate" cpos) [a] [] zpos) body [] pos) (zeL fl g bd):=by
 refine⟨λpins s0 σ H Dn I q=>?_⟩;obtain⟨p,e,s,re,rs,q⟩:=q;exact(ps_for hp hc (pi_enum hgl hm ha h1) hg hb hs).run pins s0 σ H Dn I ⟨p,e,s,re,rs,zsM re q⟩
end
end Fc
namespace FZ
open PySem
open PySem.Sem (wp)
section
variable{prog:Program}{w:World}{A:Around}{R:Result->Shared->Prop}{I:Addr}{fp wr:List Addr}{n:Nat}{P:Nat->Value->Prop}{St:Nat->Heap->Prop}{kf:Nat->Nat}{G:Heap->Prop}
def bt(kf:Nat->Nat):Nat->Nat->Bool:=λi j=>decide ((kf i:Int)<(kf j:Int))
def KeyOf(prog:Program)(w:World)(A:Around)(P:Nat->Value->Prop)(G:Heap->Prop)(kf:Nat->Nat):Prop :=
 ∀ j v (s:Shared) (Q:Value->Shared->Prop) (E:Value->Shared->Prop),P j v->G s.heap->(∀ t tk,Q (.int (kf j) t) { s with toks:=tk })->wpAny (model prog w) A (call (.builtin "len") [v]) Q E s
theorem zbJ(W:Walks prog w A.in1 I fp wr n P St)(hkey:KeyOf prog w A.in1 P G kf)(S:Addr)(hSf:S∉fp)(hG:∀ h h':Heap,G h->(∀ b o,b∉wr->b≠S->h.get? b=some o->h'.get? b=some o)->G h') :
  ∀(k j:Nat) (s:Shared) (vb:Value) (tb:Tok),n - (j+1)=k->j+1<=n->St (j+1) s.heap->G s.heap->P (argBest (bt kf) j) vb ->
  (∃ c,s.heap.get? S=some { cls:=.type "list",dict:=none,data:=.seq #[vb,.int (kf (argBest (bt kf) j)) tb] c,slots:=#[] }) ->
  (∀ v h' tk,P (argBest (bt kf) (n - 1)) v->(∀ b o,b∉wr->b≠S->s.heap.get? b=some o->h'.get? b=some o)->R (.ok (.ret v)) { s with heap:=h',toks:=tk }) ->
  codeAny (model prog w) A (.builtin "min.loop" ⟨[.ref I,.builtin "len",.ref S],[]⟩) R s:=by
 have hSw:S∉wr:=λh=>hSf (W.sub _ h)
 have hname:(toString "min"++toString ".loop":String)="min.loop":=by decide
 intro k
 induction k with
 | zero =>
  rintro j s vb tb hk hj hst hg hPb ⟨c,hS⟩ hR
  have hin:j+1=n:=by omega
  refine codeAny_builtin F.entry_min_loop ?_;rw[Around.under_plainId F.plain_min_loop _];show wpAny _ A.in1 (seqItems? (.ref S) >>= _) _ _ s;refine wpAny_bind (wpAny_seqItems hS rfl ?_);show wpAny _ A.in1 (tryCatch (pyNext (.ref I)) _ >>= _) _ _ s;refine wpAny_bind (wpAny_tryCatch (W.done s _ _ (hin ▸ hst) λh' tk hk'=>?_));have hS':=hk' S _ hSw hS;show wpAny _ A.in1 (updateSeq S (λ_=>#[]) >>= _) _ _ _;refine wpAny_bind ?_;refine wpAny_updateSeq hS' rfl (wpAny_bind (wpAny_letGo (wpAny_pure ?_)));refine hR vb _ tk (by rw[← hin];exact hPb) λb o hbw hbS e=>(Heap.get?_update_other _ _ (tY hbS)).trans (hk' b o hbw e)
 | succ k ih =>
  rintro j s vb tb hk hj hst hg hPb ⟨c,hS⟩ hR
  have hlt:j+1<n:=by omega
  refine codeAny_builtin F.entry_min_loop ?_;rw[Around.under_plainId F.plain_min_loop _];show wpAny _ A.in1 (seqItems? (.ref S) >>= _) _ _ s;refine wpAny_bind (wpAny_seqItems hS rfl ?_);show wpAny _ A.in1 (tryCatch (pyNext (.ref I)) _ >>= _) _ _ s;refine wpAny_bind (wpAny_tryCatch (W.item (j+1) s _ _ hlt hst λv h' tk hP hst' hk'=>?_));have hS':=hk' S _ hSw hS;have hg':G h':=hG _ _ hg λb o hbw _ e=>hk' b o hbw e;show wpAny _ A.in1 (tryCatch (holding [v] (call (.builtin "len") [v])) _ >>= _) _ _ _;refine wpAny_bind (wpAny_tryCatch (wpAny_holding (hkey (j+1) v _ _ _ hP hg' λtv tk2=>?_)));show wpAny _ A.in1 (tryCatch (holding [.int (kf (j+1)) tv,v] (richCompare .Lt (.int (kf (j+1)) tv) (.int (kf (argBest (bt kf) j)) tb) >>= _)) _ >>= _) _ _ _;refine wpAny_bind (wpAny_tryCatch (wpAny_holding (wpAny_bind (CmpOf.ints_lt (P:=λi v=>∃ t,v=.int (kf i:Int) t) (λi=>(kf i:Int)) (λi v h=>h) (j+1) (argBest (bt kf) j) _ _ _ _ _ ⟨_,rfl⟩ ⟨_,rfl⟩ ?_))));refine wpAny_bind (wpAny_holding (wpAny_truthy_bool ?_));refine wpAny_bind (wpAny_letGo (wpAny_pure ?_))
  cases hb:bt kf (j+1) (argBest (bt kf) j)with
  | true =>
   have hb':decide ((kf (j+1):Int)<(kf (argBest (bt kf) j):Int))=true:=hb;simp only[hb',if_true];refine wpAny_bind ?_;refine wpAny_updateSeq hS' rfl (wpAny_bind (wpAny_letGo ?_));rw[hname];refine wpAny_pure ⟨plainId_quiet F.plain_min_loop _,ih (j+1) _ v tv (by omega) hlt (W.frame _ _ _ hst' λb hbf o e=>?_) (hG _ _ hg' λb o _ hbS e=>(Heap.get?_update_other _ _ (tY hbS)).trans e) (by simp only[argBest,hb,if_true];exact hP) ⟨_,by simp only[argBest,hb,if_true];exact Heap.get?_update_self _ hS' rfl⟩ λv' h'' tk'' hP' hk''=>?_⟩
   . exact(Heap.get?_update_other _ _ (λh:S=b=>hSf (by rw[h];exact hbf))).trans e
   . exact hR v' h'' tk'' hP' λb o hbw hbS e=>hk'' b o hbw hbS ((Heap.get?_update_other _ _ (tY hbS)).trans (hk' b o hbw e))
  | false =>
   have hb':decide ((kf (j+1):Int)<(kf (argBest (bt kf) j):Int))=false:=hb;simp only[hb',rR,if_false];refine wpAny_bind (wpAny_letGo ?_);rw[hname];refine wpAny_pure ⟨plainId_quiet F.plain_min_loop _,ih (j+1) _ vb tb (by omega) hlt hst' hg' (by simp only[argBest,hb,rR,if_false];exact hPb) ⟨_,by simp only[argBest,hb,rR,if_false];exact hS'⟩ λv' h'' tk'' hP' hk''=>?_⟩;exact hR v' h'' tk'' hP' λb o hbw hbS e=>hk'' b o hbw hbS (hk' b o hbw e)
theorem uZ(W:Walks prog w A.in1 I fp wr n P St)(hkey:KeyOf prog w A.in1 P G kf)(S:Addr)(hSf:S∉fp)(hG:∀ h h':Heap,G h->(∀ b o,b∉wr->b≠S->h.get? b=some o->h'.get? b=some o)->G h')(hn:0<n){s:Shared}{c:Nat}(hst:St 0 s.heap)(hg:G s.heap)
   (hS:s.heap.get? S=some { cls:=.type "list",dict:=none,data:=.seq #[] c,slots:=#[] })
   (hR:∀ v h' tk,P (argBest (bt kf) (n - 1)) v->(∀ b o,b∉wr->b≠S->s.heap.get? b=some o->h'.get? b=some o)->R (.ok (.ret v)) { s with heap:=h',toks:=tk }) :
   codeAny (model prog w) A (.builtin "min.loop" ⟨[.ref I,.builtin "len",.ref S],[]⟩) R s:=by
 have hSw:S∉wr:=λh=>hSf (W.sub _ h)
 have hname:(toString "min"++toString ".loop":String)="min.loop":=by decide
 refine codeAny_builtin F.entry_min_loop ?_;rw[Around.under_plainId F.plain_min_loop _];show wpAny _ A.in1 (seqItems? (.ref S) >>= _) _ _ s;refine wpAny_bind (wpAny_seqItems hS rfl ?_);show wpAny _ A.in1 (tryCatch (pyNext (.ref I)) _ >>= _) _ _ s;refine wpAny_bind (wpAny_tryCatch (W.item 0 s _ _ hn hst λv h' tk hP hst' hk'=>?_));have hS':=hk' S _ hSw hS;have hg':G h':=hG _ _ hg λb o hbw _ e=>hk' b o hbw e;show wpAny _ A.in1 (tryCatch (holding [v] (call (.builtin "len") [v])) _ >>= _) _ _ _;refine wpAny_bind (wpAny_tryCatch (wpAny_holding (hkey 0 v _ _ _ hP hg' λtv tk2=>?_)));show wpAny _ A.in1 (updateSeq S (λ_=>#[v,.int (kf 0) tv]) >>= _) _ _ _;refine wpAny_bind ?_;refine wpAny_updateSeq hS' rfl ?_;rw[hname];refine wpAny_pure ⟨plainId_quiet F.plain_min_loop _,zbJ W hkey S hSf hG _ 0 _ v tv rfl hn (W.frame _ _ _ hst' λb hbf o e=>?_) (hG _ _ hg' λb o _ hbS e=>(Heap.get?_update_other _ _ (tY hbS)).trans e) hP ⟨_,Heap.get?_update_self _ hS' rfl⟩ λv' h'' tk'' hP' hk''=>?_⟩
 . exact(Heap.get?_update_other _ _ (λh:S=b=>hSf (by rw[h];exact hbf))).trans e
 . exact hR v' h'' tk'' hP' λb o hbw hbS e=>hk'' b o hbw hbS ((Heap.get?_update_other _ _ (tY hbS)).trans (hk' b o hbw e))
end
section
variable{prog:Program}{w:World}{A:Around}{E:Value->Shared->Prop}{s:Shared}
theorem zeO{id:String}{b:Builtin}{args:List Value}{kw:List (Str×Value)}{Q:Value->Shared->Prop}(hk:builtinKind id=none)(hp:plainId id=true)
  (hb:entryFor table id=some b) (ha:argsOk id ⟨args,kw⟩)
  (hc:wpAny (model prog w) A.in1 (b ⟨args,kw⟩) (λfin s'=>match fin with
   | .done f=>(match (Except.ok f:Result)with | .ok (.ret v)=>Q v s' | .ok _=>False | .error e=>E e s')
   | .again c'=>c'.quiet=true/\codeAny (model prog w) A c' (λr s'=>match r with | .ok (.ret v)=>Q v s' | .ok _=>False | .error e=>E e s') s') E s) :
  wpAny (model prog w) A (call (.builtin id) args kw) Q E s:=by
 refine wpAny_call (codeAny_call_builtin hp hb ?_);simp only[checkBuiltinCall,hk]
 cases hsig:Manifest.signature? id with
 | none=>exact wpAny_pure hc
 | some sig =>
  have ha':Bind.checkArgs id sig ⟨args,kw⟩=pure ():=by simpa only[argsOk,hsig]using ha
  simp only[ha'];exact wpAny_pure hc
theorem zeK(x:Value):argsOk "min" ⟨[x],[("key",.builtin "len")]⟩:=by unfold argsOk;kernel_rfl
theorem zeN{x:Value}{Q:Value->Shared->Prop}
  (h:wpAny (model prog w) A.in1 (pyIter x) (λit s₂=>∃ I fp wr n P St kf,∃ G:Heap->Prop,it=.ref I/\Walks prog w A.in1 I fp wr n P St/\St 0 s₂.heap/\G s₂.heap/\(∀ b∈fp,b<s₂.heap.objs.size)/\0<n/\KeyOf prog w A.in1 P G kf /\
   (∀ h h':Heap,G h->(∀ b o,b∉wr->b≠s₂.heap.objs.size->h.get? b=some o->h'.get? b=some o)->G h') /\
   ∀ v h' tk,P (argBest (bt kf) (n - 1)) v->(∀ b o,b∉wr->s₂.heap.get? b=some o->h'.get? b=some o)->Q v { s₂ with heap:=h',toks:=tk }) E s) :
  wpAny (model prog w) A (call (.builtin "min") [x] [("key",.builtin "len")]) Q E s:=by
 have hname:(toString "min"++toString ".loop":String)="min.loop":=by decide
 refine zeO F.kind_min F.plain_min F.entry_min (zeK _) ?_;show wpAny _ A.in1 (Builtin.Builtins.bindParams "min" ["key","default"] 0 ⟨[],[("key",.builtin "len")]⟩ >>= _) _ _ s;refine wpAny_bind (wpAny_of_eq (show Builtin.Builtins.bindParams "min" ["key","default"] 0 ⟨[],[("key",.builtin "len")]⟩=pure [some (.builtin "len"),none]from rfl) ?_);refine wpAny_bind (wpAny_pure ?_);refine wpAny_bind (wpAny_mono h (λit s₂ h₂=>?_) λ_ _ e=>e);obtain⟨I,fp,wr,n,P,St,kf,G,rfl,W,hst,hg,hfp,hn,hkey,hG,hQ⟩:=h₂;refine wpAny_bind (wpAny_newObj_type ?_);have hSf:s₂.heap.objs.size∉fp:=λhm=>pC _ (hfp _ hm);rw[hname];refine wpAny_pure ⟨plainId_quiet F.plain_min_loop _,uZ W hkey s₂.heap.objs.size hSf hG hn (W.frame _ _ _ hst λb _ o e=>Heap.get?_push_of_some _ e) (hG _ _ hg λb o _ _ e=>Heap.get?_push_of_some _ e) (Heap.get?_push_size _ rfl) λv h' tk hP hk=>?_⟩;exact hQ v h' tk hP λb o hbw e=>hk b o hbw (qb (Heap.lt_size e)) (Heap.get?_push_of_some _ e)
end
end FZ
namespace FZ
open PySem PySem.Spec PyProof.Rows L2
section
variable{prog:Program}{w:World}{A:Around}{E:Value->Shared->Prop}{s:Shared}{l:Addr}{its:Array Value}
theorem zgo{kf:Nat->Nat}{Q:Value->Shared->Prop}(hh:A.handled=none)(hl:s.heap.IsList l its)(hn:0<its.size)
   (hi:∀(j:Nat) v,its[j]?=some v->∃(b:Addr) (ys:Array Value),v=.ref b/\s.heap.IsList b ys/\ys.size=kf j/\(ys.size:Int)<2 ^ 63)
   (h:∀ h' tk v,(∀ b o,s.heap.get? b=some o->h'.get? b=some o)->its[argBest (bt kf) (its.size - 1)]?=some v->Q v { s with heap:=h',toks:=tk }) :
   wpAny (model prog w) A (call (.builtin "min") [.ref l] [("key",.builtin "len")]) Q E s:=by
 refine zeN (iter_anyList hl λs₂ e st hfp hlI=>?_);subst e;refine⟨_,_,_,_,_,_,kf,λh=>∀(j:Nat) v,its[j]?=some v->∃(b:Addr) (ys:Array Value),v=.ref b/\b<s.heap.objs.size/\h.IsList b ys/\ys.size=kf j/\(ys.size:Int)<2 ^ 63,rfl,Walks.list (A:=A.in1) hh _ l hlI its,st,λj v e=>?_,hfp,hn,λj v s Q E hP hG hQ=>?_,λh h' hG hk j v e=>?_,λv h' tk hP hk=>?_⟩
 . obtain⟨b,ys,e1,e2,e3,e4⟩:=hi j v e
   have lt:b<s.heap.objs.size:=by obtain⟨_,x,_⟩:=e2;exact Heap.lt_size x
   exact⟨b,ys,e1,lt,e2.push _,e3,e4⟩
 . obtain⟨b,ys,rfl,_,e2,e3,e4⟩:=hG j v hP;have hq:=hQ (s.toks+1) (s.toks+1+1);rw[← e3]at hq;exact Calls.call_len_list e2 e4 hq
 . obtain⟨b,ys,e1,lt,e2,e3,e4⟩:=hG j v e;have sz:(s.heap.push { cls:=.type "list_iterator",data:=.fields #[.ref l,.int 0 0] }).objs.size=s.heap.objs.size+1:=Heap.size_push ..;refine⟨b,ys,e1,lt,e2.at λo x=>hk b o (λhm=>?_) (λhz=>?_) x,e3,e4⟩
   . have e:b=s.heap.objs.size:=by simpa using hm
     exact pC _ (Nat.lt_of_lt_of_eq lt e.symm)
   . have hz:b=(s.heap.push { cls:=.type "list_iterator",data:=.fields #[.ref l,.int 0 0] }).objs.size:=hz;exact pC _ (Nat.lt_of_lt_of_eq (Nat.lt_succ_of_lt lt) (hz.trans sz).symm)
 . exact h h' tk v (PySem.old_kept hk) hP
end
def AllL(K:oU)(H:Hp):List V->List (List V)->Prop
 | [],[]=>True
 | x::xs,y::ys=>(∃ b,x=.ref b/\SqL K H b y)/\AllL K H xs ys
 | _,_=>False
theorem AllL.get{K:oU}{H:Hp}:∀{xs:List V}{ls:List (List V)},AllL K H xs ls->∀{j:Nat}{x:V},xs[j]?=some x->∃ b,x=.ref b/\SqL K H b (ls.getD j [])
 | x::xs,y::ys,h,0,z,e=>by
  simp only[qU,Option.some.injEq]at e;subst e;exact h.1
 | x::xs,y::ys,h,j+1,z,e=>by
  have:=AllL.get h.2 (j:=j) (by simpa using e);simpa using this
theorem AllL.length{K:oU}{H:Hp}:∀{xs:List V}{ls:List (List V)},AllL K H xs ls->xs.length=ls.length
 | [],[],_=>rfl
 | x::xs,y::ys,h=>by rw[rG,rG,AllL.length h.2]
def ztI(K:oU)(ta:TA):TE:=λσ H Q=>ta σ H λvs H1=>∃(a:Addr) (xs:List V) (ls:List (List V)),vs=[.ref a]/\SqL K H1 a xs/\0<xs.length/\AllL K H1 xs ls /\
 ∀ v,xs[argBest (bt λi=>(ls.getD i []).length) (xs.length - 1)]?=some v->Q v H1
theorem zpq{X:Cx}{e:Expr}{ta:TA}{p lp kp pos:Pos}(hc:X.calm=true)(hg:Gl X "min")(hm:X.mg "min"=none)(hg2:Gl X "len")(hm2:X.mg "len"=none)(ha:PA X [e] ta)
  (he:backTo pos (starEach [e] X.env)=[(false,eval e X.env)]:=by rfl) (hp:(backTo pos (starEach [e] X.env)).any (·.1)=false:=by rfl) :
  PE X (.Call (.Name "min" p) [e] [⟨some "key",.Name "len" lp,kp⟩] pos) (ztI X.K ta):=by
 refine⟨λpins s σ H Q I h=>?_⟩;refine wpAny_Call_Name_kw (ld_blt I hg hm PyProof.Rows.boot_min ?_);refine PyProof.Rows.callWith_kw (thn (ha.run pos pins s σ H _ I h) λus s1 ⟨vs,H1,I1,r1,q1⟩=>kws_cons (ld_blt I1 hg2 hm2 boot_len (kws_nil ?_))) he hp rfl rfl;obtain⟨a,xs,ls,ex,qa,hn,al,q⟩:=q1;subst ex
 cases r1 with
 | cons r rr =>
  cases rr;cases r;show wpAny _ _ (call (.builtin "min") [.ref a] [("key",.builtin "len")]) _ _ _;obtain⟨its,rv,hl,hz⟩:=I1.list qa;have hlen:=rv.length
  have fit:∀{n:Nat},n<=sizeLine->(n:Int)<2 ^ 63:=λ{n} h=>by rw[sizeLine_eq]at h;omega
  refine zgo (kf:=λi=>(ls.getD i []).length) (I1.ok.hd hc) hl.isList (by simp;omega) (λj v e=>?_) λh' tk v hk e=>?_
  . have hj:j<xs.length:=by
     have:=(Array.getElem?_eq_some_iff.mp e).1;simp at this;omega
    obtain⟨u,e1,e2⟩:=rv.get (tQ hj)
    have e3:its[j]?=some v:=by simpa using e
    rw[e3]at e1;cases e1;obtain⟨b,ex,sb⟩:=al.get (tQ hj);rw[ex]at e2;obtain rfl:v=Value.ref b:=e2;obtain⟨its',rv',hl',hz'⟩:=I1.list sb;exact⟨b,its'.toArray,rfl,hl'.isList,by rw[pY,← rv'.length],by rw[pY,← rv'.length];exact fit hz'⟩
  . have e3:its[argBest (bt λi=>(ls.getD i []).length) (xs.length - 1)]?=some v:=by
     simp only[pY,← hlen]at e;simpa using e
    have hj:argBest (bt λi=>(ls.getD i []).length) (xs.length - 1)<xs.length:=by
     have:=(su.mp e3).1;omega
    obtain⟨u,e1,e2⟩:=rv.get (tQ hj);rw[e3]at e1;cases e1;exact⟨_,H1,I1.kept hk,e2,q _ (tQ hj)⟩
end FZ
namespace Fc
open PySem PySem.Spec PyProof.Rows L2
def lens(s:S):List D->Option (List Nat)
 | []=>some []
 | .ref n::ds=>match yu s n,lens s ds with
  | some xs,some r=>some (xs.length::r)
  | _,_=>none
 | _::_=>none
def zgn(ls:List Nat):Nat:=argBest (FZ.bt λi=>ls.getD i 0) (ls.length - 1)
def zdY:List D->M D:=λds s=>match ds with
 | [.ref n]=>match yu s n with
  | some (d::r)=>match lens s (d::r)with
   | some ls=>((d::r)[zgn ls]?).map λx=>.ok x s
   | none=>none
  | _=>none
 | _=>none
variable{cm:CM}{W:WX}
theorem zhI{K:oU}{p:List Addr}{s:S}{H:Hp}(rs:RS K cm p s H):∀{ds:List D}{ks:List Nat}{xs:List V},lens s ds=some ks->RVs K p H ds xs->∃ ls,FZ.AllL K H xs ls/\ls.map List.length=ks
 | [],ks,xs,h,r=>by
  simp only[lens,Option.some.injEq]at h;simp only[RVs]at r;subst h;subst r;exact⟨[],trivial,rfl⟩
 | d::ds,ks,xs,h,r=>by
  simp only[RVs]at r;obtain⟨x,r',rfl,rx,rr⟩:=r
  cases d with
  | ref n =>
   unfold lens at h;split at h
   . rename_i ys k e1 e2;simp only[Option.some.injEq]at h;subst h;obtain⟨ls,al,el⟩:=zhI rs e2 rr;obtain⟨b,us,rfl,z1,z2,z3⟩:=yw rs rx (xW e1);exact⟨us::ls,⟨⟨b,rfl,SqL.of z2⟩,al⟩,by rw[tK,el,← z3.length]⟩
   . cases h
  | _=>cases h
theorem zoW{X:Cx}{fl:EL}{p:List Addr}{e:Env}{σ:L2.St}{H:Hp}{s:S}{Q:VK}(q:Po X.K cm W (RV X.K) p σ H (eN zdY fl e s) Q) :
  Po X.K cm W (RVs X.K) p σ H (fl e s) λvs1 H1=>∃(a:Addr) (xs:List V) (ls:List (List V)),vs1=[.ref a]/\SqL X.K H1 a xs/\0<xs.length/\FZ.AllL X.K H1 xs ls /\
   ∀ v,xs[argBest (FZ.bt λi=>(ls.getD i []).length) (xs.length - 1)]?=some v->Q v H1:=by
 unfold eN bnd at q
 cases h:fl e s with
 | none=>rw[h]at q;exact q.elim
 | some r =>
  rw[h]at q
  cases r with
  | exc c fs s'=>exact q
  | ok ds s1 =>
   intro p1 H1 xs f rs1 rr;dsimp only at q;unfold zdY at q;split at q
   . rename_i n;split at q
     . rename_i d r e1;split at q
       . rename_i ks e2;obtain⟨x,rfl,rx⟩:=wN rr;obtain⟨b,us,rfl,z1,z2,z3⟩:=yw rs1 rx (xW e1);obtain⟨ls,al,el⟩:=zhI rs1 e2 z3;have hlen:=z3.length;refine⟨b,us,ls,rfl,SqL.of z2,by rw[← hlen];simp,al,λv hv=>?_⟩
         have hix:zgn ks=argBest (FZ.bt λi=>(ls.getD i []).length) (us.length - 1):=by
          have hk:ks.length=us.length:=by rw[← el,rA,al.length]
          unfold zgn;rw[hk];congr 2;funext i;rw[← el];simp only[sU,tU];cases ls[i]? <;> rfl
         rw[hix]at q
         cases hy:(d::r)[argBest (FZ.bt λi=>(ls.getD i []).length) (us.length - 1)]? with
         | none=>rw[hy]at q;exact q.elim
         | some y =>
          rw[hy]at q;obtain⟨v',e3,rv⟩:=z3.get hy;rw[hv]at e3;cases e3;exact q p1 H1 v f rs1 rv
       . exact q.elim
     . exact q.elim
   . exact q.elim
theorem zrr{X:Cx}{e:Expr}{fl:EL}{p lp kp pos:Pos}(hc:X.calm=true)(ha:JA X cm W [e] fl)(hm:X.mg "min"=none)(hm2:X.mg "len"=none)(hg:Gl X "min":=by rfl)(hg2:Gl X "len":=by rfl)
  (he:backTo pos (starEach [e] X.env)=[(false,eval e X.env)]:=by rfl) (hp:(backTo pos (starEach [e] X.env)).any (·.1)=false:=by rfl) :
  JE X cm W (.Call (.Name "min" p) [e] [⟨some "key",.Name "len" lp,kp⟩] pos) (eN zdY fl):=by
 refine(FZ.zpq hc hg hm hg2 hm2 ha he hp).imp ?_;rintro σ H Q ⟨p,e,s,re,rs,q⟩;exact⟨p,e,s,re,rs,zoW q⟩
end Fc
namespace Fc
open PySem L2
section
variable{K:oU}
theorem zoi{x qual:Str}{params:Arguments}{body:List Stmt}{scope:Scope}{kws:List (Str×V)}{f:Addr}{fd:FuncData}{ps:List Str}{dl:List D}(F:FunD K x qual params body scope [] kws f fd)(n:Nat)(hk:kws≠[])(hn:n+kws.length=ps.length)
  (h:∀(D:Addr) (doc pm:Value) (an:Option Addr) (cdv ct:Value) (us ks:List Value),us.length=n->ks.length=kws.length ->
   KwChain D ((kws.map (·.1)).zip ks) (bindArgs (PySem.W.fnOf x qual params body scope .none (.ref D) doc pm an cdv ct) ⟨us,[]⟩) (ps.zip (us++ks))) (hl:∀ p H,RVs K p H dl (kws.map (·.2))):BindD K fd ps dl :=
 let ⟨ds,r,b⟩:=F.binds0 n hk hn h
 ⟨ds,_,r,b,hl⟩
end
end Fc
namespace Fc
open PySem PySem.Spec PyProof.Rows L2
section
variable{K:oU}{cm:CM}{P:Program}{w:World}{mg:Str->Option Value}{base:Heap}{k:Nat}{f:Addr}{fd:FuncData}{x qual:Str}{params:Arguments}{body:List Stmt}{scope:Scope}{dvs:List V}{kws:List (Str×V)}{ps:List Str}{b:C}
theorem FnG.r(N:List Str)(F:FunD K x qual params body scope dvs kws f fd)
 (hbody:∀(cdv:Value) (A:Around) (outer:List PySem.Env) (s:Shared) (H:Hp) (E:XK),Rg k (uH P w K mg base N qual scope f cdv A outer s H E).A->Takes (uH P w K mg base N qual scope f cdv A outer s H E) (Wx E) ->
  PassesOwn (model P w) (uH P w K mg base N qual scope f cdv A outer s H E).A (uH P w K mg base N qual scope f cdv A outer s H E).env (uH P w K mg base N qual scope f cdv A outer s H E).xe ->
  (uH P w K mg base N qual scope f cdv A outer s H E).calm=true->(uH P w K mg base N qual scope f cdv A outer s H E).N.Nodup->Room k (uH P w K mg base N qual scope f cdv A outer s H E).A->JSs (uH P w K mg base N qual scope f cdv A outer s H E) cm (Wx E) body b)
 (S:FnScope N ps scope:=by constructor <;> first | rfl | decide +kernel) :
 FnG P w K mg base (k+1) f fd ps (spD K cm ps.length (yg ps.length N.length b)):=FnG.of F S λcdv A outer s H E hr tk hp=>hbody cdv A outer s H E hr tk hp rfl S.nd hr.room
abbrev FunT(K:oU)(f:Addr)(fd:FuncData)(x:Str)(d:Stmt):Prop:=FunD K x x (defArgs d) (defBody d) (defScope d) [] [] f fd
abbrev FunS(K:oU)(f:Addr)(fd:FuncData)(x qual:Str)(d:Stmt):Prop:=FunD K x qual (defArgs d) (defBody d) (defScope d) [] [] f fd
theorem fnA{h:Heap}{np nn:Nat}(F:FunD K x qual params body scope [] [] (He.ga K x) fd)(X:K.In h)(N:h.Ns mainGlobals mg){fa:List He.Fa}{fn:List He.DefD}(c:He.SaysD fa fn K)(i:Nat)(G:FnG P w K mg base k (He.ga K x) fd ps (spD K cm np (yg np nn b)))
 (hb:∀(kV doc pm:Value) (an:Option Addr) (cdv ct:Value) (us:List Value),us.length=ps.length->bindArgs (PySem.W.fnOf x qual params body scope .none kV doc pm an cdv ct) ⟨us,[]⟩=pure (ps.zip us):=by
  first
  | exact λ_ _ _ _ _ _ us hl=>match us,hl with | [_],_=>rfl
  | exact λ_ _ _ _ _ _ us hl=>match us,hl with | [_,_],_=>rfl
  | exact λ_ _ _ _ _ _ us hl=>match us,hl with | [_,_,_],_=>rfl
  | exact λ_ _ _ _ _ _ us hl=>match us,hl with | [_,_,_,_],_=>rfl
  | exact λ_ _ _ _ _ _ us hl=>match us,hl with | [],_=>rfl
  | exact λ_ _ _ _ _ _ us hl=>match us,hl with | [_,_,_,_,_],_=>rfl) (hx:fa[i]?=some (.glo x):=by rfl):FnAt P w K mg base cm k x (yg np nn b) [[]]:=fnAt_of G (He.glo_ok X N (c.fact i hx)) F.kp (all_cons (yV F hb) all_nil)
theorem zox{h:Heap}{p0 p1 pa pn pc pe q1 q2 q3 q4:Pos}{cs es:List Str}{ed:List EDef}{wd:World}{d:EDef}{mf:Str}(i:Nat)(X:K.In h)(G:h.Ns mainGlobals mg)(ce:(ed.map λd=>ew K d.c)=ed.map EDef.val)(c3:ed.all (zqA mf K)=true)(hmf:P.main.file=mf)(top:(P.main.scope.names.lookup ("super":Str)).isSome=false)(ms:mg "super"=none)
 (hd:d.body=zjy d.n p0 p1 pa pn pc pe q1 q2 q3 q4:=by rfl) (hm:d.c∈es:=by decide) (hi:ed[i]?=some d:=by rfl) (sc:EScope d.n d.sc:=by exact⟨rfl,rfl,rfl,rfl,rfl,rfl,rfl,by decide +kernel,by decide +kernel,by decide⟩)
 (hp:∃ ar,(d.params.posonlyargs++d.params.args).head?=some ar/\ar.arg=("self":Str):=by exact⟨_,rfl,rfl⟩) (t:EText d.n d.qual d.sc p0 p1 pa pn pc pe q1 q2 q3 q4:=by exact⟨λ_ _ _ _=>rfl,λ_ _ _ _=>rfl,⟨_,λ_ _ _ _=>rfl⟩,λ_ _ _ _=>rfl,λ_ _ _ _=>rfl,λ_ _ _ _=>rfl,by decide,by decide⟩)
 (hb:∀(kV doc pm ct:Value) (an:Option Addr) (cda cc T:Addr) (us its:List Value),us.length=2->its.length=1->∃ k,bindArgs (PySem.W.ksFn d.name d.qual d.params d.body d.sc (.ref T) kV doc pm an (.ref cda) ct cc) ⟨us,[]⟩=seqItems? (.ref T) >>= k/\k (some its.toArray)=pure ((["self",d.n]:List Str).zip (us++its.drop 1)):=by exact λ_ _ _ _ _ _ _ _ us its h1 h2=>match us,its,h1,h2 with | [_,_],[_],_,_=>⟨_,rfl,rfl⟩) :
 ErrAt P w K mg base (cm2 K cs es wd) (k+1) d.c d.n [[]]:=zlM (d:=d) X G (zni hm) hd (zsL ce i hi) (zng c3 i hi) hmf top ms sc hp t hb
end
section
variable{cm:CM}{W:WX}{X:Cx}{x:Str}{es:List Expr}{pos:Pos}{fl:EL}
theorem zN(i:Nat)(hr:JA X cm W es fl)(hN:X.N[i]?=some x:=by rfl)(hv:Vis X.env.scope x:=by first | exact Or.inl rfl | exact Or.inr (Or.inl rfl) | exact Or.inr (Or.inr rfl))(hd:(x == ("__debug__":Str))=false:=by decide)
 (hcd:(x == ("__classdict__":Str))=false:=by decide) (hs:starEach (.Name x pos::es) X.env=(false,eval (.Name x pos) X.env)::starEach es X.env:=by rfl):JA X cm W (.Name x pos::es) (za (zf i) fl):=zm (zg i hN hv hd hcd) hr hs
end
section
variable{cm:CM}{W:WX}{X:Cx}{k j:Nat}{x:Str}{F:Fc.F}{dfls:List (List D)}{dfl:List D}{e:Expr}{es:List Expr}{p pos:Pos}{fl:EL}
theorem zL(V:FnAt X.prog X.w X.K X.mg X.base cm k x F dfls)(hr:Rg j X.A)(tk:Takes X W)(ha:JA X cm W (e::es) fl)(hk:k<=j:=by decide)(hd:dfl∈dfls:=by exact .head _)(hg:Gl X x:=by rfl)(hdb:(x == ("__debug__":Str))=false:=by decide)
 (he:starEach (e::es) X.env=(false,eval e X.env)::starEach es X.env:=by rfl) (hpl:(backTo pos (starEach es X.env)).any (·.1)=false:=by rfl):JE X cm W (.Call (.Name x p) (e::es) [] pos) (zB F dfl fl):=zcC V hr tk hk hd ha hg hdb he hpl
end
end Fc
namespace HotX
open PySem PySem.Spec PyProof.Rows
section
variable{prog:Program}{w:World}{A:Around}{E:Value->Shared->Prop}{s:Shared}
theorem zag{it l x1:Addr}{i:Nat}{items:Array Value}{Q:Option Value->Shared->Prop}(hot:HotAt A x1 s.heap)(hit:s.heap.IsListIter it l i)(hl:s.heap.IsList l items)(hx:items[i]?=none)
  (hQ:∀ h',Heap.ExtBut it s.heap h'->Q none { s with heap:=h' }):wpAny (model prog w) A (pyNext (.ref it)) Q E s:=by
 obtain⟨o,ho,hc,hd⟩:=id hit;obtain⟨ol,hol,_,nl,hdl⟩:=hl;obtain⟨hh,o1,vs1,h1,d1,c1⟩:=hot
 have ne:x1≠it:=λz=>by
  subst z;rw[ho]at h1;cases h1;rw[hd]at d1
  injection d1 with d1
  rw[← d1]at c1;simp at c1
 unfold pyNext
 refine wpAny_bind (wpAny_attempt (wpAny_callSpecial?_slot (name:=Str.ofString "__next__") hit.typeIs slot_listiter_next
  (wpAny_call_entry slot_listiter_next hit.typeIs entry_listiter_next ?_ (args_listiter_next _))))
 show wpAny _ _ (field (.ref it) 0 >>= _) _ _ s;refine wpAny_bind (wpAny_field ho hd (x:=.ref l) rfl ?_);show wpAny _ _ (if (Value.ref l == Value.none)=true then _ else _) _ _ s;rw[if_neg (show ¬ ((Value.ref l == Value.none)=true)from qJ)];show wpAny _ _ (field (.ref it) 1 >>= _) _ _ s;refine wpAny_bind (wpAny_field ho hd (x:=.int i 0) rfl ?_);show wpAny _ _ (seqItems? (.ref l) >>= _) _ _ s;refine wpAny_bind (wpAny_seqItems hol hdl ?_);simp only[Int.toNat_natCast,hx];refine wpAny_bind (wpAny_rule (wpAny_bind (wpAny_setField ho hd (by simp) ?_)));show wpAny _ _ (newExc (.type "StopIteration") [] >>= _) _ _ _;refine wpAny_bind ?_;simp only[newExc,newTuple];refine wpAny_bind (wpAny_newObj_type ?_ (by size_fits));refine wpAny_bind (m:=firstArgMember _ _) (wpAny_of_eq (a:=Value.none) (by first | rfl | (simp only[firstArgMember];rfl)) ?_);refine wpAny_newObj_type ?_ (by size_fits)
 have g1:(s.heap.update it (Obj.mapFields (·.setIfInBounds 0 Value.none))).get? x1=some o1:=by
  rw[Heap.get?_update_other _ _ (tY ne)];exact h1
 refine raiseNew_hot ⟨hh,o1,vs1,Heap.get?_push_of_some _ (Heap.get?_push_of_some _ g1),d1,c1⟩ (qb (Heap.lt_size (Heap.get?_push_of_some _ g1))) (Heap.get?_push_size _ rfl) rfl (by first | (simp;done) | (simp;omega) | (simp only[Array.size_append];simp;omega)) ?_;refine wpAny_bind (wpAny_isInstance (T:="StopIteration") (b:=true) ⟨_,Heap.get?_update_self _ (Heap.get?_push_size _ rfl) rfl,rfl⟩ isSubtype_stop ?_);refine wpAny_pure (hQ _ λb u hb e=>?_)
 have e2:(s.heap.update it (Obj.mapFields (·.setIfInBounds 0 Value.none))).get? b=some u:=by
  rw[Heap.get?_update_other _ _ (tY hb)];exact e
 rw[Heap.get?_update_other _ _ (pB (Heap.lt_size (Heap.get?_push_of_some _ e2)))];exact Heap.get?_push_of_some _ (Heap.get?_push_of_some _ e2)
theorem zaB{it l x1:Addr}{i:Nat}{items:Array Value}{Q:Option Value->Shared->Prop}(hot:HotAt A x1 s.heap)(hit:IsTupIter s.heap it l i)(hl:IsTup s.heap l items)(hx:items[i]?=none)
  (hQ:∀ h',Heap.ExtBut it s.heap h'->Q none { s with heap:=h' }):wpAny (model prog w) A (pyNext (.ref it)) Q E s:=by
 obtain⟨o,ho,hc,hd⟩:=id hit;obtain⟨ol,hol,_,nl,hdl⟩:=hl;obtain⟨hh,o1,vs1,h1,d1,c1⟩:=hot
 have ne:x1≠it:=λz=>by
  subst z;rw[ho]at h1;cases h1;rw[hd]at d1
  injection d1 with d1
  rw[← d1]at c1;simp at c1
 unfold pyNext
 refine wpAny_bind (wpAny_attempt (wpAny_callSpecial?_slot (name:=Str.ofString "__next__") hit.typeIs F.slot_tuple_iterator_next
  (wpAny_call_entry F.slot_tuple_iterator_next hit.typeIs F.entry_tuple_iterator_next ?_ (F.args_tuple_iterator_next_1 _))))
 show wpAny _ _ (field (.ref it) 0 >>= _) _ _ s;refine wpAny_bind (wpAny_field ho hd (x:=.ref l) rfl ?_);show wpAny _ _ (if (Value.ref l == Value.none)=true then _ else _) _ _ s;rw[if_neg (show ¬ ((Value.ref l == Value.none)=true)from qJ)];show wpAny _ _ (field (.ref it) 1 >>= _) _ _ s;refine wpAny_bind (wpAny_field ho hd (x:=.int i 0) rfl ?_);show wpAny _ _ (seqItems? (.ref l) >>= _) _ _ s;refine wpAny_bind (wpAny_seqItems hol hdl ?_);simp only[Int.toNat_natCast,hx];refine wpAny_bind (wpAny_rule (wpAny_bind (wpAny_setField ho hd (by simp) ?_)));show wpAny _ _ (newExc (.type "StopIteration") [] >>= _) _ _ _;refine wpAny_bind ?_;simp only[newExc,newTuple];refine wpAny_bind (wpAny_newObj_type ?_ (by size_fits));refine wpAny_bind (m:=firstArgMember _ _) (wpAny_of_eq (a:=Value.none) (by first | rfl | (simp only[firstArgMember];rfl)) ?_);refine wpAny_newObj_type ?_ (by size_fits)
 have g1:(s.heap.update it (Obj.mapFields (·.setIfInBounds 0 Value.none))).get? x1=some o1:=by
  rw[Heap.get?_update_other _ _ (tY ne)];exact h1
 refine raiseNew_hot ⟨hh,o1,vs1,Heap.get?_push_of_some _ (Heap.get?_push_of_some _ g1),d1,c1⟩ (qb (Heap.lt_size (Heap.get?_push_of_some _ g1))) (Heap.get?_push_size _ rfl) rfl (by first | (simp;done) | (simp;omega) | (simp only[Array.size_append];simp;omega)) ?_;refine wpAny_bind (wpAny_isInstance (T:="StopIteration") (b:=true) ⟨_,Heap.get?_update_self _ (Heap.get?_push_size _ rfl) rfl,rfl⟩ isSubtype_stop ?_);refine wpAny_pure (hQ _ λb u hb e=>?_)
 have e2:(s.heap.update it (Obj.mapFields (·.setIfInBounds 0 Value.none))).get? b=some u:=by
  rw[Heap.get?_update_other _ _ (tY hb)];exact e
 rw[Heap.get?_update_other _ _ (pB (Heap.lt_size (Heap.get?_push_of_some _ e2)))];exact Heap.get?_push_of_some _ (Heap.get?_push_of_some _ e2)
theorem HotAt.up{h h':Heap}{x1:Addr}(hot:HotAt A x1 h)(k:∀ o,h.get? x1=some o->h'.get? x1=some o):HotAt A x1 h':=by
 obtain⟨hh,o1,vs1,h1,d1,c1⟩:=hot;exact⟨hh,o1,vs1,k _ h1,d1,c1⟩
theorem zcR{t x1:Addr}{items:Array Value}{Q:List Value->Shared->Prop}(hot:HotAt A x1 s.heap)(ht:IsTup s.heap t items)
   (hQ:∀ h',Heap.ExtBut s.heap.objs.size s.heap h'->Q items.toList { s with heap:=h' }):wpAny (model prog w) A (unpackItems (.ref t) items.size none) Q E s:=by
 have hlt:t≠s.heap.objs.size:=by obtain⟨o,ho,_⟩:=ht;exact qb (Heap.lt_size ho)
 have hx1:x1≠s.heap.objs.size:=by obtain⟨_,o,_,ho,_⟩:=hot;exact qb (Heap.lt_size ho)
 unfold unpackItems;refine wpAny_bind ?_
 . unfold notIterableAtAll;refine wpAny_bind (wpAny_specialOf ht.typeIs slot_tuple_iter.lookup ?_);refine wpAny_pure ?_;simp only[rR,if_false];refine wpAny_bind (wpAny_holding (iter_tuple ht ?_));refine wpAny_bind (wpAny_holding (draw_tuple hlt items.size 0 _ _ ⟨_,Heap.get?_push_size _ rfl,rfl,rfl⟩ (ht.push _) (by omega) λh₁ hit₁ hs₁=>?_))
   have hall:List.take items.size (List.drop 0 items.toList)=items.toList:=by
    rw[List.drop_zero];exact pK (by simp)
   rw[hall];rw[if_neg (by simp)];have ht₁:IsTup h₁ t items:=(ht.push _).extBut hs₁.extBut hlt;have hot₁:HotAt A x1 h₁:=hot.up λo e=>hs₁.extBut x1 o hx1 (Heap.get?_push_of_some _ e);refine wpAny_bind (wpAny_holding (zaB hot₁ hit₁ ht₁ (by simp) λh₂ he₂=>?_));simp only[Option.isSome_none,rR,if_false];refine wpAny_pure (hQ h₂ λb o hb e=>he₂ b o hb (hs₁.extBut b o hb (Heap.get?_push_of_some _ e)))
theorem zcV{env:Env}{elts:List Expr}{k}{pos:Pos}{t x1:Addr}{items:Array Value}{Q:Unit->Shared->Prop}(hot:HotAt A x1 s.heap)(ht:IsTup s.heap t items)
  (hn:(assignEach elts env).length=items.size) (hstar:(assignEach elts env).findIdx? (·.1)=none)
  (h:∀ h',Heap.ExtBut s.heap.objs.size s.heap h'->wpAny (model prog w) A (assignInOrder ((assignEach elts env).map (·.2)) items.toList) Q E { s with heap:=h' }) :
  wpAny (model prog w) A (assign (.Tuple elts k pos) env (.ref t)) Q E s:=by
 rw[assign_Tuple];refine wpAny_bind (wpAny_standAt ?_);unfold unpack;rw[hn,hstar];exact wpAny_bind (wpAny_holding (zcR hot ht h))
end
end HotX
namespace L2H
open PySem PySem.Spec PyProof.Rows L2 HotX
section
variable{X:Cx}{pins:List (Addr×Obj)}{σ:St}{H H5:Hp}{s s5:Shared}{scope:Scope}{ce:Env}{fp:List Addr}
def HotI(X:Cx):Prop:=∀ pins σ H s,Inv X pins σ H s->∃ x1,HotAt X.A x1 s.heap
theorem zps{es:List Expr}{k:Nat}{t:TGs}{n:Nat}{pos:Pos}(hot:HotI X)(h:PGs X es t)
  (hn:(assignEach es X.env).length=n:=by rfl) (hst:(assignEach es X.env).findIdx? (·.1)=none:=by rfl):PG X (.Tuple es k pos) (gTup X.K n t):=by
 refine⟨λpins s σ H v u Q I r hw=>?_⟩;obtain⟨a,xs,e1,hq,hl,hw⟩:=hw;subst e1;cases r;obtain⟨its,rv,ht,hz⟩:=I.tuple hq;obtain⟨x1,ha⟩:=hot _ _ _ _ I;refine zcV ha ht (by simp[hn,← hl,rv.length]) hst λh' hx=>?_;have I1:Inv X pins σ H { s with heap:=h' }:=I.kept (t':=s.toks) λb o e=>hx b o (qb (Heap.lt_size e)) e;exact h.run pins _ σ H xs _ Q I1 (by simpa using rv) hw
theorem zjJ(hot:HotC X)(I:Inv X pins σ H s)(f:∀ b∈fp,FpOk X pins H b){σ':St}{pins':List (Addr×Obj)}(J:Inv (X.blk s H scope ce fp) pins' σ' H5 s5):∃ x1,HotAt X.A x1 s5.heap:=by
 obtain⟨p,⟨hh,v1,e1,c1⟩,hp⟩:=hot;obtain⟨p1,p2,p3,p4,p5⟩:=I.pin p (qO _ hp);refine⟨p.1,hh,p.2,v1,?_,e1,c1⟩;refine J.base.keep p.1 p.2 p1 p2 (λz=>?_) λz=>(f _ z).2.2.2.2.2 p (qO _ hp) rfl
 rcases I.ok.stk with k | ⟨k,k2⟩
 . have z:p.1∈frs X.stack:=z;rw[k]at z;exact p4 z
 . have z:p.1∈frs X.stack:=z;rw[k]at z;unfold frs at z;rw[rD,k2]at z
   rcases tR.mp z with z | z
   . exact p3 z
   . exact p4 z
theorem zrl{elt tg iter:Expr}{ifs:List Expr}{tt:TT}{own:List (Str×Nat)}{pos:Pos}{tl:TE}{g:TG}{te:TE}(hot:HotC X)(hN:X.N.Nodup)(hi:PE X iter tl)(ok:BlkOk X.N X.env.scope scope own)
  (hg:∀(s:Shared) (H:Hp) (C:Addr) (cl:List (Str×Addr)) (fp:List Addr),HotI (X.blk s H scope (compEnvC scope cl C X.env) fp)->PG (X.blk s H scope (compEnvC scope cl C X.env) fp) tg g)
  (ht:∀(s:Shared) (H:Hp) (C:Addr) (cl:List (Str×Addr)) (fp:List Addr),PTs (X.blk s H scope (compEnvC scope cl C X.env) fp) ifs tt)
  (he:∀(s:Shared) (H:Hp) (C:Addr) (cl:List (Str×Addr)) (fp:List Addr),PE (X.blk s H scope (compEnvC scope cl C X.env) fp) elt te) (hs:∀ x,foldedSetIterable iter X.env x=pure x:=by intro _;rfl) :
  PE X (.ListComp elt [⟨tg,iter,ifs,0⟩] scope pos) (tLc (iList X.K tl) g tt te (own.map (·.2))):=by
 refine⟨λpins s σ H Q I h=>?_⟩;rw[eval_ListComp]
 have hfree:∀ y∈scope.names,y.2=.free->∃ c,X.env.cells.lookup y.1=some c:=λy hy e=>by
  rcases ok.free y hy e with k | k
  . exact I.ok.has _ (.inl k)
  . exact I.ok.has _ (.inr k)
 refine wpAny_comprehension_free rfl hs (closure_ok hfree) ok.kind (λy hy e=>by rw[ok.uniq y hy,e])
  (thn (hi.run pins s σ H _ I h) λv s1 ⟨x,H1,I1,r1,q1⟩=>?_)
 obtain⟨a,e,⟨xs,hq⟩,q⟩:=q1;subst e;cases r1;obtain⟨its,rv,p,hz⟩:=I1.list hq;refine wpAny_pyIter_list p.isList ?_;generalize hit:s1.heap.objs.size=it;have I2:Inv X pins σ H1 { s1 with heap:=s1.heap.push { cls:=.type "list_iterator",data:=.fields #[.ref a,.int 0 0] } }:=I1.kept (t':=s1.toks) λb o e=>Heap.get?_push_of_some _ e
 have f2:FpOk X pins H1 it:=by
  rw[← hit];exact I1.fpOk (tX _) (I1.hok.fresh (tX _))
 have st2:(s1.heap.push { cls:=.type "list_iterator",data:=.fields #[.ref a,.int 0 0] }).IsListIter it a 0:=⟨_,by rw[← hit];exact Heap.get?_push_size _ rfl,rfl,rfl⟩
 generalize hs2:({ s1 with heap:=s1.heap.push { cls:=.type "list_iterator",data:=.fields #[.ref a,.int 0 0] } }:Shared)=s2 at I2 ⊢
 have st2:s2.heap.IsListIter it a 0:=by rw[← hs2];exact st2
 refine wpAny_newObj_type (newEnv_comp ?_) (by show 0<=sizeLine;decide);generalize hD:s2.heap.objs.size=D;have hDn:H1 D=none:=I2.hok.fresh (Nat.le_of_eq hD);obtain⟨W,⟨m0,w0⟩,turn⟩:=q D hDn;generalize hs3:({ s2 with heap:=s2.heap.push { cls:=.type "list",data:=.seq ([]:List Value).toArray } }:Shared)=s3
 have h3:s3.heap=s2.heap.push { cls:=.type "list",data:=.seq ([]:List Value).toArray }:=by rw[← hs3]
 have I3:Inv X pins σ (upd H1 D (.lst [])) s3:=by
  rw[← hs3];refine I2.laid (t':=s2.toks) (λb o e=>Heap.get?_push_of_some _ e) (Nat.le_of_eq hD) ⟨rJ _,[],0,.nil,?_⟩;rw[← hD];exact Heap.get?_push_size _ rfl
 have itl:it<s2.heap.objs.size:=by
  obtain⟨o,e,_⟩:=st2;exact Heap.lt_size e
 have f3:∀ b∈[it],FpOk X pins (upd H1 D (.lst [])) b/\b<s3.heap.objs.size:=λb hb=>by
  obtain rfl:b=it:=by simpa using hb
  refine⟨⟨?_,f2.2⟩,by rw[h3,Heap.size_push];exact Nat.lt_succ_of_lt itl⟩;rw[upd_ne (by rw[← hD];exact qb itl)];exact f2.1
 have st3:s3.heap.IsListIter it a 0:=st2.at λo e=>by rw[h3];exact Heap.get?_push_of_some _ e
 have I4:=block_start I3 ok hN f3
 have pg:=hg s3 (upd H1 D (.lst [])) s3.heap.objs.size (cellsFrom (s3.heap.objs.size+1) scope.names (cloFrom X.env.cells scope.names [])) [it] λ_ _ _ _ J=>(zjJ (X:=X) hot I3 (λb hb=>(f3 b hb).1) J)
 have pt:=ht s3 (upd H1 D (.lst [])) s3.heap.objs.size (cellsFrom (s3.heap.objs.size+1) scope.names (cloFrom X.env.cells scope.names [])) [it];have pe:=he s3 (upd H1 D (.lst [])) s3.heap.objs.size (cellsFrom (s3.heap.objs.size+1) scope.names (cloFrom X.env.cells scope.names [])) [it];show codeAny _ _ (.compStart (.ListComp elt [⟨tg,iter,ifs,0⟩] scope pos) 0 (.ref it) (.ref D) (compEnvC scope (cellsFrom (s3.heap.objs.size+1) scope.names (cloFrom X.env.cells scope.names [])) s3.heap.objs.size X.env)) (compPost (model X.prog X.w) X.A X.xe none (EP X pins σ Q) (.ref D) s3.heap.objs.size) { s3 with heap:=pushCells (s3.heap.push { cls:=.type "dict",data:=.dict #[] }) scope.names };have nfp:(upd H1 D (.lst [])) it=none:=(f3 it (by simp)).1.1;generalize hce:compEnvC scope (cellsFrom (s3.heap.objs.size+1) scope.names (cloFrom X.env.cells scope.names [])) s3.heap.objs.size X.env=ce at I4 pg pt pe ⊢
 have cL:ce.locals=s3.heap.objs.size:=by subst hce;rfl
 generalize hH3:upd H1 D (.lst [])=H3 at I3 I4 pg pt pe w0 nfp f3;generalize hs4:({ s3 with heap:=pushCells (s3.heap.push { cls:=.type "dict",data:=.dict #[] }) scope.names }:Shared)=s4 at I4 ⊢
 have st4:s4.heap.IsListIter it a 0:=st3.at λo e=>by rw[← hs4];exact pushCells_keeps _ _ _ _ (Heap.get?_push_of_some _ e)
 have stat:∀{σ':St}{H':Hp}{s':Shared},Inv (X.blk s3 H3 scope ce [it]) [] σ' H' s'->H' it=none->FpOk (X.blk s3 H3 scope ce [it]) [] H' it:=λ{σ' H' s'} I' hn =>
  ⟨hn,(I'.ok.exf it (by simp)).1,I'.ok.exfs it (by simp),.inl (by simp),λx c e=>(I'.ok.exf it (by simp)).2 x c e,λp hp=>absurd (show p∈([]:List (Addr×Obj))++[]from hp) (by simp)⟩
 have loop:codeAny (model X.prog X.w) X.A (.compLoop (.ListComp elt [⟨tg,iter,ifs,0⟩] scope pos) 0 (.ref it) (.ref D) ce) (compPost (model X.prog X.w) X.A X.xe none (EP X pins σ Q) (.ref D) s3.heap.objs.size) s4:=by
  refine compLoop_any (λn s'=>∃ i H',Inv (X.blk s3 H3 scope ce [it]) [] (wipe σ (own.map (·.2))) H' s'/\s'.heap.IsListIter it a i/\H' it=none/\W i n H') ?_ m0 ⟨0,H3,I4,st4,nfp,w0⟩;rintro n s5 ⟨i,H5,I5,st5,n5,w5⟩;obtain⟨g0,g1,g3,g4,g5⟩:=(stat I5 n5).2
  rcases turn i n H5 w5 with ⟨stop,qq⟩ | ⟨go,Nx,hNx,step⟩
  . obtain⟨xs5,hq5,hx5⟩:=stop;obtain⟨its5,rv5,p5,hz5⟩:=I5.list hq5;have hl5:=rv5.length;obtain⟨x1,ht⟩:=zjJ hot I3 (λb hb=>(f3 b hb).1) I5;refine zag ht st5 p5.isList (by simp;omega) λh' eb=>?_;have I6:Inv (X.blk s3 H3 scope ce [it]) [] (wipe σ (own.map (·.2))) H5 { s5 with heap:=h' }:=I5.turned (t':=s5.toks) (λb o hb e=>eb b o hb e) n5 g0 g3 g4 g5
    have I7:Inv X pins σ H5 { s5 with heap:=h' }:=I3.call' (ch:=[it]) I6.os I6.base I6.hok I6.bare λb hb=>⟨(f3 b hb).1.2.2.2.1,(f3 b hb).1.2.1,(f3 b hb).1.2.2.2.2.1,(f3 b hb).1.2.2.2.2.2⟩
    have nC:H5 s3.heap.objs.size=none:=by
     have z:H5 ce.locals=none:=I6.free;rw[cL]at z;exact z
    obtain⟨m,hn,_⟩:=I6.loc;have hn:h'.Ns ce.locals m:=hn;rw[cL]at hn;obtain⟨e0,e1,e2,e3,e4,e5⟩:=I3.fpOk (tX _) nC;exact⟨m,hn,λh'' sb=>⟨.ref D,H5,I7.turned (t':=s5.toks) (λb o hb e=>(sb.2 b hb).trans e) e0 e1 e3 e4 e5,rfl,qq⟩⟩
  . obtain⟨xs5,x5,hq5,hx5⟩:=go;obtain⟨its5,rv5,p5,hz5⟩:=I5.list hq5;obtain⟨u,hu,ru⟩:=rv5.get hx5;refine wpAny_pyNext_list_item st5 p5.isList (x:=u) (by simpa using hu) λh' st' sb=>?_;have I7:Inv (X.blk s3 H3 scope ce [it]) [] (wipe σ (own.map (·.2))) H5 { s5 with heap:=h' }:=I5.turned (t':=s5.toks) (λb o hb e=>(sb.2 b hb).trans e) n5 g0 g3 g4 g5;obtain⟨o,e,c,d⟩:=id st';refine go_of (s:={ s5 with heap:=h' }) e c d (by decide) ?_
    have yl:(Itl X.K a).yld i H5 x5 H5:=⟨rfl,λys hy=>by rw[I5.list_inj hy hq5];exact hx5⟩
    have pin:∀ b∈[it],∃ o,h'.get? b=some o/\∀ v,o.data≠.cell v:=λb hb=>by
     obtain rfl:b=it:=by simpa using hb
     exact⟨o,e,λv z=>by rw[d]at z;cases z⟩
    have I7':=I7.pinned (λb hb=>by
     obtain rfl:b=it:=by simpa using hb
     exact stat I7 n5) pin
    refine thnF (pg.run _ _ _ H5 x5 u _ I7' ru (step x5 H5 yl)) λ_ s8 ⟨σ8,H8,I8,hw8,q8⟩=>?_;refine thnF (pt.run _ s8 σ8 H8 _ I8 q8) λb s9 ⟨H9,I9,q9⟩=>?_
    have fin:∀{s':Shared}{H':Hp},Inv (X.blk s3 H3 scope ce [it]) ([]++pinsAt [it] h') σ8 H' s'->Nx H'->∃ m,m<n/\∃ i H',Inv (X.blk s3 H3 scope ce [it]) [] (wipe σ (own.map (·.2))) H' s'/\s'.heap.IsListIter it a i/\H' it=none/\W i m H':=λ{s' H'} I' nx=>by
     obtain⟨m',hm,w'⟩:=hNx _ nx
     have hl:(wipe σ (own.map (·.2))).length=σ8.length:=by rw[← hw8,wipe_length]
     have z:=I'.pin (it,o) (pD _ (pD _ (mem_pinsAt (by simp) e)));refine⟨m',hm,i+1,_,(I'.unpinned (pins:=[])).weak hl (λj v e=>?_),st'.at λo' e'=>?_,z.2.1,w'⟩
     . rw[← hw8]at e;exact(wipe_some e).1
     . rw[e]at e';cases e';exact z.1
    cases b with
    | false =>
     simp only[rR,if_false]at q9 ⊢;exact fin I9 q9
    | true =>
     simp only[if_true]at q9 ⊢;refine thnF (pe.run _ s9 σ8 H9 _ I9 q9) λz s10 ⟨yv,H10,I10,r10,acc,hD10,hz10,nx⟩=>?_;exact app_ok (X:=X.blk s3 H3 scope ce [it]) I10 hD10 hz10 r10 λs11 I11=>fin I11 nx
 exact codeAny_compStart_list loop (wpAny_pyIter_listiter st4 loop)
end
end L2H
namespace Fc
open PySem PySem.Spec PyProof.Rows L2
open L2H (HotI HotC RoomH FnH)
variable{K:oU}{cm:CM}{W:WX}
def zgg(k:Nat)(r:GL):G:=λd σ s=>match d with
 | .tup ds=>if ds.length=k then r ds σ s else none
 | _=>none
def ziA(e:E):SrcE:=λσ=>bnd (e σ) λx s=>match x with
 | .ref n=>match s[n]? with
  | some (.lst ds)=>some (.ok (.list n ds.length) s)
  | _=>none
 | _=>none
section
variable{X:Cx}{es:List Expr}{a:Expr}{pos:Pos}
theorem zqE{k:Nat}{r:GL}{vs:List Nat}{n:Nat}(hot:HotI X)(h:JGs X cm es r vs)(hn:(assignEach es X.env).length=n:=by rfl)(hst:(assignEach es X.env).findIdx? (·.1)=none:=by rfl):JG X cm (.Tuple es k pos) (zgg n r) vs:=by
 refine(L2H.zps hot h hn hst).imp ?_;rintro v σ H Q ⟨p,e,s,d,e',re,rs,rv,h,q⟩;unfold zgg at h;split at h
 . rename_i ds;split at h
   . rename_i hl;obtain⟨a,xs,rfl,h1,rr⟩:=xV rv;exact⟨a,xs,rfl,SqT.of h1,by rw[← rr.length];exact hl,p,e,s,ds,e',re,rs,rr,h,q⟩
   . cases h
 . cases h
end
section
variable{X:Cx}{elt tg iter:Expr}{ifs:List Expr}{scope:Scope}{own:List (Str×Nat)}{pos:Pos}{fl:E}{g:Fc.G}{gs:List Nat}{t:T}{el:E}
theorem ziB{tl:TE}(htl:∀{σ:L2.St}{H:Hp}{Q:VK},tD X.K cm W fl σ H Q->tl σ H Q)(p:List Addr)(e:Env)(s:S)(σ:L2.St)(H:Hp)(R:It->Hp->Prop)(re:RE X.K p H e σ)(rs:RS X.K cm p s H)(q:PoI X cm W p σ H (ziA fl e s) R):iList X.K tl σ H R:=by
 refine htl ⟨p,e,s,re,rs,?_⟩;unfold ziA bnd at q
 cases h:fl e s with
 | none=>rw[h]at q;exact q.elim
 | some r =>
  rw[h]at q
  cases r with
  | exc c fs s'=>exact q
  | ok d s1 =>
   dsimp only at q;split at q
   . rename_i n;split at q
     . rename_i ds hn;intro p1 H1 v f rs1 rv;obtain⟨t,vs,rfl,hp,h1,rr⟩:=yw rs1 rv hn;exact⟨t,rfl,⟨vs,SqL.of h1⟩,q p1 H1 f rs1 ⟨ds,hn,rfl⟩ t hp⟩
     . exact q.elim
   . exact q.elim
theorem ztv(hot:HotC X)(hN:X.N.Nodup)(own:List (Str×Nat))(hi:JE X cm W iter fl)
  (hg:∀(s:Shared) (H:Hp) (C:Addr) (cl:List (Str×Addr)) (fp:List Addr),HotI (X.blk s H scope (compEnvC scope cl C X.env) fp)->JG (X.blk s H scope (compEnvC scope cl C X.env) fp) cm tg g gs)
  (ht:∀(s:Shared) (H:Hp) (C:Addr) (cl:List (Str×Addr)) (fp:List Addr),JTs (X.blk s H scope (compEnvC scope cl C X.env) fp) cm Wf ifs t)
  (he:∀(s:Shared) (H:Hp) (C:Addr) (cl:List (Str×Addr)) (fp:List Addr),JE (X.blk s H scope (compEnvC scope cl C X.env) fp) cm Wf elt el)
  (hgl:∀ d e s e',g d e s=some e'->e'.length=e.length) (ok:BlkOk X.N X.env.scope scope own:=by exact blkOk_by (by rfl)) (hsub:∀ i∈gs,i∈own.map (·.2):=by decide) (hs:∀ x,foldedSetIterable iter X.env x=pure x:=by intro _;rfl) :
  JE X cm W (.ListComp elt [⟨tg,iter,ifs,0⟩] scope pos) (eLc (own.map (·.2)) (ziA fl) g t el):=by
 refine(zdF (L2H.zrl (g:=tG X.K cm g gs) (tt:=tT X.K cm Wf t) (te:=tD X.K cm Wf el) hot hN hi ok hg ht he hs)).imp ?_;rintro σ H Q ⟨p,e,s,re,rs,q⟩;exact zjY (tg:=tg) (iter:=iter) (λp e s σ H R re rs q=>ziB (λh=>h) p e s σ H R re rs q) hsub hgl re rs q
end
structure FnVH(P:Program)(w:World)(K:oU)(mg:Str->Option Value)(base:Heap)(cm:CM)(k:Nat)(f:Addr)(F:Fc.F):Prop where
 ex:∃ n fd ps,FnH P w K mg base (L2.CX P w) k f fd ps (spD K cm n F)/\(∀ ds s,ds.length≠n->F ds s=none)/\Binds K fd ps []
abbrev zok(P:Program)(w:World)(K:oU)(mg:Str->Option Value)(base:Heap)(N:List Str)(qual:Str)(scope:Scope)(f:Addr)(cdv:Value)(A:Around)(outer:List PySem.Env)(s:Shared)(H:Hp)(E:XK)(p:Addr×Obj):Cx:=L2H.cxH (L2.CX P w) P w K mg base N qual scope f cdv A outer s H E p
section
variable{P:Program}{w:World}{mg:Str->Option Value}{base:Heap}{k:Nat}{f:Addr}{fd:FuncData}{x qual:Str}{params:Arguments}{body:List Stmt}{scope:Scope}{N ps:List Str}{b:C}
theorem FnVH.of(F:FunD K x qual params body scope [] [] f fd)(S:FnScope N ps scope)(hb:Binds K fd ps [])
  (hbody:∀(cdv:Value) (A:Around) (outer:List PySem.Env) (s:Shared) (H:Hp) (E:XK) (p:Addr×Obj),HotC (zok P w K mg base N qual scope f cdv A outer s H E p)->RoomH k (zok P w K mg base N qual scope f cdv A outer s H E p).A ->
   JSs (zok P w K mg base N qual scope f cdv A outer s H E p) cm (Wx E) body b) :
  FnVH P w K mg base cm (k+1) f (yg ps.length N.length b):=by
 have len:∀ vs H Q E,spD K cm ps.length (yg ps.length N.length b) vs H Q E->vs.length=ps.length:=λvs H Q E ⟨p,s,ds,_,r,l,_⟩=>by rw[← r.length,l]
 refine⟨ps.length,fd,ps,?_,zan,hb⟩;obtain⟨oc,od,dV,kV,doc,pm,an,cdv,ct,osl,rfl,lk,hcd,_,_⟩:=F.ex
 refine L2H.fn_ofH (CX:=L2.CX P w) lk hcd S len λA outer s H vs Q E p hot hr hsp=>⟨tS K cm (Wx E) b,hbody cdv A outer s H E p ⟨p,hot,sS.mpr rfl⟩ hr,?_⟩
 obtain⟨p,st,ds,rs,rv,hn,q⟩:=hsp;refine⟨p,_,st,zet rv,rs,?_⟩;unfold yg at q;rw[if_pos hn,← hn]at q
 cases e:b (ds.map some++List.replicate (N.length - ds.length) none) st with
 | none=>rw[e]at q;exact q.elim
 | some rr =>
  rw[e]at q
  cases rr with
  | nx e' s'=>exact λp' H' σ' f rs' _=>q p' H' .non f rs' zhM
  | rt d s'=>exact q
  | bk _ _=>exact q.elim
  | ct _ _=>exact q.elim
  | xc c fs e' s'=>exact λp' H' σ' cls dd f rs' _ rx=>q p' H' cls dd f rs' rx
end
section
variable{X:Cx}{k j:Nat}{f C:Addr}{F:Fc.F}{x m:Str}{p pos apos:Pos}{o:Expr}{fo:E}
theorem zru(V:FnVH X.prog X.w X.K X.mg X.base cm k f F)(hr:RoomH j X.A)(hk:k<=j)(hot:HotC X)(tk:Takes X W){pins:List (Addr×Obj)}{σ:L2.St}{H:Hp}{s:Shared}{Q:VK}{us:List Value}{vs:List L2.V}{pa:List Addr}{st:S}{ds:List D}
  (I:Inv X pins σ H s) (r:Vals vs us) (rs:RS X.K cm pa st H) (rv:RVs X.K pa H ds vs) (q:Po X.K cm W (RV X.K) pa σ H (F ds st) Q):wpAny (model X.prog X.w) X.A (call (.ref f) us) (EP X pins σ Q) X.xe s:=by
 obtain⟨n,fd,ps,G,ar,bd⟩:=V.ex
 have hn:ds.length=n:=Classical.byContradiction λz=>by
  rw[ar _ _ z]at q;exact q
 have sp:spD X.K cm n F vs H Q (λc d H=>W c d σ H):=⟨pa,st,ds,rs,rv,hn,q.wish⟩
 exact L2H.run_fnH (E:=λσ c d H=>W c d σ H) ⟨G.len,λA outer s H args us vs Q E p hr=>G.run A outer s H args us vs Q E p (hr.mono hk)⟩ hr hot bd (λpins H s e s' I hq=>tk _ _ (XE.of_call I (λ_ _ _ h=>h) hq)) I r sp
structure MtAtH(P:Program)(w:World)(K:oU)(mg:Str->Option Value)(base:Heap)(cm:CM)(k:Nat)(c m:Str)(F:Fc.F):Prop where
 ex:∃ C f,cm.ins c=some C/\L2.Cls K C/\Meth K C m f/\FnVH P w K mg base cm k f F
theorem zhZ{c:Str}{pl:Sem Bool}(V:MtAtH X.prog X.w X.K X.mg X.base cm k c m F)(hr:RoomH j X.A)(hot:HotC X)(tk:Takes X W)(hk:k<=j)(ho:JE X cm W o fo)
  (ht:eval (.Call (.Attribute o m apos) [] [] pos) X.env=(do
   let ov ← eval o X.env
   standAt apos.atName
   let (f,first) ← holding [ov] (getMethod ov m pl)
   callWith pos f first (backTo pos (starEach [] X.env)) (backToKw pos (keywordEach [] X.env))):=by rfl) :
  JE X cm W (.Call (.Attribute o m apos) [] [] pos) (zY c m F [] fo zj):=by
 obtain⟨C,f,hC,cl,mt,V⟩:=V.ex;refine⟨λpins s σ H Q I h=>?_⟩;refine PySem.W.methodCall_KW (pl:=pl) (thn (ho.run pins s σ H _ I (tD.meth h)) λu s1 ⟨x,H1,I1,rx,a,C',dx,gs,hC',ex,ea,l,q⟩=>?_) ht;rw[hC]at hC';cases hC';subst ex;obtain rfl:u=Value.ref a:=rx;refine getmeth_ok I1 ea cl mt l ?_;obtain⟨pa,en,st,re,rs,q⟩:=q;obtain⟨pb,sb,d,ds,rsb,rv,rvs,q⟩:=Po.ok (v:=([]:List L2.V)) q rs (by simp[RVs]);have e0:ds=[]:=pN.mp (by rw[rvs.length];rfl);subst e0;refine PySem.W.callWith_K0 (first:=[.ref a]) I1.kIn mt.kp (zru (us:=[.ref a]) (vs:=[L2.V.ref a]) (ds:=[d]) V hr hk hot tk I1 (.cons rfl .nil) rsb ?_ q);simp only[RVs];exact⟨_,_,rfl,rv,rfl⟩
end
end Fc
namespace Fc
open PySem PySem.Spec PyProof.Rows L2
open L2H (HotI HotC RoomH FnH Hot1)
variable{K:oU}{cm:CM}{W:WX}
theorem zcQ{h base:Heap}{e:Addr}{Z Z':Obj->Prop}{v:Value}(k:∀ o,Z o->Z' o)(t:HandSPX.TracedZ h base e Z v):HandSPX.TracedZ h base e Z' v:=by
 obtain⟨oe,vs,T,oT,ts,h1,h2,r⟩:=t;exact⟨oe,vs,T,oT,ts,h1,k _ h2,r⟩
theorem zmx{B h:Heap}{l:List PySem.Env}{a L:Addr}{Z Z':Obj->Prop}(k:∀ o,Z o->Z' o)(s:Sky B l a Z L h):Sky B l a Z' L h:=by
 rcases s with ⟨h1,h2,h3,oe,vs,h4,h5,h6⟩ | ⟨h1,h2,h3,h4⟩ | ⟨h1,h2,h3,h4⟩
 . exact .inl ⟨h1,h2,h3,oe,vs,h4,k _ h5,h6⟩
 . exact .inr (.inl ⟨h1,h2,h3,zcQ k h4⟩)
 . exact .inr (.inr ⟨h1,h2,h3,zcQ k h4⟩)
theorem zsc{X:Cx}(tk:Takes X W):L2N.Takes X W:=λu s' ⟨a,B,sI,pins,σ,H,cls,d,e,I,nb,up,sky,na,os,ag,w⟩ =>
 tk u s' ⟨a,B,sI,pins,σ,H,cls,d,e,I,nb,up,zmx (λo h=>L2N.Zn.zc h) sky,na,os,ag,w⟩
structure FnGN(P:Program)(w:World)(K:oU)(mg:Str->Option Value)(base:Heap)(k:Nat)(f:Addr)(fd:FuncData)(ps:List Str)(sp:Sp):Prop where
 len:∀ vs H Q E,sp vs H Q E->vs.length=ps.length
 run:∀(A:Around) (outer:List PySem.Env) (s:Shared) (H:Hp) (args:Args) (us:List Value) (vs:List V) (Q:VK) (E:XK),Rg k A->Env0 P w K mg base A outer s H->BindsTo s fd args (ps.zip us)->Vals vs us->sp vs H Q E ->
  codeAny (model P w) A (.call (.ref f) args) (CR (L2N.CX P w) outer P w H s Q E) s
abbrev zcW(P:Program)(w:World)(K:oU)(mg:Str->Option Value)(base:Heap)(N:List Str)(qual:Str)(scope:Scope)(f:Addr)(cdv:Value)(A:Around)(outer:List PySem.Env)(s:Shared)(H:Hp)(E:XK):Cx:=cxOf (L2N.CX P w) P w K mg base N qual scope f cdv A outer s H E
section
variable{P:Program}{w:World}{mg:Str->Option Value}{base:Heap}{k:Nat}{f:Addr}{fd:FuncData}{x qual:Str}{params:Arguments}{body:List Stmt}{scope:Scope}{N ps:List Str}{b:C}
theorem FnGN.of(F:FunD K x qual params body scope [] [] f fd)(S:FnScope N ps scope)
  (hbody:∀(cdv:Value) (A:Around) (outer:List PySem.Env) (s:Shared) (H:Hp) (E:XK),Rg k (zcW P w K mg base N qual scope f cdv A outer s H E).A->L2N.Takes (zcW P w K mg base N qual scope f cdv A outer s H E) (Wx E) ->
   PassesOwn (model P w) (zcW P w K mg base N qual scope f cdv A outer s H E).A (zcW P w K mg base N qual scope f cdv A outer s H E).env (zcW P w K mg base N qual scope f cdv A outer s H E).xe ->
   JSs (zcW P w K mg base N qual scope f cdv A outer s H E) cm (Wx E) body b) :
  FnGN P w K mg base (k+1) f fd ps (spD K cm ps.length (yg ps.length N.length b)):=by
 have len:∀ vs H Q E,spD K cm ps.length (yg ps.length N.length b) vs H Q E->vs.length=ps.length:=λvs H Q E ⟨p,s,ds,_,r,l,_⟩=>by rw[← r.length,l]
 obtain⟨oc,od,dV,kV,doc,pm,an,cdv,ct,osl,rfl,lk,hcd,_,_⟩:=F.ex;refine⟨len,λA outer s H args us vs Q E hr e0 hb r hsp=>?_⟩;have hl:=len _ _ _ _ hsp;have KX:K.In s.heap:=e0.mod.kin.keeps λb o e=>(e0.bs b o e).1;have lim:s.heap.NoLimit:=e0.mod.nolimit.keeps λb o e=>(e0.bs b o e).1
 have hkind:∀ y∈ps.zip us,scope.names.lookup y.1=some .local\/(scope.names.lookup y.1=some .cell/\((cellsFrom (s.heap.objs.size+1) scope.names []).lookup y.1).isSome=true):=λ⟨n,v⟩ hy =>
  (S.par n (List.of_mem_zip hy).1).elim .inl λq=>.inr ⟨q,PySem.W.cellsFrom_some _ _ _ (.inl q)⟩
 refine codeAny_call_function hr.room.depth (KX _ _ lk) rfl S.co S.gen rfl (PySem.W.codeRec_of KX hcd) (hb _ _ _ _ ?_);refine wpAny_newFunctionEnv_cells S.kind hkind λenv he s1 y=>?_;subst he;refine⟨lim.keeps y.toInCall.keep,codeAny_func ?_⟩;have ht:=hbody cdv A outer s H E (hr.deeper _) (L2N.takes_of (X:=zcW P w K mg base N qual scope f cdv A outer s H E) rfl rfl rfl rfl) (passes_of (X:=zcW P w K mg base N qual scope f cdv A outer s H E) rfl);have I:Inv (zcW P w K mg base N qual scope f cdv A outer s H E) [] (L2.start N vs) H s1:=inv_start S hr.room.hd e0 hl r y;obtain⟨p,st,ds,rs,rv,hn,q⟩:=hsp
 have hq:tS K cm (Wx E) b { nx:=λ_ H'=>Q .non H',rt:=Q } (L2.start N vs) H:=by
  refine⟨p,_,st,zet rv,rs,?_⟩;unfold yg at q;rw[if_pos hn,← hn]at q
  cases e:b (ds.map some++List.replicate (N.length - ds.length) none) st with
  | none=>rw[e]at q;exact q.elim
  | some rr =>
   rw[e]at q
   cases rr with
   | nx e' s'=>exact λp' H' σ' f rs' _=>q p' H' .non f rs' zhM
   | rt d s'=>exact q
   | bk _ _=>exact q.elim
   | ct _ _=>exact q.elim
   | xc c fs e' s'=>exact λp' H' σ' cls dd f rs' _ rx=>q p' H' cls dd f rs' rx
 refine wpAny_mono (ht.run [] s1 (L2.start N vs) H _ I hq) (λfl s' hs=>?_) λe s' hs=>hs
 have fin:∀{σ':L2.St}{H':Hp}{v:V}{u:Value},Inv (zcW P w K mg base N qual scope f cdv A outer s H E) [] σ' H' s'->RelV v u->Q v H'->CE outer P w H s Q u s' :=
  λ{σ' H' v u} J rv q=>⟨v,H',J.os,J.bare,J.base,J.hok,rv,q⟩
 cases fl with
 | ret u =>
  obtain⟨v,σ',H',J,rv,q⟩:=hs;exact fin J rv q
 | next =>
  obtain⟨σ',H',J,q⟩:=hs;exact fin (v:=V.non) (u:=Value.none) J rfl q
 | brk =>
  obtain⟨_,_,_,q⟩:=hs;exact False.elim q
 | cont =>
  obtain⟨_,_,_,q⟩:=hs;exact False.elim q
end
structure FnVN(P:Program)(w:World)(K:oU)(mg:Str->Option Value)(base:Heap)(cm:CM)(k:Nat)(f:Addr)(F:Fc.F):Prop where
 ex:∃ n fd ps,FnGN P w K mg base k f fd ps (spD K cm n F)/\(∀ ds s,ds.length≠n->F ds s=none)/\Binds K fd ps []
section
variable{X:Cx}{k j:Nat}{f C:Addr}{F:Fc.F}{m:Str}{fl:EL}
theorem zrv(V:FnVN X.prog X.w X.K X.mg X.base cm k f F)(hr:Rg j X.A)(hk:k<=j)(tk:L2N.Takes X W){pins:List (Addr×Obj)}{σ:L2.St}{H:Hp}{s:Shared}{Q:VK}{us:List Value}{vs:List L2.V}{pa:List Addr}{st:S}{ds:List D}
  (I:Inv X pins σ H s) (r:Vals vs us) (rs:RS X.K cm pa st H) (rv:RVs X.K pa H ds vs) (q:Po X.K cm W (RV X.K) pa σ H (F ds st) Q):wpAny (model X.prog X.w) X.A (call (.ref f) us) (EP X pins σ Q) X.xe s:=by
 obtain⟨n,fd,ps,G,ar,bd⟩:=V.ex
 have hn:ds.length=n:=Classical.byContradiction λz=>by
  rw[ar _ _ z]at q;exact q
 have sp:spD X.K cm n F vs H Q (λc d H=>W c d σ H):=⟨pa,st,ds,rs,rv,hn,q.wish⟩
 have hl:us.length=ps.length:=by rw[← r.length];exact G.len _ _ _ _ sp
 have b:=bd s us I.kIn (by rw[sJ];exact hl);rw[sJ]at b;refine wpAny_call (codeAny_mono (G.run X.A X.stack s H ⟨us,[]⟩ us vs Q _ (hr.mono hk) I.env0 b r sp) λr s' hq=>?_)
 cases r with
 | error e=>exact tk _ _ (L2N.XE.of_call I (λ_ _ _ h=>h) hq)
 | ok fl =>
  cases fl with
  | ret u=>exact I.after hq
  | next=>exact False.elim hq
  | brk=>exact False.elim hq
  | cont=>exact False.elim hq
structure MtAtN(P:Program)(w:World)(K:oU)(mg:Str->Option Value)(base:Heap)(cm:CM)(k:Nat)(c m:Str)(F:Fc.F):Prop where
 ex:∃ C f,cm.ins c=some C/\L2.Cls K C/\Meth K C m f/\FnVN P w K mg base cm k f F
end
end Fc
namespace Fc
open PySem PySem.Spec PyProof.Rows L2
open L2H (HotI HotC RoomH FnH Hot1)
variable{K:oU}{cm:CM}{W:WX}
section
variable{X:Cx}{a b:Expr}{fa fb:E}{pos:Pos}
theorem zro{k:Nat}(hr:RoomH k X.A)(ha:JE X cm W a fa)(hb:JE X cm W b fb)(hs:PlainIx b:=by intro _ _;rfl):JE X cm W (.Subscript a b pos) (e2 oAt fa fb):=by
 refine(pe_ix (ix_seq.or (zjQ (by have:=hr.un;omega))) ha hb hs).imp λσ H Q q=>?_;obtain⟨p,e,s,re,rs,q⟩:=tD.two q;refine⟨p,e,s,re,rs,q.imp ?_⟩;rintro x H1 ⟨p,e,s,re,rs,q⟩;refine⟨p,e,s,re,rs,q.imp ?_⟩;rintro y H2 ⟨p,e,s,d1,d2,re,rs,r1,r2,q0⟩;obtain⟨d,e1,qf⟩:=wO q0;unfold atD at e1;split at e1
 . rename_i ds;split at e1
   . rename_i i;obtain⟨t,vs,rfl,h1,rr⟩:=xV r1;obtain⟨v,e2,rv⟩:=zde rr e1;exact .inl (.inr (.inl ⟨t,vs,i,v,rfl,yz r2,SqT.of h1,e2,Po.ok qf rs rv⟩))
   . cases e1
 . rename_i ds;split at e1
   . rename_i i;simp only[RV]at r1;obtain⟨t,vs,rfl,h1,rr⟩:=r1;obtain⟨v,e2,rv⟩:=zde rr e1;exact .inl (.inl ⟨t,vs,i,v,rfl,yz r2,h1.1,e2,Po.ok qf rs rv⟩)
   . cases e1
 . rename_i z;split at e1
   . rename_i i;split at e1
     . rename_i hz;obtain⟨c,e2,rfl⟩:=tW.mp e1;exact .inl (.inr (.inr ⟨z,i,c,wQ r1,yz r2,zaM hz,e2,Po.ok qf rs (km _)⟩))
     . cases e1
   . cases e1
 . rename_i n;split at e1
   . rename_i ds h;split at e1
     . rename_i i;obtain⟨t,vs,rfl,_,h1,rr⟩:=yw rs r1 h;obtain⟨v,e2,rv⟩:=zde rr e1;exact .inl (.inl ⟨t,vs,i,v,rfl,yz r2,SqL.of h1,e2,Po.ok qf rs rv⟩)
     . cases e1
   . rename_i o h1 h2;obtain⟨r,e2,e3⟩:=qm.mp e1;simp only[id]at e3;subst e3;obtain⟨t,rfl,h⟩:=zdS rs r1 h2 r2 e2
     rcases h with ⟨d',v,e4,g,rv⟩ | ⟨e4,_⟩
     . cases e4;exact .inr ⟨t,v,rfl,g,Po.ok qf rs rv⟩
     . cases e4
   . cases e1
 . cases e1
theorem zkD{k:Nat}(hr:RoomH k X.A):OpR X (compareOp .Eq) (rZ X.K cm id):=by
 intro pins s0 σ H x y v u Q I rx ry h;obtain⟨p,s,dx,dy,b,rs,r1,r2,e,q⟩:=h;exact(zjA (ne:=true) I rs r1 r2 rx ry e (by have:=hr.un;omega)).1 X.prog X.w _ _ ⟨.bl b,H,I,rfl,q⟩
theorem s_oEqH{k:Nat}(hr:RoomH k X.A):S2 X cm (compareOp .Eq) oEq:=by
 refine⟨λx y H Q=>rEqD X.K x y H Q\/rZ X.K cm id x y H Q,λpins s σ H x y v u Q I rx ry h=>h.elim (λh=>op_eqD (show X.A.units+64<cLine by have:=hr.un;omega) pins s σ H x y v u Q I rx ry h) λh=>zkD hr pins s σ H x y v u Q I rx ry h,λW p s σ H x y dx dy Q rs rx ry q=>?_⟩;obtain⟨d,e,q⟩:=wO q;obtain⟨b,e1,rfl⟩:=tW.mp e;have q':=Po.ok q rs (zay _)
 rcases zhs rs rx ry e1 with ⟨d,d',h1,h2,h3,h4,h5⟩ | h
 . exact .inl ⟨d,d',h1,h2,h3,h4,by rw[h5];exact q'⟩
 . exact .inr ⟨p,s,dx,dy,b,rs,rx,ry,h,q'⟩
end
end Fc
namespace Fc
open PySem PySem.Spec PyProof.Rows L2
open L2H (HotI HotC RoomH FnH Hot1)
section
variable{K:oU}{cm:CM}{mg:Str->Option Value}{P:Program}{w:World}{base:Heap}{k np nn:Nat}{b:C}{F:Fc.F}{fd:FuncData}{ps cs eqs:List Str}{isx:List (Str×List Str)}{flds:List Str}{ms:List (Str×Str)}
theorem zdP(h:BindD K fd ps []):Binds K fd ps []:=by
 obtain⟨ds,dvs,r,hb,z⟩:=h;obtain rfl:=zgr z;cases r;exact hb
theorem znx(e:ExOk cs isx eqs flds ms K){c m:Str}(hcm:cm.ins c=some (He.ga K c))(G:FnVH P w K mg base cm k (He.ma K (He.ga K c) m) F)(hc:c∈cs)(hm:(c,m)∈ms):MtAtH P w K mg base cm k c m F:=⟨_,_,hcm,(e.c1 hc).1,e.meth hm,G⟩
theorem zra(e:ExOk cs isx eqs flds ms K){c m:Str}(hcm:cm.ins c=some (He.ga K c))(G:FnGN P w K mg base k (He.ma K (He.ga K c) m) fd ps (spD K cm np (yg np nn b)))(hb:BindD K fd ps [])(hc:c∈cs)(hm:(c,m)∈ms):MtAtN P w K mg base cm k c m (yg np nn b) :=
 ⟨_,_,hcm,(e.c1 hc).1,e.meth hm,np,fd,ps,G,zan,zdP hb⟩
theorem vL{X:Cx}{a:Addr}{pn:List (Addr×Obj)}(r:Room k X.A):RoomH k (X.suite a pn).A:=⟨r.dp,r.un⟩
end
theorem zoC{k:Nat}{r:GL}(h1:∀ d e s e',r d e s=some e'->e'.length=e.length):∀ d e s e',zgg k r d e s=some e'->e'.length=e.length:=by
 intro d e s e' h;unfold zgg at h;split at h
 . split at h
   . exact h1 _ _ _ _ h
   . cases h
 . cases h
theorem wG{X:Cx}:Takes X Wf:=λu s' ⟨_,_,_,_,_,_,_,_,_,_,_,_,_,_,_,_,w⟩=>w.elim
variable{K:oU}{cm:CM}{W:WX}
def zix(e:E):E:=λσ s=>match e σ s with
 | some (.exc _ _ _)=>none
 | r=>r
section
variable{X:Cx}{x:Expr}{f:E}
theorem zmp(h:JE X cm Wf x f):JE X cm W x (zix f):=by
 refine h.imp λσ H Q q=>?_;obtain⟨p,e,s,re,rs,q⟩:=q;refine⟨p,e,s,re,rs,?_⟩;unfold zix at q
 cases hr:f e s with
 | none=>rw[hr]at q;exact q.elim
 | some r =>
  rw[hr]at q
  cases r with
  | ok d s1=>exact q
  | exc c fs s1=>exact q.elim
end
section
variable{X:Cx}{k j:Nat}{c n:Str}{dfls:List (List D)}{p pos rpos:Pos}{a:Expr}{fa:E}
theorem zoX{pins:List (Addr×Obj)}{σ:L2.St}{H1 H2:Hp}{Q:XK}{hp hp2 h2:Heap}{g1 g2:Array GenState}{d1 d2:Drawn}{t1 t2:Nat}{os1 os2:OsState}{a C d:Addr}{fs:List (Str×V)}(T:Raises X (.ref C))(I1:Inv X pins σ H1 ⟨hp,g1,d1,t1,os1⟩)
  (ha:hp.objs.size<=a) (k:∀ b o,hp.get? b=some o->hp2.get? b=some o) (un:Un (frs X.stack) [] (upd H1 a (exo a C none)) H2 hp2 h2) (hok:HOk X.prog X.w H2 h2) (ho:os2=os1) (hb:AllBare g2)
  (ea:H2 a=some (exo a C (some d))) (ed:H2 d=some (exd d fs)) (hd1:H1 d=none) (q:Q (.ref C) (some d) (upd (del H2 a) d (.xd fs))):L2N.MkP X pins σ Q (.ref a) ⟨h2,g2,d2,t2,os2⟩:=by
 obtain⟨t0,G,J,kG,ge,hoe,na⟩:=mk_end0 (d2:=d2) (t2:=t2) I1 ha k un hok ho hb ea ed hd1;exact⟨a,_,_,⟨G,g2,d2,t2,os2⟩,_,.ref C,some d,rfl,J,kG,ge,hoe,⟨rfl,rfl,λvs e=>by cases e;rfl⟩,rfl,rfl,na,rfl,hb,T,q⟩
theorem zoY{C f:Addr}{fd:FuncData}{ds:List Value}{dvs vs:List V}{us:List Value}{v:V}{pins:List (Addr×Obj)}{σ:L2.St}{H:Hp}{s:Shared}{Q:XK}(hT:OexC X.K C)(hF:FnG X.prog X.w X.K X.mg X.base k f fd ["self",n] (znP C n))
  (hi:PySem.W.findIn X.K (.ref C) "__init__"=some (some (.ref f))) (ht:PySem.W.typeIn X.K (.ref f)=some (.type "function")) (hr:Rg j X.A) (hk:k+1<=j) (hb:Binds X.K fd ["self",n] ds) (hd:Vals dvs ds) (I:Inv X pins σ H s) (hv:Vals vs us) (he:vs++dvs=[v])
  (q:∀ dx,H dx=none->Q (.ref C) (some dx) (upd H dx (.xd [(n,v)]))):wpAny (model X.prog X.w) X.A (call (.ref C) us) (L2N.MkP X pins σ Q) X.xe s:=by
 obtain⟨nm,qn,N,bs,bm,sn,sub,ab,col,dd,k0,k1,k2,k3,k5,hC,hbm⟩:=hT.cls;obtain⟨hp,g,dr,tk0,os⟩:=s;have hsz:hp.objs.size<=hp.objs.size+1:=pq _;have hn:H (hp.objs.size+1)=none:=I.hok.fresh hsz
 have hus:us.length<=sizeLine:=by
  have h1:vs.length<=1:=by have:=congrArg List.length he;simp at this;omega
  rw[← Paired.length hv,sizeLine_eq];omega
 have keep:∀ b o,hp.get? b=some o->((hp.push (PySem.W.kdv_tup us)).push (PySem.HandSPX.excO C hp.objs.size)).get? b=some o:=λb o z=>Heap.get?_push_of_some _ (Heap.get?_push_of_some _ z)
 have hat:((hp.push (PySem.W.kdv_tup us)).push (PySem.HandSPX.excO C hp.objs.size)).get? (hp.objs.size+1)=some (PySem.HandSPX.excO C hp.objs.size):=by heap_get
 have J:Inv X pins σ (upd H (hp.objs.size+1) (exo (hp.objs.size+1) C none)) ⟨(hp.push (PySem.W.kdv_tup us)).push (PySem.HandSPX.excO C hp.objs.size),g,dr,tk0,os⟩ :=
  I.laid (t':=tk0) (a:=hp.objs.size+1) (o:=exo (hp.objs.size+1) C none) keep hsz (exo_ok hat)
 have rr:Vals (V.ref (hp.objs.size+1)::(vs++dvs)) (Value.ref (hp.objs.size+1)::(us++ds)):=.cons rfl (hv.append hd)
 have sp:znP C n (V.ref (hp.objs.size+1)::(vs++dvs)) (upd H (hp.objs.size+1) (exo (hp.objs.size+1) C none)) (λu H2=>u=.non/\∃(d:Addr) (fs:List (Str×V)),H2 (hp.objs.size+1)=some (exo (hp.objs.size+1) C (some d))/\H2 d=some (exd d fs)/\H d=none/\Q (.ref C) (some d) (upd (del H2 (hp.objs.size+1)) d (.xd fs))) (λ_ _ _=>False):=by
  rw[he];refine⟨_,v,rfl,upd_same,λdx h1 h2=>⟨rfl,dx,[(n,v)],upd_same,?_,?_,?_⟩⟩
  . rw[upd_ne h2,upd_same]
  . rw[upd_ne h2]at h1;exact h1
  . have h1':H dx=none:=by rw[upd_ne h2]at h1;exact h1
    have e:upd (del (upd (upd (upd H (hp.objs.size+1) (exo (hp.objs.size+1) C none)) dx (exd dx [(n,v)])) (hp.objs.size+1) (exo (hp.objs.size+1) C (some dx))) (hp.objs.size+1)) dx (.xd [(n,v)])=upd H dx (.xd [(n,v)]):=by
     funext b;by_cases hb:b=dx
     . rw[hb,upd_same,upd_same]
     . rw[upd_ne hb,upd_ne hb];by_cases hb2:b=hp.objs.size+1
       . rw[hb2,del_same,hn]
       . rw[del_ne hb2,upd_ne hb2,upd_ne hb,upd_ne hb2]
    rw[e];exact q dx h1'
 have hlen:(Value.ref (hp.objs.size+1)::us++ds).length=(["self",n]:List Str).length:=by
  have z:=rr.length;rw[he]at z;simpa using z.symm
 refine wpAny_call (PySem.HandSPX.call_own PySem.F.excBase_ValueError (λY=>PySem.HandSPX.refsVE_contains Y bm hbm) (I.kIn _ _ hC) (PySem.W.looks_findIn I.kIn hi) (λself=>PySem.W.bind_fn I.kIn self ht) hus
  (codeAny_mono (hF.run _ X.stack _ _ ⟨Value.ref (hp.objs.size+1)::us,[]⟩ (Value.ref (hp.objs.size+1)::(us++ds)) _ _ (λ_ _ _=>False) ((hr.mono hk).make C us []) (J.env0.make C us []) (hb _ (Value.ref (hp.objs.size+1)::us) J.kIn hlen) rr sp) λr s' hq=>?_))
 cases r with
 | error er=>exact wG _ _ (XE.of_call (W:=Wf) J (λ_ _ _ z=>z.elim) hq)
 | ok f0 =>
  cases f0 with
  | ret u =>
    obtain⟨u',H2,os2,ag2,un2,hok2,ru,eu,d,fs,ea,ed,hd1,q2⟩:=hq;subst eu;obtain⟨h2,g2,d2,t2,os'⟩:=s';exact⟨ru,zoX (raises_own hT.exC hT.tyC) I hsz keep un2 hok2 os2 ag2 ea ed hd1 q2⟩
  | next=>exact False.elim hq
  | brk=>exact False.elim hq
  | cont=>exact False.elim hq
theorem zia(V:ErrAt X.prog X.w X.K X.mg X.base cm k c n dfls)(h0:[]∈dfls)(hr:Rg j X.A)(hk:k+1<=j)(hc:X.calm=true)(tk:L2N.Takes X W)(ha:JE X cm W a fa)(hg:Gl X c:=by rfl)(hdb:(c == ("__debug__":Str))=false:=by decide)
  (hst:starEach [a] X.env=(false,eval a X.env)::starEach [] X.env:=by rfl) (hpl:(backTo pos (starEach [] X.env)).any (·.1)=false:=by rfl):JS X cm W (.Raise (some (.Call (.Name c p) [a] [] pos)) none rpos) (xj c n fa):=by
 obtain⟨C,f,fd,hC,hm,hT,hF,hi,ht,hb⟩:=V.ex;obtain⟨ds,dvs,hv,hbd,hz⟩:=hb [] h0;obtain rfl:=zgr hz
 have mk:L2N.PMk X (.Call (.Name c p) [a] [] pos) (λσ H Q=>tD X.K cm W fa σ H λv H1=>∀ dx,H1 dx=none->Q (.ref C) (some dx) (upd H1 dx (.xd [(n,v)]))):=by
  intro pins s σ H Q I h;refine wpAny_Call_Name_kw (ld_glob I hg hm ?_ hdb);have ps:PA X [a] (tCons (tD X.K cm W fa) tNil):=pa_cons ha pa_nil hst;refine PySem.W.callWith_K (h₀:=X.base) I.ok.mod.kin hT.kC (thn (ps.run pos pins s σ H (λvs H1=>∃ v,vs=[v]/\∀ dx,H1 dx=none->Q (.ref C) (some dx) (upd H1 dx (.xd [(n,v)]))) I ?_) λus s1 ⟨vs,H1,I1,r1,v,ev,q⟩=>⟨I1.kIn,?_⟩) hst hpl
  . obtain⟨p,e,st,re,rs,q⟩:=h;exact⟨p,e,st,re,rs,q.imp λv H1 q=>⟨v,rfl,q⟩⟩
  . exact zoY hT hF hi ht hr hk hbd hv I1 r1 (by rw[ev];rfl) q
 refine(L2N.ps_raise hc tk mk).imp ?_;rintro D σ H ⟨p,e,s,re,rs,q⟩;refine⟨p,e,s,re,rs,(PoS.ex (rel:=RV X.K) q re).imp ?_⟩;rintro v H1 ⟨d,p1,s1,f1,rs1,r1,q⟩ dx hdx;have sm:=wR (u:=HO.xd [(n,v)]) hdx;refine q p1 _ σ (.ref C) (some dx) (Fut.same sm) (rs1.same sm) ((re.mono f1).mono (Fut.same sm)) ⟨C,hC,rfl,[(n,v)],upd_same,?_⟩;simp only[RKs];exact⟨v,[],rfl,r1.mono (Fut.same sm),rfl⟩
end
section
variable{X:Cx}{k j:Nat}{F:Fc.F}{m:Str}{pos apos:Pos}{o e:Expr}{es:List Expr}{fl:EL}{fo:E}
theorem zpw{c:Str}{pl:Sem Bool}(V:MtAtN X.prog X.w X.K X.mg X.base cm k c m F)(hr:Rg j X.A)(tk:L2N.Takes X W)(hk:k<=j)(ho:JE X cm W o fo)(ha:JA X cm W (e::es) fl)
  (hst:starEach (e::es) X.env=(false,eval e X.env)::starEach es X.env:=by rfl) (hpl:(backTo pos (starEach es X.env)).any (·.1)=false:=by rfl)
  (ht:eval (.Call (.Attribute o m apos) (e::es) [] pos) X.env=(do
   let ov ← eval o X.env
   standAt apos.atName
   let (f,first) ← holding [ov] (getMethod ov m pl)
   callWith pos f first (backTo pos (starEach (e::es) X.env)) (backToKw pos (keywordEach [] X.env))):=by rfl) :
  JE X cm W (.Call (.Attribute o m apos) (e::es) [] pos) (zY c m F [] fo fl):=by
 obtain⟨C,f,hC,cl,mt,V⟩:=V.ex;refine⟨λpins s σ H Q I h=>?_⟩;refine PySem.W.methodCall_KW (pl:=pl) (thn (ho.run pins s σ H _ I (tD.meth h)) λu s1 ⟨x,H1,I1,rx,a,C',dx,gs,hC',ex,ea,l,q⟩=>?_) ht;rw[hC]at hC';cases hC';subst ex;obtain rfl:u=Value.ref a:=rx;refine getmeth_ok I1 ea cl mt l ?_;refine PySem.W.callWith_K (first:=[.ref a]) (h₀:=X.base) I.ok.mod.kin mt.kp (thn (ha.run pos pins s1 σ H1 _ I1 q) λus s2 ⟨vs,H2,I2,r,pa,st,d,ds,rs,rv,rvs,q2⟩=>⟨I2.kIn,?_⟩) hst hpl;rw[sJ]at q2;refine zrv (us:=.ref a::us) (vs:=L2.V.ref a::vs) (ds:=d::ds) V hr hk tk I2 (.cons rfl r) rs ?_ q2;simp only[RVs];exact⟨_,_,rfl,rv,rvs⟩
end
def zfV(sub fld:Str)(i j:Nat)(b:C)(f2:E):C:=λσ s=>match b σ s with
 | some (.xc c fs σ1 s1)=>if c=sub then match fs.lookup fld,σ1[j]? with
   | some v,some (some d)=>if i<σ1.length then match eqD s1 v d with
     | some true=>match f2 (σ1.set i none) s1 with
      | some (.ok r s2)=>some (.rt r s2)
      | _=>none
     | some false=>some (.rt (.bl false) s1)
     | none=>none
    else none
   | _,_=>none
  else some (.xc c fs σ1 s1)
 | r=>r
section
variable{X:Cx}{k i j:Nat}{x n y x0 fld:Str}{C0:Addr}{sts:List Stmt}{c2:Expr}{fb:C}{f2:E}{p1 p2 p6 pb q1 q2 q3 q4 q5:Pos}
theorem zrt(T:CatAt X.K cm X.mg x [x0])(hC:cm.err x0=some C0)(F:FldOk X.K cm fld)(hr:Room k X.A)(hs:X.stack=X.env::X.outer)(hf:X.env.frame=some X.env.locals)(hN:X.N.Nodup)(tk:Takes X W)
   (hb:∀(W:WX) (pn:List (Addr×Obj)) (xe:Value->Shared->Prop),L2N.Takes (X.tr pn xe) W->PassesOwn (model X.prog X.w) X.A X.env xe->JSs (X.tr pn xe) cm W sts fb)
   (h2:∀(a:Addr) (pn:List (Addr×Obj)),HotC (X.suite a pn)->JE (X.suite a pn) cm Wf (.BoolOp .And [c2] pb) f2)
   (hij:i≠j) (hi:X.N[i]?=some n:=by rfl) (hln:X.env.kindOf n=some .local:=by rfl) (hj:X.N[j]?=some y:=by rfl)
   (hvn:Vis X.env.scope n:=by first | exact Or.inl rfl | exact Or.inr (Or.inl rfl) | exact Or.inr (Or.inr rfl)) (hvy:Vis X.env.scope y:=by first | exact Or.inl rfl | exact Or.inr (Or.inl rfl) | exact Or.inr (Or.inr rfl))
   (hdn:(n == ("__debug__":Str))=false:=by decide) (hcn:(n == ("__classdict__":Str))=false:=by decide) (hdy:(y == ("__debug__":Str))=false:=by decide) (hcy:(y == ("__classdict__":Str))=false:=by decide)
   (hg:Gl X x:=by rfl) (hdx:(x == ("__debug__":Str))=false:=by decide) :
   JS X cm W (.Try sts [.ExceptHandler (some (.Name x p1)) (some n) [.Return (some (.BoolOp .And [.Compare (.Attribute (.Name n q1) fld q2) [.Eq] [.Name y q3] q4,c2] pb)) q5] p2] [] [] p6) (zfV x0 fld i j fb f2):=by
 obtain⟨A,hA,hA2⟩:=T.ex;obtain⟨xf,hno⟩:=F.err x0 C0 hC;refine(L2N.ps_try_as (i:=i) (c:=.ref A) (tb:=λW=>tS X.K cm W fb) (ts:=λa cls d=>tRet (tAndT X.K (tOp (λx y H Q=>rEqD X.K x y H Q\/rZ X.K cm id x y H Q) (tXf a cls d C0 fld (tVar i)) (tVar j)) (tD X.K cm Wf f2))) hs hf hN hi hln ⟨hg,hdx,.inl hA⟩ (zsc tk) hb (λa oe cls d pn hz hv=>?_)).imp ?_
 . have hot:HotC (X.suite a ((a,oe)::pn)):=by
    obtain⟨vs,hd⟩:=hv;exact⟨(a,oe),⟨rfl,vs,hd,hz.2.2 vs hd⟩,tH⟩
   have op:OpR (X.suite a ((a,oe)::pn)) (compareOp .Eq) (λx y H Q=>rEqD X.K x y H Q\/rZ X.K cm id x y H Q):=λpins s σ H x y v u Q I rx ry h=>h.elim (λh=>op_eqD (show(X.suite a ((a,oe)::pn)).A.units+64<cLine by have:=(vL (a:=a) (pn:=(a,oe)::pn) hr).un;omega) pins s σ H x y v u Q I rx ry h) λh=>zkD (vL hr) pins s σ H x y v u Q I rx ry h;exact pss_one (ps_ret (pe_andT (pe_cmpR op (pe_xf xf hno hz.zc hv (pe_var hi hvn hdn hcn)) (pe_var hj hvy hdy hcy) (nomark _)) (h2 a _ hot)))
 rintro Dn σ H ⟨p,e,s,re,rs,q⟩;refine⟨p,e,s,re,rs,?_⟩;unfold zfV at q
 cases hr:fb e s with
 | none=>rw[hr]at q;exact q.elim
 | some r =>
   rw[hr]at q
   cases r with
   | nx e1 s1=>exact q
   | rt d s1=>exact q
   | bk e1 s1=>exact q
   | ct e1 s1=>exact q
   | xc c fs e1 s1 =>
    intro p' H' σ' cls dd f rs' re' rx;obtain⟨C,hC',rfl,rk⟩:=id rx;refine⟨([x0]:List Str).contains c,hA2 c C hC',λhb1 a ha=>?_,λhb1=>?_⟩
    . have ec:c=x0:=by simpa using hb1
      subst ec;rw[hC]at hC';cases hC';dsimp only at q;rw[if_pos rfl]at q
      cases hl:fs.lookup fld with
      | none=>rw[hl]at q;exact q.elim
      | some v =>
       rw[hl]at q
       match hd:e1[j]?,q with
       | some (some d),q =>
        dsimp only at q;obtain⟨w,hw1,hw2⟩:=re'.2 j d hd
        have hil:i<e1.length:=Classical.byContradiction λz=>by rw[if_neg z]at q;exact q.elim
        rw[if_pos hil]at q
        cases dd with
        | none=>rw[show fs=[]from rk]at hl;cases hl
        | some dx =>
         obtain⟨gs,hx,rk2⟩:=rk;obtain⟨u,hu,rv⟩:=zax fld rk2 hl
         have ij:(σ'.set i (some (V.ref a)))[j]?=some (some w):=by rw[ql hij];exact hw1
         have ii:(σ'.set i (some (V.ref a)))[i]?=some (some (V.ref a)):=by
          rw[sY (by rw[← re'.1];exact hil)]
         cases hq:eqD s1 v d with
         | none=>rw[hq]at q;exact q.elim
         | some b =>
          rw[hq]at q;refine⟨_,ii,rfl,rfl,dx,gs,u,rfl,hx,hu,w,ij,?_⟩
          have fin:∃ k,TruV X.K (.bl b) H' k/\if k=true then tD X.K cm Wf f2 (σ'.set i (some (V.ref a))) H' Dn.rt else Dn.rt (.bl b) H':=by
            refine⟨b,rfl,?_⟩
            cases b with
            | false =>
             rw[if_neg (by simp)];exact PoS.fut (r:=some (.rt (.bl false) s1)) q f _ _ _ Fut.refl rs' (zay _)
            | true =>
             rw[if_pos rfl];refine⟨p',e1.set i none,s1,?_,rs',?_⟩
             . have:=(re'.unset i)
               refine⟨by simpa using re'.1,λm d' h=>?_⟩;by_cases him:i=m
               . subst him;rw[sY hil]at h;cases h
               . rw[ql him]at h ⊢;exact re'.2 m d' h
             . cases hu:f2 (e1.set i none) s1 with
               | none=>rw[hu]at q;exact q.elim
               | some r2 =>
                 rw[hu]at q
                 cases r2 with
                 | ok r s2=>exact λp2 H2 v2 g2 rs2 rv2=>PoS.fut (r:=some (.rt r s2)) q f p2 H2 v2 g2 rs2 rv2
                 | exc c2 fs2 s2=>exact q.elim
          rcases zhs rs' rv hw2 hq with ⟨d1,d2,h1,h2,h3,h4,h5⟩ | h
          . exact .inl ⟨d1,d2,h1,h2,h3,h4,by rw[h5];exact fin⟩
          . exact .inr ⟨p',s1,v,d,b,rs',rv,hw2,h,fin⟩
    . dsimp only at q
      have hb2:¬ (c=x0):=by simpa using hb1
      rw[if_neg hb2]at q;exact q p' H' σ' (.ref C) dd f rs' re' rx
end
end Fc
namespace Law_k86
open PySem PySem.Spec PyProof.Rows L2 Fc
noncomputable section
def b_law_cell:C :=
 (zE (cIf (tB (e2 oLt (zf 1) (eN vA (za (zf 0) zj))))
 (ye (e2 oAt (zf 0) (zf 1)))
 yh)
 (ye (eC (.int 0))))
def d_law_cell:F:=yg 2 2 b_law_cell
def b_law_generator:C :=
 (zE (zQ (zB d_law_cell [] (za (zf 0) (za (zf 1) zj))) (gName 2))
 (ye (eN yr (za (e2 oMod (eN yS (za (eN zbE (za (e2 znB (zf 2) (e2 zgt (eC (.int 10)) (eC (.int 18)))) (za (eC (.int 0)) zj))) zj)) (e2 zgt (e2 zgt (eC (.int 10)) (eC (.int 60))) (eC (.int 10)))) (za (e2 oMod (eN yS (za (zf 2) zj)) (eC (.int 2147483647))) (za (e2 jN (eC (.int 1000)) (zf 1)) zj))))))
def d_law_generator:F:=yg 2 3 b_law_generator
def b_law_hash:C :=
 (zE (zQ (e2 oMod (eN yS (za (e2 xH (e2 xH (e2 xH (e2 jN (zf 0) (eC (.int 1103515245))) (e2 jN (e2 jN (eC (.int 7919)) (zf 1)) (zf 1))) (zf 1)) (eC (.int 1))) zj)) (eC (.int 2147483647))) (gName 2))
 (zE (zQ (e2 oMod (eN yS (za (e2 xH (e2 jN (zf 2) (zf 2)) (eC (.int 69621))) zj)) (eC (.int 2147483629))) (gName 2))
 (ye (e2 oMod (eN yS (za (e2 jN (zf 2) (eC (.int 48271))) zj)) (eC (.int 2147483587))))))
def d_law_hash:F:=yg 2 3 b_law_hash
def b_law_random:C :=
 (zE (cIf (tB (e2 oGt (e2 oAt (zf 0) (eC (.int 0))) (eC (.int 0))))
 (zE (zQ (e2 oMod (eN yS (za (e2 oAt (zf 0) (eC (.int 0))) zj)) (zf 1)) (gName 2))
 (zE (jE (zf 0) (eC (.int 0)) (e2 oDiv (e2 oAt (zf 0) (eC (.int 0))) (zf 1)))
 (ye (zf 2))))
 yh)
 (zE (zQ (eC (.int 0)) (gName 2))
 (zE (xg (yf (eC (.int 0)) (e2 xH (eC (.int 1)) (e2 oDiv (e1 zcm (zf 1)) (eC (.int 30))))) (gName 3)
 (zE (jE (zf 0) (eC (.int 2)) (e2 xH (e2 oAt (zf 0) (eC (.int 2))) (eC (.int 1))))
 (zQ (e2 xH (e2 jN (zf 2) (eC (.int 2147483587))) (zB d_law_hash [] (za (e2 oAt (zf 0) (eC (.int 1))) (za (e2 oAt (zf 0) (eC (.int 2))) zj)))) (gName 2))))
 (ye (e2 oMod (eN yS (za (zf 2) zj)) (zf 1))))))
def d_law_random:F:=yg 2 4 b_law_random
def b_law_title:C :=
 (zE (zQ (eC (.str "")) (gName 2))
 (zE (xg (yf (eC (.int 0)) (e2 xH (eC (.int 1)) (zB d_law_random [] (za (zf 0) (za (zf 1) zj))))) (gName 3)
 (zQ (e2 xH (zf 2) (e2 oAt (eC (.str "abcdefghijklmnopqrstuvwxyz")) (zB d_law_random [] (za (zf 0) (za (eC (.int 26)) zj))))) (gName 2)))
 (ye (zf 2))))
def d_law_title:F:=yg 2 4 b_law_title
def b_law_heads:C :=
 (zE (zQ (eN yr zj) (gName 2))
 (zE (xg (yf (eC (.int 0)) (zf 1)) (gName 3)
 (zR (eM zU (zf 2) (za (eN wg (za (e2 xH (zB d_law_title [] (za (zf 0) (za (eC (.int 3)) zj))) (e2 oAt (eC (.str "klmno")) (zf 3))) (za (zB d_law_random [] (za (zf 0) (za (eC (.int 4)) zj))) zj))) zj))))
 (ye (zf 2))))
def d_law_heads:F:=yg 2 4 b_law_heads
def b_law_arcs:C :=
 (zE (zQ (eN yr zj) (gName 4))
 (zE (xg (yf (eC (.int 0)) (zf 1)) (gName 5)
 (xg (yf (eC (.int 0)) (zf 2)) (gName 6)
 (cIf (tB (e2 oEq (zB d_law_random [] (za (zf 0) (za (zf 3) zj))) (eC (.int 0))))
 (zR (eM zU (zf 4) (za (eN wg (za (zf 5) (za (zf 6) (za (e2 oEq (zB d_law_random [] (za (zf 0) (za (eC (.int 2)) zj))) (eC (.int 0))) zj)))) zj)))
 yh)))
 (zE (cIf (tAnd (tB (e2 oNe (zf 4) (eN yr zj))) (tB (e2 oEq (zB d_law_random [] (za (zf 0) (za (eC (.int 4)) zj))) (eC (.int 0)))))
 (zR (eM zU (zf 4) (za (e2 xH (zdU (e2 oAt (zf 4) (eC (.int 0))) pNo (zej (eC (.int 2)))) (eN wg (za (zdW (tE (e2 oAt (e2 oAt (zf 4) (eC (.int 0))) (eC (.int 2))))) zj))) zj)))
 yh)
 (ye (e2 oAt (eN yr (za (zf 4) (za (e1 zgu (zf 4)) zj))) (zB d_law_random [] (za (zf 0) (za (eC (.int 2)) zj))))))))
def d_law_arcs:F:=yg 4 7 b_law_arcs
def b_law_drawn:C :=
 (zE (zQ (zB d_law_heads [] (za (zf 0) (za (zf 1) zj))) (gName 3))
 (zE (zfT 4 5 (za (eN jh (za (zf 3) zj)) (za (eN yr zj) zj)))
 (zE (xg (yf (eC (.int 0)) (zB d_law_random [] (za (zf 0) (za (e2 xH (zf 2) (eC (.int 1))) zj)))) (gName 6)
 (zE (zQ (e2 oAt (e2 oAt (zf 3) (zB d_law_random [] (za (zf 0) (za (eN vA (za (zf 3) zj)) zj)))) (eC (.int 0))) (gName 7))
 (zE (zQ (e2 oAt (e2 oAt (zf 3) (zB d_law_random [] (za (zf 0) (za (eN vA (za (zf 3) zj)) zj)))) (eC (.int 0))) (gName 8))
 (zE (zQ (zB d_law_arcs [] (za (zf 0) (za (e2 oAt (zf 4) (zf 7)) (za (e2 oAt (zf 4) (zf 8)) (za (e2 oAt (eN yr (za (eC (.int 2)) (za (eC (.int 3)) zj))) (zB d_law_random [] (za (zf 0) (za (eC (.int 2)) zj)))) zj))))) (gName 9))
 (zR (eM zU (zf 5) (za (eN wg (za (e2 oAt (eN yr (za (eC (.str "cd")) (za (eC (.str "c")) (za (eC (.str "ca")) (za (eC (.str "cda")) (za (eC (.str "cb")) (za (eC (.str "cab")) (za (eC (.str "cc")) (za (eC (.str "da")) (za (eC (.str "d")) (za (eC (.str "dab")) zj))))))))))) (zf 6)) (za (zf 7) (za (zf 8) (za (zf 9) zj))))) zj)))))))
 (ye (eN yr (za (zf 3) (za (zf 5) zj)))))))
def d_law_drawn:F:=yg 3 10 b_law_drawn
def b_law_tamed:C :=
 (zE (zfT 3 4 (za (eN jh (za (zf 1) zj)) (za (eN yr zj) zj)))
 (zE (xg (yG .seq (zf 2)) (gTup 4 (gCons (gName 5) (gCons (gName 6) (gCons (gName 7) (gCons (gName 8) gNil)))))
 (zE (zQ (eN zab (za (zf 8) zj)) (gName 9))
 (zE (cIf (tAnd (tB (e2 oGt (eN zcT (za (eN yr (za (eN yS (za (e2 oAt (zf 3) (zf 6)) zj)) (za (eN yS (za (e2 oAt (zf 3) (zf 7)) zj)) zj))) zj)) (eC (.int 0)))) (tB (e2 oGt (zB d_law_random [] (za (zf 0) (za (eC (.int 4)) zj))) (eC (.int 0)))))
 (zQ (e2 xH (zf 9) (eN yr (za (eN wg (za (eC (.int 0)) (za (eC (.int 0)) (za (e2 oGt (zB d_law_random [] (za (zf 0) (za (eC (.int 3)) zj))) (eC (.int 0))) zj)))) zj))) (gName 9))
 yh)
 (zR (eM zU (zf 4) (za (eN wg (za (zf 5) (za (zf 6) (za (zf 7) (za (zf 9) zj))))) zj))))))
 (ye (zf 4))))
def d_law_tamed:F:=yg 3 10 b_law_tamed
def b_law_grid:C :=
 (zE (zQ (eN yr (za (eN yr (za (eC (.int 0)) (za (eC (.int 0)) (za (eC (.int 0)) zj)))) (za (eN yr (za (eC (.int 0)) (za (eC (.int 0)) (za (eC (.int 0)) zj)))) (za (eN yr (za (eC (.int 0)) (za (eC (.int 0)) (za (eC (.int 0)) zj)))) zj)))) (gName 1))
 (zE (xg (yG .seq (zf 0)) (gTup 3 (gCons (gName 2) (gCons (gName 3) (gCons (gName 4) gNil))))
 (jE (e2 oAt (zf 1) (zf 2)) (zf 3) (eN zbE (za (eN yS (za (e2 oAt (e2 oAt (zf 1) (zf 2)) (zf 3)) zj)) (za (e2 xH (eC (.int 1)) (eN yS (za (zf 4) zj))) zj)))))
 (ye (zf 1))))
def d_law_grid:F:=yg 1 5 b_law_grid
def b_law_listed:C :=
 (zE (zQ (eN yr zj) (gName 1))
 (zE (xg (yf (eC (.int 0)) (eC (.int 3))) (gName 2)
 (xg (yf (eC (.int 0)) (eC (.int 3))) (gName 3)
 (cIf (tB (e2 oGt (e2 oAt (e2 oAt (zf 0) (zf 2)) (zf 3)) (eC (.int 0))))
 (zR (eM zU (zf 1) (za (eN wg (za (zf 2) (za (zf 3) (za (e2 oEq (e2 oAt (e2 oAt (zf 0) (zf 2)) (zf 3)) (eC (.int 2))) zj)))) zj)))
 yh)))
 (ye (eN fTuple (za (zf 1) zj)))))
def d_law_listed:F:=yg 1 4 b_law_listed
def b_law_times:C :=
 (zE (zQ (eN yr (za (eN yr (za (eC (.int 0)) (za (eC (.int 0)) (za (eC (.int 0)) zj)))) (za (eN yr (za (eC (.int 0)) (za (eC (.int 0)) (za (eC (.int 0)) zj)))) (za (eN yr (za (eC (.int 0)) (za (eC (.int 0)) (za (eC (.int 0)) zj)))) zj)))) (gName 2))
 (zE (xg (yf (eC (.int 0)) (eC (.int 3))) (gName 3)
 (xg (yf (eC (.int 0)) (eC (.int 3))) (gName 4)
 (xg (yf (eC (.int 0)) (eC (.int 3))) (gName 5)
 (zE (zQ (eN yr (za (eN yS (za (e2 oAt (e2 oAt (zf 0) (zf 3)) (zf 5)) zj)) (za (eN yS (za (e2 oAt (e2 oAt (zf 1) (zf 5)) (zf 4)) zj)) zj))) (gName 6))
 (cIf (tB (e2 oGt (eN zcT (za (eLc [7] (yG .seq (zf 6)) (gName 7) tYes (eN yS (za (zf 7) zj))) zj)) (eC (.int 0))))
 (jE (e2 oAt (zf 2) (zf 3)) (zf 4) (eN zbE (za (eN yS (za (e2 oAt (e2 oAt (zf 2) (zf 3)) (zf 4)) zj)) (za (eN zbE (za (eLc [7] (yG .seq (zf 6)) (gName 7) tYes (eN yS (za (zf 7) zj))) zj)) zj))))
 yh)))))
 (ye (zf 2))))
def d_law_times:F:=yg 2 8 b_law_times
def b_law_reached:C :=
 (zE (zfT 1 2 (za (eN (λ_=>mDN) zj) (za (eN yr zj) zj)))
 (zE (xg (yG .seq (eN yX (za (zf 0) zj))) (gTup 4 (gCons (gName 3) (gCons (gName 4) (gCons (gName 5) (gCons (gName 6) gNil)))))
 (zE (zQ (eN wg (za (zf 4) (za (zf 5) (za (zB d_law_listed [] (za (zB d_law_grid [] (za (zf 6) zj)) zj)) zj)))) (gName 7))
 (cIf (tB (e2 xJ (zf 7) (zf 1)))
 (zE (uY (zf 1) (zf 7) (eN yr (za (zf 3) zj)))
 (zR (eM zU (zf 2) (za (zf 7) zj))))
 yh)))
 (zE (vq (tAnd (tB (e2 oNe (zf 2) (eN yr zj))) (tB (e2 oLt (eN ziy (za (zf 1) zj)) (eC (.int 150)))))
 (zE (zQ (eN yr zj) (gName 8))
 (zE (xg (yG .seq (zf 2)) (gName 7)
 (xg (yG .seq (eN yX (za (zf 0) zj))) (gTup 4 (gCons (gName 3) (gCons (gName 4) (gCons (gName 5) (gCons (gName 6) gNil)))))
 (cIf (tB (e2 oEq (e2 oAt (zf 7) (eC (.int 1))) (zf 4)))
 (zE (zQ (zB d_law_times [] (za (zB d_law_grid [] (za (e2 oAt (zf 7) (eC (.int 2))) zj)) (za (zB d_law_grid [] (za (zf 6) zj)) zj))) (gName 9))
 (zE (zQ (eN wg (za (e2 oAt (zf 7) (eC (.int 0))) (za (zf 5) (za (zB d_law_listed [] (za (zf 9) zj)) zj)))) (gName 10))
 (cIf (tB (e2 xJ (zf 10) (zf 1)))
 (zE (uY (zf 1) (zf 10) (e2 xH (e2 zlC (zf 1) (zf 7)) (eN yr (za (zf 3) zj))))
 (zR (eM zU (zf 8) (za (zf 10) zj))))
 yh)))
 yh)))
 (zQ (zf 8) (gName 2)))))
 (ye (eIf (tB (e2 oEq (zf 2) (eN yr zj))) (zf 1) (eC .non))))))
def d_law_reached:F:=yg 1 11 b_law_reached
def b_law_sized:C :=
 (zE (zQ (zB d_law_drawn [] (za (zf 0) (za (zf 1) (za (zf 2) zj)))) (gTup 2 (gCons (gName 3) (gCons (gName 4) gNil))))
 (zE (cIf (tB (e2 oGt (zB d_law_random [] (za (zf 0) (za (eC (.int 3)) zj))) (eC (.int 0))))
 (zQ (zB d_law_tamed [] (za (zf 0) (za (zf 3) (za (zf 4) zj)))) (gName 4))
 yh)
 (zE (vq (tB (e1 zei (zB d_law_reached [] (za (zf 4) zj))))
 (zQ (zdU (zf 4) (zej (eC (.int 1))) pNo) (gName 4)))
 (ye (eN yr (za (zf 3) (za (zf 4) zj)))))))
def d_law_sized:F:=yg 3 5 b_law_sized
def b_check_list:C :=
 (cIf (tNot (tE (e1 (oIs .list) (zf 0))))
 (xj "InvalidList" "value" (zf 0))
 yh)
def d_check_list:F:=yg 1 1 b_check_list
def b_is_name:C :=
 (zE (cIf (tOr (tNot (tE (e1 (oIs .str) (zf 0)))) (tNot (tB (uv oLe oLe (eC (.int 1)) (eN vA (za (zf 0) zj)) (eC (.int 12))))))
 (ye (eC (.bl false)))
 yh)
 (ye (e2 oEq (eLc [1] (yG .seq (zf 0)) (gName 1) (tB (e2 uC (zf 1) (eC (.str "abcdefghijklmnopqrstuvwxyz")))) (zf 1)) (eN yr zj))))
def d_is_name:F:=yg 1 2 b_is_name
def b_is_whole:C :=
 (ye (ziw (e1 (oIs .int) (zf 0)) (zdW (tE (e1 (oIs .bool) (zf 0))))))
def d_is_whole:F:=yg 1 1 b_is_whole
def b_is_function:C :=
 (zE (cIf (tOr (tNot (tE (e1 (oIs .tuple) (zf 0)))) (tOr (tB (e2 oNe (eN vA (za (zf 0) zj)) (eC (.int 2)))) (tNot (tE (zB d_is_name [] (za (e2 oAt (zf 0) (eC (.int 0))) zj))))))
 (ye (eC (.bl false)))
 yh)
 (ye (ziw (zB d_is_whole [] (za (e2 oAt (zf 0) (eC (.int 1))) zj)) (uv oLe oLe (eC (.int 0)) (e2 oAt (zf 0) (eC (.int 1))) (eC (.int 3))))))
def d_is_function:F:=yg 1 1 b_is_function
def b_is_arc:C :=
 (zE (cIf (tOr (tNot (tE (e1 (oIs .tuple) (zf 0)))) (tOr (tB (e2 oNe (eN vA (za (zf 0) zj)) (eC (.int 3)))) (tOr (tNot (tE (zB d_is_whole [] (za (e2 oAt (zf 0) (eC (.int 0))) zj)))) (tNot (tE (zB d_is_whole [] (za (e2 oAt (zf 0) (eC (.int 1))) zj)))))))
 (ye (eC (.bl false)))
 yh)
 (ye (ziw (uv oLe oLt (eC (.int 0)) (e2 oAt (zf 0) (eC (.int 0))) (zf 1)) (ziw (uv oLe oLt (eC (.int 0)) (e2 oAt (zf 0) (eC (.int 1))) (zf 2)) (e1 (oIs .bool) (e2 oAt (zf 0) (eC (.int 2))))))))
def d_is_arc:F:=yg 3 3 b_is_arc
def b_is_call:C :=
 (zE (cIf (tOr (tNot (tE (e1 (oIs .tuple) (zf 0)))) (tOr (tB (e2 oNe (eN vA (za (zf 0) zj)) (eC (.int 4)))) (tB (e2 oNe (eLc [2] (yG .seq (zdU (zf 0) pNo (zej (eC (.int 3))))) (gName 2) (tNot (tE (zB d_is_name [] (za (zf 2) zj)))) (zf 2)) (eN yr zj)))))
 (ye (eC (.bl false)))
 yh)
 (zE (zQ (zf 0) (gTup 4 (gCons (gName 2) (gCons (gName 3) (gCons (gName 4) (gCons (gName 5) gNil))))))
 (zE (cIf (tOr (tB (e2 uC (zf 3) (zf 1))) (tOr (tB (e2 uC (zf 4) (zf 1))) (tNot (tE (e1 (oIs .list) (zf 5))))))
 (ye (eC (.bl false)))
 yh)
 (ye (e2 oEq (eLc [6] (yG .seq (zf 5)) (gName 6) (tNot (tE (zB d_is_arc [] (za (zf 6) (za (e2 oAt (zf 1) (zf 3)) (za (e2 oAt (zf 1) (zf 4)) zj)))))) (zf 6)) (eN yr zj))))))
def d_is_call:F:=yg 2 7 b_is_call
def b_Program_init:C :=
 (zE (zR (zB d_check_list [] (za (zf 1) zj)))
 (zE (zQ (eN (λ_=>mDK) zj) (gName 3))
 (zE (xg (yG .seq (zf 1)) (gName 4)
 (zE (cIf (tOr (tNot (tE (zB d_is_function [] (za (zf 4) zj)))) (tB (e2 oIn (e2 oAt (zf 4) (eC (.int 0))) (zf 3))))
 (xj "InvalidFunction" "value" (zf 4))
 yh)
 (jE (zf 3) (e2 oAt (zf 4) (eC (.int 0))) (e2 oAt (zf 4) (eC (.int 1))))))
 (zE (zR (zB d_check_list [] (za (zf 2) zj)))
 (zE (zQ (eN (λ_=>mDK) zj) (gName 5))
 (zE (xg (yG .seq (zf 2)) (gName 6)
 (zE (cIf (tOr (tNot (tE (zB d_is_call [] (za (zf 6) (za (zf 3) zj))))) (tB (e2 oIn (e2 oAt (zf 6) (eC (.int 0))) (zf 5))))
 (xj "InvalidCall" "value" (zf 6))
 yh)
 (jE (zf 5) (e2 oAt (zf 6) (eC (.int 0))) (eN wg (za (e2 oAt (zf 6) (eC (.int 1))) (za (e2 oAt (zf 6) (eC (.int 2))) (za (eN fTuple (za (e2 oAt (zf 6) (eC (.int 3))) zj)) zj)))))))
 (zE (zlA "many" (zf 0) (zf 3))
 (zlA "known" (zf 0) (zf 5)))))))))
def d_Program_init:F:=yg 3 7 b_Program_init
def b_law_worths:C :=
 (ye (eN fTuple (za (eLc [3] (yf (eC (.int 0)) (zf 1)) (gName 3) tYes (zB d_law_random [] (za (zf 0) (za (zf 2) zj)))) zj)))
def d_law_worths:F:=yg 3 4 b_law_worths
def b_check_program:C :=
 (cIf (tNot (tE (e1 (zqi ["Program"]) (zf 0))))
 (xj "InvalidProgram" "value" (zf 0))
 yh)
def d_check_program:F:=yg 1 1 b_check_program
def b_check_function_name:C :=
 (cIf (tOr (tNot (tE (e1 (oIs .str) (zf 1)))) (tB (e2 uC (zf 1) (e1 (xr "many") (zf 0)))))
 (xj "UnknownName" "name" (zf 1))
 yh)
def d_check_function_name:F:=yg 2 2 b_check_function_name
def b_are_values:C :=
 (zE (cIf (tOr (tNot (tE (e1 (oIs .tuple) (zf 0)))) (tB (e2 oNe (eN vA (za (zf 0) zj)) (zf 1))))
 (ye (eC (.bl false)))
 yh)
 (ye (e2 oEq (eLc [2] (yG .seq (zf 0)) (gName 2) (tOr (tNot (tE (zB d_is_whole [] (za (zf 2) zj)))) (tB (e2 oLt (zf 2) (eC (.int 0))))) (zf 2)) (eN yr zj))))
def d_are_values:F:=yg 2 3 b_are_values
def b_check_values:C :=
 (cIf (tNot (tE (zB d_are_values [] (za (zf 0) (za (zf 1) zj)))))
 (xj "InvalidValues" "value" (zf 0))
 yh)
def d_check_values:F:=yg 2 2 b_check_values
def b_Run_init:C :=
 (zE (zR (zB d_check_program [] (za (zf 1) zj)))
 (zE (zR (zB d_check_function_name [] (za (zf 1) (za (zf 2) zj))))
 (zE (zR (zB d_check_values [] (za (zf 3) (za (e2 oAt (e1 (xr "many") (zf 1)) (zf 2)) zj))))
 (zE (zlA "base" (zf 0) (zf 1))
 (zlA "places" (zf 0) (eN yr (za (eN wg (za (eC .non) (za (zf 2) (za (zf 3) zj)))) zj)))))))
def d_Run_init:F:=yg 4 4 b_Run_init
def b_Run_function:C :=
 (ye (e2 oAt (e2 oAt (e1 (xr "places") (zf 0)) (e1 zlD (eC (.int 1)))) (eC (.int 1))))
def d_Run_function:F:=yg 1 1 b_Run_function
def b_Run_held:C :=
 (ye (e2 oAt (e2 oAt (e1 (xr "places") (zf 0)) (e1 zlD (eC (.int 1)))) (eC (.int 2))))
def d_Run_held:F:=yg 1 1 b_Run_held
def b_Run_greatest:C :=
 (zE (zQ (e2 oAt (e1 (xr "known") (e1 (xr "base") (zf 0))) (zf 1)) (gTup 3 (gCons (gName 2) (gCons (gName 3) (gCons (gName 4) gNil)))))
 (zE (cIf (tB (e2 oNe (zf 2) (zY "Run" "function" d_Run_function [] (zf 0) zj)))
 (ye (eC .non))
 yh)
 (zE (zQ (e2 jN (eN yr (za (eC .non) zj)) (e2 oAt (e1 (xr "many") (e1 (xr "base") (zf 0))) (zf 3))) (gName 5))
 (zE (xg (yG .seq (zf 4)) (gTup 3 (gCons (gName 6) (gCons (gName 7) (gCons (gName 8) gNil))))
 (zE (zQ (e2 znB (e2 oAt (zY "Run" "held" d_Run_held [] (zf 0) zj) (zf 6)) (eN yS (za (zf 8) zj))) (gName 9))
 (jE (zf 5) (zf 7) (eIf (tB (e1 zei (e2 oAt (zf 5) (zf 7)))) (zf 9) (eN zcT (za (eN yS (za (e2 oAt (zf 5) (zf 7)) zj)) (za (eN yS (za (zf 9) zj)) zj)))))))
 (ye (eIf (tB (e2 oNe (eLc [9] (yG .seq (zf 5)) (gName 9) (tAnd (tB (e1 zcn (zf 9))) (tB (e2 oLt (zf 9) (eC (.int 0))))) (zf 9)) (eN yr zj))) (eC .non) (zf 5)))))))
def d_Run_greatest:F:=yg 2 10 b_Run_greatest
def b_Run_options:C :=
 (ye (eLc [1] (yG .seq (eN vB (za (e1 (xr "known") (e1 (xr "base") (zf 0))) zj))) (gName 1) (tB (e1 zcn (zY "Run" "greatest" d_Run_greatest [] (zf 0) (za (zf 1) zj)))) (zf 1)))
def d_Run_options:F:=yg 1 2 b_Run_options
def b_law_most:C :=
 (zE (zQ (e2 jN (eN yr (za (eC .non) zj)) (e2 oAt (zf 1) (e2 oAt (zf 0) (eC (.int 2))))) (gName 3))
 (zE (xg (yG .seq (e2 oAt (zf 0) (eC (.int 3)))) (gTup 3 (gCons (gName 4) (gCons (gName 5) (gCons (gName 6) gNil))))
 (zE (zQ (e2 znB (e2 oAt (zf 2) (zf 4)) (eN yS (za (zf 6) zj))) (gName 7))
 (zE (cIf (tB (e2 oLt (zf 7) (eC (.int 0))))
 (ye (eC .non))
 yh)
 (jE (zf 3) (zf 5) (eIf (tB (e1 zei (e2 oAt (zf 3) (zf 5)))) (zf 7) (eN zcT (za (eN yS (za (e2 oAt (zf 3) (zf 5)) zj)) (za (eN yS (za (zf 7) zj)) zj))))))))
 (ye (zf 3))))
def d_law_most:F:=yg 3 8 b_law_most
def b_check_call_name:C :=
 (cIf (tOr (tNot (tE (e1 (oIs .str) (zf 1)))) (tB (e2 uC (zf 1) (e1 (xr "known") (zf 0)))))
 (xj "UnknownName" "name" (zf 1))
 yh)
def d_check_call_name:F:=yg 2 2 b_check_call_name
def b_Run_most:C :=
 (zE (zR (zB d_check_call_name [] (za (e1 (xr "base") (zf 0)) (za (zf 1) zj))))
 (zE (zQ (zY "Run" "greatest" d_Run_greatest [] (zf 0) (za (zf 1) zj)) (gName 2))
 (zE (cIf (tB (e1 zei (zf 2)))
 (xj "CannotCall" "name" (zf 1))
 yh)
 (ye (zf 2)))))
def d_Run_most:F:=yg 2 3 b_Run_most
def b_Run_row:C :=
 (ye (eLc [1,2,3] (yG .seq (zdU (e1 (xr "places") (zf 0)) (zej (eC (.int 1))) pNo)) (gTup 3 (gCons (gName 1) (gCons (gName 2) (gCons (gName 3) gNil)))) tYes (zf 1)))
def d_Run_row:F:=yg 1 4 b_Run_row
def b_Run_rowH:C :=
 (ye (eLc [1,2,3] (ziA (zdU (e1 (xr "places") (zf 0)) (zej (eC (.int 1))) pNo)) (zgg 3 (gCons (gName 1) (gCons (gName 2) (gCons (gName 3) gNil)))) tYes (zf 1)))
def d_Run_rowH:F:=yg 1 4 b_Run_rowH
def b_keeps:C :=
 (zE (xg (yG .seq (zf 0)) (gTup 3 (gCons (gName 3) (gCons (gName 4) (gCons (gName 5) gNil))))
 (cIf (tOr (tB (e2 oGt (e2 oAt (zf 2) (zf 4)) (e2 oAt (zf 1) (zf 3)))) (tAnd (tE (zf 5)) (tB (e2 oEq (e2 oAt (zf 2) (zf 4)) (e2 oAt (zf 1) (zf 3))))))
 (ye (eC (.bl false)))
 yh))
 (ye (eC (.bl true))))
def d_keeps:F:=yg 3 6 b_keeps
def b_Run_call:C :=
 (zE (zR (zB d_check_call_name [] (za (e1 (xr "base") (zf 0)) (za (zf 1) zj))))
 (zE (zQ (e2 oAt (e1 (xr "known") (e1 (xr "base") (zf 0))) (zf 1)) (gTup 3 (gCons (gName 3) (gCons (gName 4) (gCons (gName 5) gNil)))))
 (zE (cIf (tB (e2 oNe (zf 3) (zY "Run" "function" d_Run_function [] (zf 0) zj)))
 (xj "CannotCall" "name" (zf 1))
 yh)
 (zE (zR (zB d_check_values [] (za (zf 2) (za (e2 oAt (e1 (xr "many") (e1 (xr "base") (zf 0))) (zf 4)) zj))))
 (zE (cIf (tNot (tE (zB d_keeps [] (za (zf 5) (za (zY "Run" "held" d_Run_held [] (zf 0) zj) (za (zf 2) zj))))))
 (xj "CannotCall" "name" (zf 1))
 yh)
 (zR (eM zU (e1 (xr "places") (zf 0)) (za (eN wg (za (zf 1) (za (zf 4) (za (zf 2) zj)))) zj))))))))
def d_Run_call:F:=yg 3 6 b_Run_call
def b_Run_callN:C :=
 (zE (zR (zix (zB d_check_call_name [] (za (e1 (xr "base") (zf 0)) (za (zf 1) zj)))))
 (zE (zQ (e2 oAt (e1 (xr "known") (e1 (xr "base") (zf 0))) (zf 1)) (gTup 3 (gCons (gName 3) (gCons (gName 4) (gCons (gName 5) gNil)))))
 (zE (cIf (tB (e2 oNe (zf 3) (zix (zY "Run" "function" d_Run_function [] (zf 0) zj))))
 (xj "CannotCall" "name" (zf 1))
 yh)
 (zE (zR (zix (zB d_check_values [] (za (zf 2) (za (e2 oAt (e1 (xr "many") (e1 (xr "base") (zf 0))) (zf 4)) zj)))))
 (zE (cIf (tNot (tE (zix (zB d_keeps [] (za (zf 5) (za (zY "Run" "held" d_Run_held [] (zf 0) zj) (za (zf 2) zj)))))))
 (xj "CannotCall" "name" (zf 1))
 yh)
 (zR (eM zU (e1 (xr "places") (zf 0)) (za (eN wg (za (zf 1) (za (zf 4) (za (zf 2) zj)))) zj))))))))
def d_Run_callN:F:=yg 3 6 b_Run_callN
def b_law_refused:C :=
 (zE (zQ (eN yr (za (zY "Run" "row" d_Run_row [] (zf 0) zj) (za (zY "Run" "held" d_Run_held [] (zf 0) zj) zj))) (gName 3))
 (zE (zfV "CannotCall" "name" 4 1
 (zR (zY "Run" "call" d_Run_callN [] (zf 0) (za (zf 1) (za (zf 2) zj))))
 (e2 oEq (eN yr (za (zY "Run" "row" d_Run_rowH [] (zf 0) zj) (za (zY "Run" "held" d_Run_held [] (zf 0) zj) zj))) (zf 3)))
 (ye (eC (.bl false)))))
def d_law_refused:F:=yg 3 5 b_law_refused
def b_Run_back:C :=
 (zE (cIf (tB (e2 oEq (eN vA (za (e1 (xr "places") (zf 0)) zj)) (eC (.int 1))))
 (zfU "NothingToUndo")
 yh)
 (zR (eM zqg (e1 (xr "places") (zf 0)) zj)))
def d_Run_back:F:=yg 1 1 b_Run_back
def b_law_call_right:C :=
 (zE (zQ (zB d_law_most [] (za (zf 2) (za (zf 3) (za (zY "Run" "held" d_Run_held [] (zf 1) zj) zj)))) (gName 4))
 (zE (zQ (zY "Run" "most" d_Run_most [] (zf 1) (za (e2 oAt (zf 2) (eC (.int 0))) zj)) (gName 5))
 (zE (cIf (tB (e2 oNe (eN ji (za (zf 5) zj)) (eN ji (za (zf 4) zj))))
 (ye (eC (.bl false)))
 yh)
 (zE (zR (eM zU (zf 5) (za (eC .non) zj)))
 (zE (zQ (eLc [7] (yG .seq (zf 4)) (gName 7) tYes (eIf (tB (e1 zei (zf 7))) (e2 zgt (eC (.int 10)) (eC (.int 25))) (zf 7))) (gName 6))
 (zE (xg (yf (eC (.int 0)) (eN vA (za (zf 4) zj))) (gName 8)
 (cIf (tB (e1 zcn (e2 oAt (zf 4) (zf 8))))
 (cIf (tNot (tE (zB d_law_refused [] (za (zf 1) (za (e2 oAt (zf 2) (eC (.int 0))) (za (eN fTuple (za (e2 xH (e2 xH (zdU (zf 6) pNo (zej (zf 8))) (eN yr (za (e2 xH (e2 oAt (zf 6) (zf 8)) (eC (.int 1))) zj))) (zdU (zf 6) (zej (e2 xH (zf 8) (eC (.int 1)))) pNo)) zj)) zj))))))
 (ye (eC (.bl false)))
 yh)
 yh))
 (zE (zQ (eN fTuple (za (eLc [7] (yG .seq (zf 6)) (gName 7) tYes (zB d_law_random [] (za (zf 0) (za (e2 xH (zf 7) (eC (.int 1))) zj)))) zj)) (gName 9))
 (zE (zR (zY "Run" "call" d_Run_call [] (zf 1) (za (e2 oAt (zf 2) (eC (.int 0))) (za (zf 9) zj))))
 (zE (cIf (tOr (tB (e2 oNe (zY "Run" "held" d_Run_held [] (zf 1) zj) (zf 9))) (tB (e2 oNe (zY "Run" "function" d_Run_function [] (zf 1) zj) (e2 oAt (zf 2) (eC (.int 2))))))
 (ye (eC (.bl false)))
 yh)
 (zE (zR (zY "Run" "back" d_Run_back [] (zf 1) zj))
 (zE (zR (zY "Run" "call" d_Run_call [] (zf 1) (za (e2 oAt (zf 2) (eC (.int 0))) (za (eIf (tB (e2 oEq (zB d_law_random [] (za (zf 0) (za (eC (.int 3)) zj))) (eC (.int 0)))) (eN fTuple (za (eLc [7] (yG .seq (zf 6)) (gName 7) tYes (eN zcT (za (eN yS (za (zf 7) zj)) (za (eC (.int 20)) zj)))) zj)) (eN fTuple (za (zf 6) zj))) zj))))
 (ye (e2 oEq (e2 oAt (zY "Run" "row" d_Run_row [] (zf 1) zj) (e1 zlD (eC (.int 1)))) (e2 oAt (zf 2) (eC (.int 0))))))))))))))))
def d_law_call_right:F:=yg 4 10 b_law_call_right
def b_check_begin:C :=
 (cIf (tB (e1 zcn (zf 1)))
 (zR (zB d_check_function_name [] (za (zf 0) (za (zf 1) zj))))
 yh)
def d_check_begin:F:=yg 2 2 b_check_begin
def b_strongest:C :=
 (zE (zQ (eN (λ_=>mDT) zj) (gName 1))
 (zE (xg (yG .seq (zf 0)) (gTup 3 (gCons (gName 2) (gCons (gName 3) (gCons (gName 4) gNil))))
 (jE (zf 1) (eN wg (za (zf 2) (za (zf 3) zj))) (eOr (zdV (zf 1) (eN wg (za (zf 2) (za (zf 3) zj))) (eC (.bl false))) (zf 4))))
 (ye (zf 1))))
def d_strongest:F:=yg 1 5 b_strongest
def b_arcs_of:C :=
 (ye (eN fTuple (za (eLc [1,2] (yG .seq (eN yX (za (eLc [1,2] (yG .seq (zf 0)) (gTup 2 (gCons (gName 1) (gCons (gName 2) gNil))) tYes (eN wg (za (eN yS (za (zf 1) zj)) (za (eN yS (za (zf 2) zj)) zj)))) zj))) (gTup 2 (gCons (gName 1) (gCons (gName 2) gNil))) tYes (eN wg (za (zf 1) (za (zf 2) (za (e2 oAt (zf 0) (eN wg (za (zf 1) (za (zf 2) zj)))) zj))))) zj)))
def d_arcs_of:F:=yg 1 3 b_arcs_of
def b_table_of_call:C :=
 (zE (zQ (e2 oAt (e1 (xr "known") (zf 0)) (zf 1)) (gTup 3 (gCons (gName 2) (gCons (gName 3) (gCons (gName 4) gNil)))))
 (ye (eN wg (za (zf 2) (za (zf 3) (za (zB d_arcs_of [] (za (zB d_strongest [] (za (zf 4) zj)) zj)) zj))))))
def d_table_of_call:F:=yg 2 5 b_table_of_call
def b_joined:C :=
 (zE (zQ (eN (λ_=>mDT) zj) (gName 2))
 (zE (xg (yG .seq (e2 oAt (zf 0) (eC (.int 2)))) (gTup 3 (gCons (gName 3) (gCons (gName 4) (gCons (gName 5) gNil))))
 (xg (yG .seq (e2 oAt (zf 1) (eC (.int 2)))) (gTup 3 (gCons (gName 6) (gCons (gName 7) (gCons (gName 8) gNil))))
 (cIf (tB (e2 oEq (zf 6) (zf 4)))
 (jE (zf 2) (eN wg (za (zf 3) (za (zf 7) zj))) (eOr (zdV (zf 2) (eN wg (za (zf 3) (za (zf 7) zj))) (eC (.bl false))) (eOr (zf 5) (zf 8))))
 yh)))
 (ye (eN wg (za (e2 oAt (zf 0) (eC (.int 0))) (za (e2 oAt (zf 1) (eC (.int 1))) (za (zB d_arcs_of [] (za (zf 2) zj)) zj)))))))
def d_joined:F:=yg 2 9 b_joined
def b_tables_of:C :=
 (zE (zQ (eDc [2] (yG .seq (eN vB (za (e1 (xr "known") (zf 0)) zj))) (gName 2) tYes (zf 2) (zB d_table_of_call [] (za (zf 0) (za (zf 2) zj)))) (gName 1))
 (zE (zQ (eN (λ_=>mDN) zj) (gName 3))
 (zE (zQ (eN yr zj) (gName 4))
 (zE (xg (yG .items (zf 1)) (gTup 2 (gCons (gName 2) (gCons (gName 5) gNil)))
 (cIf (tB (e2 xJ (zf 5) (zf 3)))
 (zE (uY (zf 3) (zf 5) (eN yr (za (zf 2) zj)))
 (zR (eM zU (zf 4) (za (zf 5) zj))))
 yh))
 (zE (vq (tB (e2 oNe (zf 4) (eN yr zj)))
 (zE (zQ (eN yr zj) (gName 6))
 (zE (xg (yG .seq (zf 4)) (gName 5)
 (xg (yG .items (zf 1)) (gTup 2 (gCons (gName 2) (gCons (gName 7) gNil)))
 (cIf (tB (e2 oEq (e2 oAt (zf 5) (eC (.int 1))) (e2 oAt (zf 7) (eC (.int 0)))))
 (zE (zQ (zB d_joined [] (za (zf 5) (za (zf 7) zj))) (gName 8))
 (cIf (tB (e2 xJ (zf 8) (zf 3)))
 (zE (uY (zf 3) (zf 8) (e2 xH (e2 zlC (zf 3) (zf 5)) (eN yr (za (zf 2) zj))))
 (zR (eM zU (zf 6) (za (zf 8) zj))))
 yh))
 yh)))
 (zQ (zf 6) (gName 4)))))
 (ye (zf 3)))))))
def d_tables_of:F:=yg 1 9 b_tables_of
def b_falls_around:C :=
 (zE (zQ (zf 0) (gName 1))
 (zE (xg (yf (eC (.int 0)) (eC (.int 3))) (gName 2)
 (zE (cIf (tB (e2 oNe (eLc [3] (yG .seq (e2 oAt (zf 1) (eC (.int 2)))) (gName 3) (tAnd (tB (e2 oEq (e2 oAt (zf 3) (eC (.int 0))) (e2 oAt (zf 3) (eC (.int 1))))) (tE (e2 oAt (zf 3) (eC (.int 2))))) (zf 3)) (eN yr zj)))
 (ye (eC (.bl true)))
 yh)
 (zQ (zB d_joined [] (za (zf 1) (za (zf 0) zj))) (gName 1))))
 (ye (eC (.bl false)))))
def d_falls_around:F:=yg 1 4 b_falls_around
def b_goes_on:C :=
 (ye (ziw (e2 oEq (e2 oAt (zf 0) (eC (.int 0))) (e2 oAt (zf 0) (eC (.int 1)))) (zdW (tE (zB d_falls_around [] (za (zf 0) zj))))))
def d_goes_on:F:=yg 1 1 b_goes_on
def b_least_values:C :=
 (zE (zQ (eLc [3] (yG .seq (zf 1)) (gName 3) tYes (e2 oAt (e1 (xr "known") (zf 0)) (zf 3))) (gName 2))
 (zE (zQ (eLc [5] (yG .seq (zf 2)) (gName 5) tYes (e2 jN (eN yr (za (eC (.int 0)) zj)) (e2 oAt (e1 (xr "many") (zf 0)) (e2 oAt (zf 5) (eC (.int 0)))))) (gName 4))
 (zE (zQ (eC (.bl true)) (gName 6))
 (zE (vq (tE (zf 6))
 (zE (zQ (eC (.bl false)) (gName 6))
 (zeL (za (zf 2) zj) (gTup 2 (gCons (gName 7) (gCons (gTup 3 (gCons (gName 8) (gCons (gName 9) (gCons (gName 10) gNil)))) gNil)))
 (zE (zfT 11 12 (za (e2 oAt (zf 4) (zf 7)) (za (e2 oAt (zf 4) (e2 oMod (e2 xH (zf 7) (eC (.int 1))) (eN vA (za (zf 2) zj)))) zj)))
 (xg (yG .seq (zf 10)) (gTup 3 (gCons (gName 13) (gCons (gName 14) (gCons (gName 15) gNil))))
 (cIf (tB (e2 oLt (e2 oAt (zf 11) (zf 13)) (e2 xH (e2 oAt (zf 12) (zf 14)) (eN yS (za (zf 15) zj)))))
 (zE (jE (zf 11) (zf 13) (e2 xH (e2 oAt (zf 12) (zf 14)) (eN yS (za (zf 15) zj))))
 (zQ (eC (.bl true)) (gName 6)))
 yh))))))
 (ye (eLc [5] (yG .seq (zf 4)) (gName 5) tYes (eN fTuple (za (zf 5) zj))))))))
def d_least_values:F:=yg 2 16 b_least_values
def b_ring:C :=
 (zE (zR (zB d_check_program [] (za (zf 0) zj)))
 (zE (zR (zB d_check_begin [] (za (zf 0) (za (zf 1) zj))))
 (zE (zQ (eN yr zj) (gName 2))
 (zE (xg (iNd zcZ (zB d_tables_of [] (za (zf 0) zj))) (gTup 2 (gCons (gName 3) (gCons (gName 4) gNil)))
 (cIf (tAnd (tE (zB d_goes_on [] (za (zf 3) zj))) (tOr (tB (e1 zei (zf 1))) (tB (e2 oEq (e2 oAt (zf 3) (eC (.int 0))) (zf 1)))))
 (zR (eM zU (zf 2) (za (zf 4) zj)))
 yh))
 (zE (cIf (tB (e2 oEq (zf 2) (eN yr zj)))
 (ye (eC .non))
 yh)
 (zE (zQ (eN zdY (za (zf 2) zj)) (gName 4))
 (zE (zQ (e2 oAt (eN yX (za (eLc [5] (yG .seq (zf 2)) (gName 5) (tB (e2 oEq (eN vA (za (zf 5) zj)) (eN vA (za (zf 4) zj)))) (zf 5)) zj)) (eC (.int 0))) (gName 4))
 (ye (eN wg (za (zf 4) (za (zB d_least_values [] (za (zf 0) (za (zf 4) zj))) zj)))))))))))
def d_ring:F:=yg 2 6 b_ring
def b_Program_calls:C :=
 (ye (eLc [1,2,3,4] (yG .items (e1 (xr "known") (zf 0))) (gTup 2 (gCons (gName 1) (gCons (gTup 3 (gCons (gName 2) (gCons (gName 3) (gCons (gName 4) gNil)))) gNil))) tYes (eN wg (za (zf 1) (za (zf 2) (za (zf 3) (za (eN zab (za (zf 4) zj)) zj)))))))
def d_Program_calls:F:=yg 1 5 b_Program_calls
def b_Program_names:C :=
 (ye (eN zab (za (e1 (xr "known") (zf 0)) zj)))
def d_Program_names:F:=yg 1 1 b_Program_names
def b_law_round_right:C :=
 (zE (zQ (zB d_ring [.non] (za (zf 0) zj)) (gName 1))
 (zE (cIf (tOr (tB (e1 zei (zf 1))) (tB (e2 oGt (eN vA (za (e2 oAt (zf 1) (eC (.int 0))) zj)) (eC (.int 90)))))
 (ye (eC (.bl true)))
 yh)
 (zE (zQ (zf 1) (gTup 2 (gCons (gName 2) (gCons (gName 3) gNil))))
 (zE (zQ (zbP "Run" d_Run_init [] (za (zf 0) (za (e2 oAt (e2 oAt (zY "Program" "calls" d_Program_calls [] (zf 0) zj) (eM zcf (zY "Program" "names" d_Program_names [] (zf 0) zj) (za (e2 oAt (zf 2) (eC (.int 0))) zj))) (eC (.int 1))) (za (e2 oAt (zf 3) (eC (.int 0))) zj)))) (gName 4))
 (zE (xg (yf (eC (.int 0)) (eC (.int 3))) (gName 5)
 (zE (xg (yf (eC (.int 0)) (eN vA (za (zf 2) zj))) (gName 6)
 (zR (zY "Run" "call" d_Run_call [] (zf 4) (za (e2 oAt (zf 2) (zf 6)) (za (e2 oAt (zf 3) (e2 oMod (eN yS (za (e2 xH (zf 6) (eC (.int 1))) zj)) (eN vA (za (zf 3) zj)))) zj)))))
 (cIf (tB (e2 oNe (zY "Run" "held" d_Run_held [] (zf 4) zj) (e2 oAt (zf 3) (eC (.int 0)))))
 (ye (eC (.bl false)))
 yh)))
 (ye (e2 oEq (zY "Run" "row" d_Run_row [] (zf 4) zj) (e2 jN (zf 2) (eC (.int 3))))))))))
def d_law_round_right:F:=yg 1 7 b_law_round_right
def b_Program_functions:C :=
 (ye (e1 zaS (e1 (xr "many") (zf 0))))
def d_Program_functions:F:=yg 1 1 b_Program_functions
def b_law:C :=
 (zE (xg (yf (eC (.int 0)) (eC (.int 4))) (gName 1)
 (zE (zQ (zB d_law_generator [] (za (zf 0) (za (zf 1) zj))) (gName 2))
 (zE (zQ (zB d_law_sized [] (za (zf 2) (za (e2 xH (eC (.int 1)) (zB d_law_random [] (za (zf 2) (za (eC (.int 4)) zj)))) (za (eC (.int 6)) zj)))) (gTup 2 (gCons (gName 3) (gCons (gName 4) gNil))))
 (zE (zfT 5 6 (za (eN jh (za (zf 3) zj)) (za (zbP "Program" d_Program_init [] (za (zf 3) (za (zf 4) zj))) zj)))
 (zE (zQ (e2 oAt (zf 3) (zB d_law_random [] (za (zf 2) (za (eN vA (za (zf 3) zj)) zj)))) (gTup 2 (gCons (gName 7) (gCons (gName 8) gNil))))
 (zE (zQ (zbP "Run" d_Run_init [] (za (zf 6) (za (zf 7) (za (zB d_law_worths [] (za (zf 2) (za (zf 8) (za (e2 oAt (eN yr (za (eC (.int 13)) (za (e2 zgt (eC (.int 10)) (eC (.int 20))) zj))) (zB d_law_random [] (za (zf 2) (za (eC (.int 2)) zj)))) zj)))) zj)))) (gName 9))
 (zE (xg (yf (eC (.int 0)) (eC (.int 20))) (gName 10)
 (zE (zQ (zY "Run" "options" d_Run_options [] (zf 9) zj) (gName 11))
 (cIf (tB (e2 oNe (zf 11) (eN yr zj)))
 (zE (zQ (e2 oAt (zf 11) (zB d_law_random [] (za (zf 2) (za (eN vA (za (zf 11) zj)) zj)))) (gName 12))
 (zE (zQ (e2 oAt (eLc [14] (yG .seq (zf 4)) (gName 14) (tB (e2 oEq (e2 oAt (zf 14) (eC (.int 0))) (zf 12))) (zf 14)) (eC (.int 0))) (gName 13))
 (cIf (tNot (tE (zB d_law_call_right [] (za (zf 2) (za (zf 9) (za (zf 13) (za (zf 5) zj)))))))
 (ye (eC (.bl false)))
 yh)))
 yh)))
 (cIf (tOr (tNot (tE (zB d_law_round_right [] (za (zf 6) zj)))) (tOr (tB (e2 oNe (zY "Program" "calls" d_Program_calls [] (zf 6) zj) (zf 4))) (tB (e2 oNe (zY "Program" "functions" d_Program_functions [] (zf 6) zj) (zf 3)))))
 (ye (eC (.bl false)))
 yh))))))))
 (ye (eC (.bl true))))
def d_law:F:=yg 1 15 b_law
section
variable{P:Program}{w:World}{K:oU}{mg:Str->Option Value}{base:Heap}{cm:CM}{f:Addr}{fd:FuncData}
variable(n_len:mg "len"=none)
variable(c_d_law_cell:FnAt P w K mg base cm 1 "_law_cell" d_law_cell [[]])
variable(n_int:mg "int"=none)
variable(n_max:mg "max"=none)
variable(n_range:mg "range"=none)
variable(c_d_law_hash:FnAt P w K mg base cm 1 "_law_hash" d_law_hash [[]])
variable(c_d_law_random:FnAt P w K mg base cm 2 "_law_random" d_law_random [[]])
variable(c_d_law_title:FnAt P w K mg base cm 3 "_law_title" d_law_title [[]])
variable(c_d_law_heads:FnAt P w K mg base cm 4 "_law_heads" d_law_heads [[]])
variable(n_dict:mg "dict"=none)
variable(c_d_law_arcs:FnAt P w K mg base cm 3 "_law_arcs" d_law_arcs [[]])
variable(n_list:mg "list"=none)
variable(n_min:mg "min"=none)
variable(n_tuple:mg "tuple"=none)
variable(hw:cm.wld=some w)
variable(n_sorted:mg "sorted"=none)
variable(c_d_law_grid:FnAt P w K mg base cm 1 "_law_grid" d_law_grid [[]])
variable(c_d_law_listed:FnAt P w K mg base cm 1 "_law_listed" d_law_listed [[]])
variable(c_d_law_times:FnAt P w K mg base cm 1 "_law_times" d_law_times [[]])
variable(c_d_law_drawn:FnAt P w K mg base cm 5 "_law_drawn" d_law_drawn [[]])
variable(c_d_law_tamed:FnAt P w K mg base cm 3 "_law_tamed" d_law_tamed [[]])
variable(c_d_law_reached:FnAt P w K mg base cm 2 "_law_reached" d_law_reached [[]])
variable(n_isinstance:mg "isinstance"=none)
variable(er_InvalidList:ErrAt P w K mg base cm 1 "InvalidList" "value" [[]])
variable(n_str:mg "str"=none)
variable(g_MOST_LETTERS:GlobC K mg "MOST_LETTERS" (.int 12))
variable(g_LETTERS:GlobC K mg "LETTERS" (.str "abcdefghijklmnopqrstuvwxyz"))
variable(n_bool:mg "bool"=none)
variable(c_d_is_name:FnAt P w K mg base cm 1 "is_name" d_is_name [[]])
variable(c_d_is_whole:FnAt P w K mg base cm 1 "is_whole" d_is_whole [[]])
variable(g_MOST_MEASURES:GlobC K mg "MOST_MEASURES" (.int 3))
variable(c_d_is_arc:FnAt P w K mg base cm 2 "is_arc" d_is_arc [[]])
variable(c_d_check_list:FnAt P w K mg base cm 3 "check_list" d_check_list [[]])
variable(c_d_is_function:FnAt P w K mg base cm 2 "is_function" d_is_function [[]])
variable(er_InvalidFunction:ErrAt P w K mg base cm 1 "InvalidFunction" "value" [[]])
variable(c_d_is_call:FnAt P w K mg base cm 3 "is_call" d_is_call [[]])
variable(er_InvalidCall:ErrAt P w K mg base cm 1 "InvalidCall" "value" [[]])
variable(nf_many:FldOk K cm "many")
variable(nf_known:FldOk K cm "known")
variable(i_Program:IsCJ K cm mg "Program" ["Program"])
variable(er_InvalidProgram:ErrAt P w K mg base cm 1 "InvalidProgram" "value" [[]])
variable(er_UnknownName:ErrAt P w K mg base cm 1 "UnknownName" "name" [[]])
variable(c_d_are_values:FnAt P w K mg base cm 2 "are_values" d_are_values [[]])
variable(er_InvalidValues:ErrAt P w K mg base cm 1 "InvalidValues" "value" [[]])
variable(c_d_check_program:FnAt P w K mg base cm 3 "check_program" d_check_program [[]])
variable(c_d_check_function_name:FnAt P w K mg base cm 3 "check_function_name" d_check_function_name [[]])
variable(c_d_check_values:FnAt P w K mg base cm 3 "check_values" d_check_values [[]])
variable(nf_base:FldOk K cm "base")
variable(nf_places:FldOk K cm "places")
variable(m_d_Run_function:MtAt P w K mg base cm 1 "Run" "function" d_Run_function [[]])
variable(m_d_Run_held:MtAt P w K mg base cm 1 "Run" "held" d_Run_held [[]])
variable(m_d_Run_greatest:MtAt P w K mg base cm 2 "Run" "greatest" d_Run_greatest [[]])
variable(c_d_check_call_name:FnAt P w K mg base cm 3 "check_call_name" d_check_call_name [[]])
variable(er_CannotCall:ErrAt P w K mg base cm 1 "CannotCall" "name" [[]])
variable(c_d_keeps:FnAt P w K mg base cm 1 "keeps" d_keeps [[]])
variable(m_d_Run_row:MtAt P w K mg base cm 1 "Run" "row" d_Run_row [[]])
variable(m_d_Run_call:MtAt P w K mg base cm 4 "Run" "call" d_Run_call [[]])
variable(nf_name:FldOk K cm "name")
variable(ct_CannotCall:CatAt K cm mg "CannotCall" ["CannotCall"])
variable(ern_NothingToUndo:ErrNAt K mg cm "NothingToUndo")
variable(c_d_law_most:FnAt P w K mg base cm 1 "_law_most" d_law_most [[]])
variable(m_d_Run_most:MtAt P w K mg base cm 4 "Run" "most" d_Run_most [[]])
variable(so:SysOk K)
variable(n_repr:mg "repr"=none)
variable(c_d_law_refused:FnAt P w K mg base cm 5 "_law_refused" d_law_refused [[]])
variable(m_d_Run_back:MtAt P w K mg base cm 1 "Run" "back" d_Run_back [[]])
variable(c_d_strongest:FnAt P w K mg base cm 1 "strongest" d_strongest [[]])
variable(c_d_arcs_of:FnAt P w K mg base cm 1 "arcs_of" d_arcs_of [[]])
variable(c_d_table_of_call:FnAt P w K mg base cm 2 "table_of_call" d_table_of_call [[]])
variable(c_d_joined:FnAt P w K mg base cm 2 "joined" d_joined [[]])
variable(c_d_falls_around:FnAt P w K mg base cm 3 "falls_around" d_falls_around [[]])
variable(n_enumerate:mg "enumerate"=none)
variable(c_d_check_begin:FnAt P w K mg base cm 4 "check_begin" d_check_begin [[]])
variable(c_d_tables_of:FnAt P w K mg base cm 3 "tables_of" d_tables_of [[]])
variable(c_d_goes_on:FnAt P w K mg base cm 4 "goes_on" d_goes_on [[]])
variable(c_d_least_values:FnAt P w K mg base cm 1 "least_values" d_least_values [[]])
variable(c_d_ring:FnAt P w K mg base cm 5 "ring" d_ring [[.non]])
variable(m_d_Program_calls:MtAt P w K mg base cm 1 "Program" "calls" d_Program_calls [[]])
variable(m_d_Program_names:MtAt P w K mg base cm 1 "Program" "names" d_Program_names [[]])
variable(k_d_Run_init:MkAt P w K mg base cm 4 "Run" d_Run_init [[]])
variable(c_d_law_generator:FnAt P w K mg base cm 2 "_law_generator" d_law_generator [[]])
variable(c_d_law_sized:FnAt P w K mg base cm 6 "_law_sized" d_law_sized [[]])
variable(k_d_Program_init:MkAt P w K mg base cm 4 "Program" d_Program_init [[]])
variable(c_d_law_worths:FnAt P w K mg base cm 3 "_law_worths" d_law_worths [[]])
variable(m_d_Run_options:MtAt P w K mg base cm 3 "Run" "options" d_Run_options [[]])
variable(c_d_law_call_right:FnAt P w K mg base cm 6 "_law_call_right" d_law_call_right [[]])
variable(c_d_law_round_right:FnAt P w K mg base cm 6 "_law_round_right" d_law_round_right [[]])
variable(m_d_Program_functions:MtAt P w K mg base cm 1 "Program" "functions" d_Program_functions [[]])
include n_len in
theorem zcx(F:FunT K f fd "_law_cell" (top 44)):FnG P w K mg base 1 f fd ["_law_script","_law_index"] (spD K cm 2 d_law_cell):=by
  refine FnG.r ["_law_script","_law_index"] F λ_ _ _ _ _ _ hr tk hp hc hN hm=>?_
  exact(zp (yK (zW s_oLt (zg 1) (xP s_len n_len (zN 0 zr)))
 (zu (ym (yq hm (zg 0) (zg 1))))
 yd)
 (zu (ym zG)))
include c_d_law_cell n_int n_max in
theorem uR(F:FunT K f fd "_law_generator" (top 46)):FnG P w K mg base 2 f fd ["_law_script","_law_index"] (spD K cm 2 d_law_generator):=by
  refine FnG.r ["_law_script","_law_index","_law_seed"] F λ_ _ _ _ _ _ hr tk hp hc hN hm=>?_
  exact(zp (yC 2 hN (zL c_d_law_cell hr tk (zN 0 (zN 1 zr))))
 (zu (ym (yL (zm (wY s_oMod (yZ s_int n_int (zm (xP (s_max hc) n_max (zm (wY s_oSub (zg 2) (wY s_oPow zG zG)) (zm zG zr))) zr)) (wY s_oPow (wY s_oPow zG zG) zG)) (zm (wY s_oMod (yZ s_int n_int (zN 2 zr)) zG) (zm (wY s_oMul zG (zg 1)) zr)))))))
include n_int in
theorem zcz(F:FunT K f fd "_law_hash" (top 45)):FnG P w K mg base 1 f fd ["_law_seed","_law_index"] (spD K cm 2 d_law_hash):=by
  refine FnG.r ["_law_seed","_law_index","_law_mixed"] F λ_ _ _ _ _ _ hr tk hp hc hN hm=>?_
  exact(zp (yC 2 hN (wY s_oMod (yZ s_int n_int (zm (wY s_oAdd (wY s_oAdd (wY s_oAdd (wY s_oMul (zg 0) zG) (wY s_oMul (wY s_oMul zG (zg 1)) (zg 1))) (zg 1)) zG) zr)) zG))
 (zp (yC 2 hN (wY s_oMod (yZ s_int n_int (zm (wY s_oAdd (wY s_oMul (zg 2) (zg 2)) zG) zr)) zG))
 (zu (ym (wY s_oMod (yZ s_int n_int (zm (wY s_oMul (zg 2) zG) zr)) zG)))))
include n_int n_range c_d_law_hash in
theorem zaG(F:FunT K f fd "_law_random" (top 47)):FnG P w K mg base 2 f fd ["_law_generator_here","_law_bound"] (spD K cm 2 d_law_random):=by
  refine FnG.r ["_law_generator_here","_law_bound","_law_drawn_here","_law_turn"] F λ_ _ _ _ _ _ hr tk hp hc hN hm=>?_
  exact(zp (yK (zW s_oGt (yq hm (zg 0) zG) zG)
 (zp (yC 2 hN (wY s_oMod (yZ s_int n_int (zm (yq hm (zg 0) zG) zr)) (zg 1)))
 (zp (zcF hm (zg 0) zG (wY s_oDiv (yq hm (zg 0) zG) (zg 1)))
 (zu (ym (zg 2)))))
 yd)
 (zp (yC 2 hN zG)
 (zp (xU hp hc (yR n_range (wY s_oAdd zG (wY s_oDiv (zml (zg 1)) zG))) (zF 3 hN)
 (zp (zcF hm (zg 0) zG (wY s_oAdd (yq hm (zg 0) zG) zG))
 (zu (yC 2 hN (wY s_oAdd (wY s_oMul (zg 2) zG) (zL c_d_law_hash hr tk (zm (yq hm (zg 0) zG) (zm (yq hm (zg 0) zG) zr))))))))
 (zu (ym (wY s_oMod (yZ s_int n_int (zN 2 zr)) (zg 1)))))))
include n_range c_d_law_random in
theorem zbp(F:FunT K f fd "_law_title" (top 48)):FnG P w K mg base 3 f fd ["_law_generator_here","_law_most_here"] (spD K cm 2 d_law_title):=by
  refine FnG.r ["_law_generator_here","_law_most_here","_law_found","_law_turn"] F λ_ _ _ _ _ _ hr tk hp hc hN hm=>?_
  exact(zp (yC 2 hN zaW)
 (zp (xU hp hc (yR n_range (wY s_oAdd zG (zL c_d_law_random hr tk (zN 0 (zN 1 zr))))) (zF 3 hN)
 (zu (yC 2 hN (wY s_oAdd (zg 2) (yq hm zaW (zL c_d_law_random hr tk (zN 0 (zm zG zr))))))))
 (zu (ym (zg 2)))))
include n_range c_d_law_random c_d_law_title in
theorem zbl(F:FunT K f fd "_law_heads" (top 49)):FnG P w K mg base 4 f fd ["_law_generator_here","_law_many"] (spD K cm 2 d_law_heads):=by
  refine FnG.r ["_law_generator_here","_law_many","_law_found","_law_turn"] F λ_ _ _ _ _ _ hr tk hp hc hN hm=>?_
  exact(zp (yC 2 hN (yL zr))
 (zp (xU hp hc (yR n_range (zg 1)) (zF 3 hN)
 (zu (yN (yE (zg 2) (zm (vC (zm (wY s_oAdd (zL c_d_law_title hr tk (zN 0 (zm zG zr))) (yq hm zaW (zg 3))) (zm (zL c_d_law_random hr tk (zN 0 (zm zG zr))) zr))) zr)))))
 (zu (ym (zg 2)))))
include n_range c_d_law_random in
theorem zcw(F:FunT K f fd "_law_arcs" (top 54)):FnG P w K mg base 3 f fd ["_law_generator_here","_law_begin","_law_end","_law_dense"] (spD K cm 4 d_law_arcs):=by
  refine FnG.r ["_law_generator_here","_law_begin","_law_end","_law_dense","_law_found","_law_i","_law_j"] F λ_ _ _ _ _ _ hr tk hp hc hN hm=>?_
  exact(zp (yC 4 hN (yL zr))
 (zp (xU hp hc (yR n_range (zg 1)) (zF 5 hN)
 (zu (xU hp hc (yR n_range (zg 2)) (zF 6 hN)
 (zu (yK (zW (s_oEq hm) (zL c_d_law_random hr tk (zN 0 (zN 3 zr))) zG)
 (zu (yN (yE (zg 4) (zm (vC (zN 5 (zN 6 (zm (zda (s_oEq hm) (zL c_d_law_random hr tk (zN 0 (zm zG zr))) zG) zr)))) zr))))
 yd)))))
 (zp (yK (zcH (zcI (zW (s_oNe hm) (zg 4) (yL zr)) (zah (zW (s_oEq hm) (zL c_d_law_random hr tk (zN 0 (zm zG zr))) zG))))
 (zu (yN (yE (zg 4) (zm (wY s_oAdd (zgE (yq hm (zg 4) zG) zgG (zcE zG)) (vC (zm (zkQ (yq hm (yq hm (zg 4) zG) zG)) zr))) zr))))
 yd)
 (zu (ym (yq hm (yL (zN 4 (zm (zrs (zg 4)) zr))) (zL c_d_law_random hr tk (zN 0 (zm zG zr)))))))))
include n_len n_range c_d_law_random c_d_law_heads n_dict c_d_law_arcs in
theorem zbk(F:FunT K f fd "_law_drawn" (top 50)):FnG P w K mg base 5 f fd ["_law_generator_here","_law_many","_law_most_here"] (spD K cm 3 d_law_drawn):=by
  refine FnG.r ["_law_generator_here","_law_many","_law_most_here","_law_heads_here","_law_sizes","_law_edges","_law_turn","_law_begin","_law_end","_law_arcs_here"] F λ_ _ _ _ _ _ hr tk hp hc hN hm=>?_
  exact(zp (yC 3 hN (zL c_d_law_heads hr tk (zN 0 (zN 1 zr))))
 (zp (zkR 4 5 hc hN (zm (yZ (s_dictP hc) n_dict (zN 3 zr)) (zm (yL zr) zr)))
 (zp (xU hp hc (yR n_range (zL c_d_law_random hr tk (zN 0 (zm (wY s_oAdd (zg 2) zG) zr)))) (zF 6 hN)
 (zp (yC 7 hN (yq hm (yq hm (zg 3) (zL c_d_law_random hr tk (zN 0 (zm (xP s_len n_len (zN 3 zr)) zr)))) zG))
 (zp (yC 8 hN (yq hm (yq hm (zg 3) (zL c_d_law_random hr tk (zN 0 (zm (xP s_len n_len (zN 3 zr)) zr)))) zG))
 (zp (yC 9 hN (zL c_d_law_arcs hr tk (zN 0 (zm (yq hm (zg 4) (zg 7)) (zm (yq hm (zg 4) (zg 8)) (zm (yq hm (yL (zm zG (zm zG zr))) (zL c_d_law_random hr tk (zN 0 (zm zG zr)))) zr))))))
 (zu (yN (yE (zg 5) (zm (vC (zm (yq hm (yL (zm zaW (zm zaW (zm zaW (zm zaW (zm zaW (zm zaW (zm zaW (zm zaW (zm zaW (zm zaW zr))))))))))) (zg 6)) (zN 7 (zN 8 (zN 9 zr))))) zr))))))))
 (zu (ym (yL (zN 3 (zN 5 zr))))))))
include n_int c_d_law_random n_dict n_list n_min in
theorem zbn(F:FunT K f fd "_law_tamed" (top 55)):FnG P w K mg base 3 f fd ["_law_generator_here","_law_heads_here","_law_edges"] (spD K cm 3 d_law_tamed):=by
  refine FnG.r ["_law_generator_here","_law_heads_here","_law_edges","_law_sizes","_law_found","_law_title_here","_law_begin","_law_end","_law_arcs_here","_law_more"] F λ_ _ _ _ _ _ hr tk hp hc hN hm=>?_
  exact(zp (zkR 3 4 hc hN (zm (yZ (s_dictP hc) n_dict (zN 1 zr)) (zm (yL zr) zr)))
 (zp (xU hp hc (xN (zg 2)) (wI hc (zM (zF 5 hN) (zM (zF 6 hN) (zM (zF 7 hN) (zM (zF 8 hN) wB)))))
 (zp (yC 9 hN (yZ (s_list hc) n_list (zN 8 zr)))
 (zp (yK (zcH (zcI (zW s_oGt (xP (s_min hc) n_min (zm (yL (zm (yZ s_int n_int (zm (yq hm (zg 3) (zg 6)) zr)) (zm (yZ s_int n_int (zm (yq hm (zg 3) (zg 7)) zr)) zr))) zr)) zG) (zah (zW s_oGt (zL c_d_law_random hr tk (zN 0 (zm zG zr))) zG))))
 (zu (yC 9 hN (wY s_oAdd (zg 9) (yL (zm (vC (zm zG (zm zG (zm (zda s_oGt (zL c_d_law_random hr tk (zN 0 (zm zG zr))) zG) zr)))) zr)))))
 yd)
 (zu (yN (yE (zg 4) (zm (vC (zN 5 (zN 6 (zN 7 (zN 9 zr))))) zr)))))))
 (zu (ym (zg 4)))))
include n_int n_max in
theorem zcy(F:FunT K f fd "_law_grid" (top 51)):FnG P w K mg base 1 f fd ["_law_arcs_here"] (spD K cm 1 d_law_grid):=by
  refine FnG.r ["_law_arcs_here","_law_found","_law_i","_law_j","_law_falls"] F λ_ _ _ _ _ _ hr tk hp hc hN hm=>?_
  exact(zp (yC 1 hN (yL (zm (yL (zm zG (zm zG (zm zG zr)))) (zm (yL (zm zG (zm zG (zm zG zr)))) (zm (yL (zm zG (zm zG (zm zG zr)))) zr)))))
 (zp (xU hp hc (xN (zg 0)) (wI hc (zM (zF 2 hN) (zM (zF 3 hN) (zM (zF 4 hN) wB))))
 (zu (zcF hm (yq hm (zg 1) (zg 2)) (zg 3) (xP (s_max hc) n_max (zm (yZ s_int n_int (zm (yq hm (yq hm (zg 1) (zg 2)) (zg 3)) zr)) (zm (wY s_oAdd zG (yZ s_int n_int (zN 4 zr))) zr))))))
 (zu (ym (zg 1)))))
include n_range n_tuple in
theorem zaF(F:FunT K f fd "_law_listed" (top 53)):FnG P w K mg base 1 f fd ["_law_grid_here"] (spD K cm 1 d_law_listed):=by
  refine FnG.r ["_law_grid_here","_law_found","_law_i","_law_j"] F λ_ _ _ _ _ _ hr tk hp hc hN hm=>?_
  exact(zp (yC 1 hN (yL zr))
 (zp (xU hp hc (yR n_range zG) (zF 2 hN)
 (zu (xU hp hc (yR n_range zG) (zF 3 hN)
 (zu (yK (zW s_oGt (yq hm (yq hm (zg 0) (zg 2)) (zg 3)) zG)
 (zu (yN (yE (zg 1) (zm (vC (zN 2 (zN 3 (zm (zda (s_oEq hm) (yq hm (yq hm (zg 0) (zg 2)) (zg 3)) zG) zr)))) zr))))
 yd)))))
 (zu (ym (yZ s_tuple n_tuple (zN 1 zr))))))
include n_int n_max n_range n_min in
theorem zbo(F:FunT K f fd "_law_times" (top 52)):FnG P w K mg base 1 f fd ["_law_one","_law_other"] (spD K cm 2 d_law_times):=by
  refine FnG.r ["_law_one","_law_other","_law_found","_law_i","_law_j","_law_middle","_law_pair","_law_number"] F λ_ _ _ _ _ _ hr tk hp hc hN hm=>?_
  exact(zp (yC 2 hN (yL (zm (yL (zm zG (zm zG (zm zG zr)))) (zm (yL (zm zG (zm zG (zm zG zr)))) (zm (yL (zm zG (zm zG (zm zG zr)))) zr)))))
 (zp (xU hp hc (yR n_range zG) (zF 3 hN)
 (zu (xU hp hc (yR n_range zG) (zF 4 hN)
 (zu (xU hp hc (yR n_range zG) (zF 5 hN)
 (zp (yC 6 hN (yL (zm (yZ s_int n_int (zm (yq hm (yq hm (zg 0) (zg 3)) (zg 5)) zr)) (zm (yZ s_int n_int (zm (yq hm (yq hm (zg 1) (zg 5)) (zg 4)) zr)) zr))))
 (zu (yK (zW s_oGt (xP (s_min hc) n_min (zm (zep hc hN [("_law_number",7)] (xN (zg 6)) (λ_ _ _ _ _=>(zF 7 hN)) (λ_ _ _ _ _=>wF) (λ_ _ _ _ _=>(yZ s_int n_int (zN 7 zr))) yj) zr)) zG)
 (zu (zcF hm (yq hm (zg 2) (zg 3)) (zg 4) (xP (s_max hc) n_max (zm (yZ s_int n_int (zm (yq hm (yq hm (zg 2) (zg 3)) (zg 4)) zr)) (zm (xP (s_max hc) n_max (zm (zep hc hN [("_law_number",7)] (xN (zg 6)) (λ_ _ _ _ _=>(zF 7 hN)) (λ_ _ _ _ _=>wF) (λ_ _ _ _ _=>(yZ s_int n_int (zN 7 zr))) yj) zr)) zr)))))
 yd))))))))
 (zu (ym (zg 2)))))
include n_len hw n_sorted c_d_law_grid c_d_law_listed c_d_law_times in
theorem kW(F:FunT K f fd "_law_reached" (top 56)):FnG P w K mg base 2 f fd ["_law_edges"] (spD K cm 1 d_law_reached):=by
  refine FnG.r ["_law_edges","_law_found","_law_layer","_law_title_here","_law_begin","_law_end","_law_arcs_here","_law_key","_law_ahead","_law_grid_here","_law_more"] F λ_ _ _ _ _ _ hr tk hp hc hN hm=>?_
  exact(zp (zkR 1 2 hc hN (zm (zum hw) (zm (yL zr) zr)))
 (zp (xU hp hc (xN (xP (s_sorted hm) n_sorted (zN 0 zr))) (wI hc (zM (zF 3 hN) (zM (zF 4 hN) (zM (zF 5 hN) (zM (zF 6 hN) wB)))))
 (zp (yC 7 hN (vC (zN 4 (zN 5 (zm (zL c_d_law_listed hr tk (zm (zL c_d_law_grid hr tk (zN 6 zr)) zr)) zr)))))
 (zu (yK (zW (s_oNotInN hw hm) (zg 7) (zg 1))
 (zp (zic hw hm (zg 1) (zg 7) (yL (zN 3 zr)))
 (zu (yN (yE (zg 2) (zN 7 zr)))))
 yd))))
 (zp (zes hp (zcH (zcI (zW (s_oNe hm) (zg 2) (yL zr)) (zah (zW s_oLt (xP (s_lenN hw) n_len (zN 1 zr)) zG))))
 (zp (yC 8 hN (yL zr))
 (zp (xU hp hc (xN (zg 2)) (zF 7 hN)
 (zu (xU hp hc (xN (xP (s_sorted hm) n_sorted (zN 0 zr))) (wI hc (zM (zF 3 hN) (zM (zF 4 hN) (zM (zF 5 hN) (zM (zF 6 hN) wB)))))
 (zu (yK (zW (s_oEq hm) (yq hm (zg 7) zG) (zg 4))
 (zp (yC 9 hN (zL c_d_law_times hr tk (zm (zL c_d_law_grid hr tk (zm (yq hm (zg 7) zG) zr)) (zm (zL c_d_law_grid hr tk (zN 6 zr)) zr))))
 (zp (yC 10 hN (vC (zm (yq hm (zg 7) zG) (zN 5 (zm (zL c_d_law_listed hr tk (zN 9 zr)) zr)))))
 (zu (yK (zW (s_oNotInN hw hm) (zg 10) (zg 1))
 (zp (zic hw hm (zg 1) (zg 10) (wY s_oAdd (zrp hw hm (zg 1) (zg 7)) (yL (zN 3 zr))))
 (zu (yN (yE (zg 8) (zN 10 zr)))))
 yd))))
 yd)))))
 (zu (yC 2 hN (zg 8))))))
 (zu (ym (zqj (zW (s_oEq hm) (zg 2) (yL zr)) (zg 1) zeq))))))
include c_d_law_random c_d_law_drawn c_d_law_tamed c_d_law_reached in
theorem zbm(F:FunT K f fd "_law_sized" (top 57)):FnG P w K mg base 6 f fd ["_law_generator_here","_law_many","_law_most_here"] (spD K cm 3 d_law_sized):=by
  refine FnG.r ["_law_generator_here","_law_many","_law_most_here","_law_heads_here","_law_edges"] F λ_ _ _ _ _ _ hr tk hp hc hN hm=>?_
  exact(zp (zeo (zL c_d_law_drawn hr tk (zN 0 (zN 1 (zN 2 zr)))) (wI hc (zM (zF 3 hN) (zM (zF 4 hN) wB))))
 (zp (yK (zW s_oGt (zL c_d_law_random hr tk (zN 0 (zm zG zr))) zG)
 (zu (yC 4 hN (zL c_d_law_tamed hr tk (zN 0 (zN 3 (zN 4 zr))))))
 yd)
 (zp (zes hp (zcG (zL c_d_law_reached hr tk (zN 4 zr)))
 (zu (yC 4 hN (zgE (zg 4) (zcE zG) zgG))))
 (zu (ym (yL (zN 3 (zN 4 zr))))))))
include n_list n_isinstance er_InvalidList in
theorem zaE(F:FunT K f fd "check_list" (top 17)):FnG P w K mg base 3 f fd ["value"] (spD K cm 1 d_check_list):=by
  refine FnG.r ["value"] F λ_ _ _ _ _ _ hr tk hp hc hN hm=>?_
  exact(zu (yK (xM (yF (zjf (zg 0) n_isinstance n_list)))
 (zu (ug er_InvalidList (.head _) hr (by decide) hc tk (zg 0)))
 yd))
include n_len n_isinstance n_str g_MOST_LETTERS g_LETTERS in
theorem zdE(F:FunT K f fd "is_name" (top 16)):FnG P w K mg base 1 f fd ["value"] (spD K cm 1 d_is_name):=by
  refine FnG.r ["value","letter"] F λ_ _ _ _ _ _ hr tk hp hc hN hm=>?_
  exact(zp (yK (zcH (vQ (xM (yF (zjf (zg 0) n_isinstance n_str))) (vz (xM (zmr s_oLe s_oLe zG (xP s_len n_len (zN 0 zr)) (zhY g_MOST_LETTERS))))))
 (zu (ym zbG))
 yd)
 (zu (ym (zda (s_oEq hm) (zep hc hN [("letter",1)] (xN (zg 0)) (λ_ _ _ _ _=>(zF 1 hN)) (λ_ _ _ _ _=>(uJ (zW (s_oNotIn hm) (zg 1) (zhY g_LETTERS)))) (λ_ _ _ _ _=>(zg 1)) yj) (yL zr)))))
include n_int n_isinstance n_bool in
theorem zcv(F:FunT K f fd "is_whole" (top 15)):FnG P w K mg base 1 f fd ["value"] (spD K cm 1 d_is_whole):=by
 refine FnG.r ["value"] F λ_ _ _ _ _ _ hr tk hp hc hN hm=>?_;exact(zu (ym (zkO (zjf (zg 0) n_isinstance n_int) (zgF (zkQ (zjf (zg 0) n_isinstance n_bool))))))
include n_len n_tuple n_isinstance c_d_is_name c_d_is_whole g_MOST_MEASURES in
theorem kJ(F:FunT K f fd "is_function" (top 20)):FnG P w K mg base 2 f fd ["value"] (spD K cm 1 d_is_function):=by
  refine FnG.r ["value"] F λ_ _ _ _ _ _ hr tk hp hc hN hm=>?_
  exact(zp (yK (zcH (vQ (xM (yF (zjf (zg 0) n_isinstance n_tuple))) (vQ (zW (s_oNe hm) (xP s_len n_len (zN 0 zr)) zG) (vz (xM (yF (zL c_d_is_name hr tk (zm (yq hm (zg 0) zG) zr))))))))
 (zu (ym zbG))
 yd)
 (zu (ym (zkO (zL c_d_is_whole hr tk (zm (yq hm (zg 0) zG) zr)) (zgF (zgD s_oLe s_oLe zG (yq hm (zg 0) zG) (zhY g_MOST_MEASURES)))))))
include n_len n_tuple n_isinstance n_bool c_d_is_whole in
theorem zfr(F:FunT K f fd "is_arc" (top 18)):FnG P w K mg base 2 f fd ["value","sources","targets"] (spD K cm 3 d_is_arc):=by
  refine FnG.r ["value","sources","targets"] F λ_ _ _ _ _ _ hr tk hp hc hN hm=>?_
  exact(zp (yK (zcH (vQ (xM (yF (zjf (zg 0) n_isinstance n_tuple))) (vQ (zW (s_oNe hm) (xP s_len n_len (zN 0 zr)) zG) (vQ (xM (yF (zL c_d_is_whole hr tk (zm (yq hm (zg 0) zG) zr)))) (vz (xM (yF (zL c_d_is_whole hr tk (zm (yq hm (zg 0) zG) zr)))))))))
 (zu (ym zbG))
 yd)
 (zu (ym (zkO (zgD s_oLe s_oLt zG (yq hm (zg 0) zG) (zg 1)) (zkO (zgD s_oLe s_oLt zG (yq hm (zg 0) zG) (zg 2)) (zgF (zjf (yq hm (zg 0) zG) n_isinstance n_bool)))))))
include n_len n_list n_tuple n_isinstance c_d_is_name c_d_is_arc in
theorem zdD(F:FunT K f fd "is_call" (top 21)):FnG P w K mg base 3 f fd ["value","many"] (spD K cm 2 d_is_call):=by
  refine FnG.r ["value","many","name","source","target","arcs","arc"] F λ_ _ _ _ _ _ hr tk hp hc hN hm=>?_
  exact(zp (yK (zcH (vQ (xM (yF (zjf (zg 0) n_isinstance n_tuple))) (vQ (zW (s_oNe hm) (xP s_len n_len (zN 0 zr)) zG) (vz (zW (s_oNe hm) (zep hc hN [("name",2)] (xN (zgE (zg 0) zgG (zcE zG))) (λ_ _ _ _ _=>(zF 2 hN)) (λ_ _ _ _ _=>(uJ (xM (yF (zcC c_d_is_name hr vM (by decide) (.head _) (zN 2 zr)))))) (λ_ _ _ _ _=>(zg 2)) yj) (yL zr))))))
 (zu (ym zbG))
 yd)
 (zp (zeo (zg 0) (wI hc (zM (zF 2 hN) (zM (zF 3 hN) (zM (zF 4 hN) (zM (zF 5 hN) wB))))))
 (zp (yK (zcH (vQ (zW (s_oNotIn hm) (zg 3) (zg 1)) (vQ (zW (s_oNotIn hm) (zg 4) (zg 1)) (vz (xM (yF (zjf (zg 5) n_isinstance n_list)))))))
 (zu (ym zbG))
 yd)
 (zu (ym (zda (s_oEq hm) (zep hc hN [("arc",6)] (xN (zg 5)) (λ_ _ _ _ _=>(zF 6 hN)) (λ_ _ _ _ _=>(uJ (xM (yF (zcC c_d_is_arc hr vM (by decide) (.head _) (zN 6 (zm (yq hm (zg 1) (zg 3)) (zm (yq hm (zg 1) (zg 4)) zr)))))))) (λ_ _ _ _ _=>(zg 6)) yj) (yL zr)))))))
include n_tuple c_d_check_list c_d_is_function er_InvalidFunction c_d_is_call er_InvalidCall nf_many nf_known in
theorem zcs(F:FunS K f fd "__init__" "Program.__init__" (inClass (top 22) 0)):FnG P w K mg base 4 f fd ["self","functions","calls"] (spD K cm 3 d_Program_init):=by
  refine FnG.r ["self","functions","calls","many","function","known","call"] F λ_ _ _ _ _ _ hr tk hp hc hN hm=>?_
  exact(zp (yN (zL c_d_check_list hr tk (zN 1 zr)))
 (zp (yC 3 hN zul)
 (zp (xU hp hc (xN (zg 1)) (zF 4 hN)
 (zp (yK (zcH (vQ (xM (yF (zL c_d_is_function hr tk (zN 4 zr)))) (vz (zW (s_oIn hm) (yq hm (zg 4) zG) (zg 3)))))
 (zu (ug er_InvalidFunction (.head _) hr (by decide) hc tk (zg 4)))
 yd)
 (zu (zcF hm (zg 3) (yq hm (zg 4) zG) (yq hm (zg 4) zG)))))
 (zp (yN (zL c_d_check_list hr tk (zN 2 zr)))
 (zp (yC 5 hN zul)
 (zp (xU hp hc (xN (zg 2)) (zF 6 hN)
 (zp (yK (zcH (vQ (xM (yF (zL c_d_is_call hr tk (zN 6 (zN 3 zr))))) (vz (zW (s_oIn hm) (yq hm (zg 6) zG) (zg 5)))))
 (zu (ug er_InvalidCall (.head _) hr (by decide) hc tk (zg 6)))
 yd)
 (zu (zcF hm (zg 5) (yq hm (zg 6) zG) (vC (zm (yq hm (zg 6) zG) (zm (yq hm (zg 6) zG) (zm (yZ s_tuple n_tuple (zm (yq hm (zg 6) zG) zr)) zr))))))))
 (zp (zib nf_many (zg 0) (zg 3))
 (zu (zib nf_known (zg 0) (zg 5))))))))))
include n_range c_d_law_random n_tuple in
theorem zaH(F:FunT K f fd "_law_worths" (top 59)):FnG P w K mg base 3 f fd ["_law_generator_here","_law_many","_law_top"] (spD K cm 3 d_law_worths):=by
 refine FnG.r ["_law_generator_here","_law_many","_law_top","_law_turn"] F λ_ _ _ _ _ _ hr tk hp hc hN hm=>?_;exact(zu (ym (yZ s_tuple n_tuple (zm (zep hc hN [("_law_turn",3)] (yR n_range (zg 1)) (λ_ _ _ _ _=>(zF 3 hN)) (λ_ _ _ _ _=>wF) (λ_ _ _ _ _=>(zcC c_d_law_random hr vM (by decide) (.head _) (zN 0 (zN 2 zr)))) yj) zr))))
include n_isinstance i_Program er_InvalidProgram in
theorem uQ(F:FunT K f fd "check_program" (top 24)):FnG P w K mg base 3 f fd ["value"] (spD K cm 1 d_check_program):=by
  refine FnG.r ["value"] F λ_ _ _ _ _ _ hr tk hp hc hN hm=>?_
  exact(zu (yK (xM (yF (ztu i_Program (zg 0) n_isinstance)))
 (zu (ug er_InvalidProgram (.head _) hr (by decide) hc tk (zg 0)))
 yd))
include n_isinstance n_str nf_many er_UnknownName in
theorem wX(F:FunT K f fd "check_function_name" (top 26)):FnG P w K mg base 3 f fd ["program","name"] (spD K cm 2 d_check_function_name):=by
  refine FnG.r ["program","name"] F λ_ _ _ _ _ _ hr tk hp hc hN hm=>?_
  exact(zu (yK (zcH (vQ (xM (yF (zjf (zg 1) n_isinstance n_str))) (vz (zW (s_oNotIn hm) (zg 1) (xQ nf_many (zg 0))))))
 (zu (ug er_UnknownName (.head _) hr (by decide) hc tk (zg 1)))
 yd))
include n_len n_tuple n_isinstance c_d_is_whole in
theorem zaD(F:FunT K f fd "are_values" (top 27)):FnG P w K mg base 2 f fd ["value","many"] (spD K cm 2 d_are_values):=by
  refine FnG.r ["value","many","number"] F λ_ _ _ _ _ _ hr tk hp hc hN hm=>?_
  exact(zp (yK (zcH (vQ (xM (yF (zjf (zg 0) n_isinstance n_tuple))) (vz (zW (s_oNe hm) (xP s_len n_len (zN 0 zr)) (zg 1)))))
 (zu (ym zbG))
 yd)
 (zu (ym (zda (s_oEq hm) (zep hc hN [("number",2)] (xN (zg 0)) (λ_ _ _ _ _=>(zF 2 hN)) (λ_ _ _ _ _=>(uJ (zcH (vQ (xM (yF (zcC c_d_is_whole hr vM (by decide) (.head _) (zN 2 zr)))) (vz (zW s_oLt (zg 2) zG)))))) (λ_ _ _ _ _=>(zg 2)) yj) (yL zr)))))
include c_d_are_values er_InvalidValues in
theorem jo(F:FunT K f fd "check_values" (top 28)):FnG P w K mg base 3 f fd ["value","many"] (spD K cm 2 d_check_values):=by
  refine FnG.r ["value","many"] F λ_ _ _ _ _ _ hr tk hp hc hN hm=>?_
  exact(zu (yK (xM (yF (zL c_d_are_values hr tk (zN 0 (zN 1 zr)))))
 (zu (ug er_InvalidValues (.head _) hr (by decide) hc tk (zg 0)))
 yd))
include nf_many c_d_check_program c_d_check_function_name c_d_check_values nf_base nf_places in
theorem zgy(F:FunS K f fd "__init__" "Run.__init__" (inClass (top 31) 0)):FnG P w K mg base 4 f fd ["self","program","name","values"] (spD K cm 4 d_Run_init):=by
  refine FnG.r ["self","program","name","values"] F λ_ _ _ _ _ _ hr tk hp hc hN hm=>?_
  exact(zp (yN (zL c_d_check_program hr tk (zN 1 zr)))
 (zp (yN (zL c_d_check_function_name hr tk (zN 1 (zN 2 zr))))
 (zp (yN (zL c_d_check_values hr tk (zN 3 (zm (yq hm (xQ nf_many (zg 1)) (zg 2)) zr))))
 (zp (zib nf_base (zg 0) (zg 1))
 (zu (zib nf_places (zg 0) (yL (zm (vC (zm zeq (zN 2 (zN 3 zr)))) zr))))))))
include nf_places in
theorem zct(F:FunS K f fd "function" "Run.function" (inClass (top 31) 1)):FnG P w K mg base 1 f fd ["self"] (spD K cm 1 d_Run_function):=by
 refine FnG.r ["self"] F λ_ _ _ _ _ _ hr tk hp hc hN hm=>?_;exact(zu (ym (yq hm (yq hm (xQ nf_places (zg 0)) (zmo zG)) zG)))
include nf_places in
theorem zgx(F:FunS K f fd "held" "Run.held" (inClass (top 31) 2)):FnG P w K mg base 1 f fd ["self"] (spD K cm 1 d_Run_held):=by
 refine FnG.r ["self"] F λ_ _ _ _ _ _ hr tk hp hc hN hm=>?_;exact(zu (ym (yq hm (yq hm (xQ nf_places (zg 0)) (zmo zG)) zG)))
include n_int n_min nf_many nf_known nf_base m_d_Run_function m_d_Run_held in
theorem zcu(F:FunS K f fd "greatest" "Run.greatest" (inClass (top 31) 5)):FnG P w K mg base 2 f fd ["self","name"] (spD K cm 2 d_Run_greatest):=by
  refine FnG.r ["self","name","source","target","arcs","found","i","j","falls","most"] F λ_ _ _ _ _ _ hr tk hp hc hN hm=>?_
  exact(zp (zeo (yq hm (xQ nf_known (xQ nf_base (zg 0))) (zg 1)) (wI hc (zM (zF 2 hN) (zM (zF 3 hN) (zM (zF 4 hN) wB)))))
 (zp (yK (zW (s_oNe hm) (zg 2) (xq m_d_Run_function hr tk (by decide) (.head _) (zg 0)))
 (zu (ym zeq))
 yd)
 (zp (yC 5 hN (wY s_oMul (yL (zm zeq zr)) (yq hm (xQ nf_many (xQ nf_base (zg 0))) (zg 3))))
 (zp (xU hp hc (xN (zg 4)) (wI hc (zM (zF 6 hN) (zM (zF 7 hN) (zM (zF 8 hN) wB))))
 (zp (yC 9 hN (wY s_oSub (yq hm (xq m_d_Run_held hr tk (by decide) (.head _) (zg 0)) (zg 6)) (yZ s_int n_int (zN 8 zr))))
 (zu (zcF hm (zg 5) (zg 7) (zqj (zcG (yq hm (zg 5) (zg 7))) (zg 9) (xP (s_min hc) n_min (zm (yZ s_int n_int (zm (yq hm (zg 5) (zg 7)) zr)) (zm (yZ s_int n_int (zN 9 zr)) zr))))))))
 (zu (ym (zqj (zW (s_oNe hm) (zep hc hN [("most",9)] (xN (zg 5)) (λ_ _ _ _ _=>(zF 9 hN)) (λ_ _ _ _ _=>(uJ (zcH (zcI (zer (zg 9)) (zah (zW s_oLt (zg 9) zG)))))) (λ_ _ _ _ _=>(zg 9)) yj) (yL zr)) zeq (zg 5))))))))
include n_sorted nf_known nf_base m_d_Run_greatest in
theorem zcY(F:FunS K f fd "options" "Run.options" (inClass (top 31) 7)):FnG P w K mg base 3 f fd ["self"] (spD K cm 1 d_Run_options):=by
 refine FnG.r ["self","name"] F λ_ _ _ _ _ _ hr tk hp hc hN hm=>?_;exact(zu (ym (zep hc hN [("name",1)] (xN (xP (s_sortedD hc) n_sorted (zm (xQ nf_known (xQ nf_base (zg 0))) zr))) (λ_ _ _ _ _=>(zF 1 hN)) (λ_ _ _ _ _=>(uJ (zer (zdG m_d_Run_greatest hr vM (by decide) (.head _) (zg 0) (zN 1 zr))))) (λ_ _ _ _ _=>(zg 1)) yj)))
include n_int n_min in
theorem zcA(F:FunT K f fd "_law_most" (top 58)):FnG P w K mg base 1 f fd ["_law_edge","_law_sizes","_law_worths_here"] (spD K cm 3 d_law_most):=by
  refine FnG.r ["_law_edge","_law_sizes","_law_worths_here","_law_found","_law_i","_law_j","_law_falls","_law_top"] F λ_ _ _ _ _ _ hr tk hp hc hN hm=>?_
  exact(zp (yC 3 hN (wY s_oMul (yL (zm zeq zr)) (yq hm (zg 1) (yq hm (zg 0) zG))))
 (zp (xU hp hc (xN (yq hm (zg 0) zG)) (wI hc (zM (zF 4 hN) (zM (zF 5 hN) (zM (zF 6 hN) wB))))
 (zp (yC 7 hN (wY s_oSub (yq hm (zg 2) (zg 4)) (yZ s_int n_int (zN 6 zr))))
 (zp (yK (zW s_oLt (zg 7) zG)
 (zu (ym zeq))
 yd)
 (zu (zcF hm (zg 3) (zg 5) (zqj (zcG (yq hm (zg 3) (zg 5))) (zg 7) (xP (s_min hc) n_min (zm (yZ s_int n_int (zm (yq hm (zg 3) (zg 5)) zr)) (zm (yZ s_int n_int (zN 7 zr)) zr)))))))))
 (zu (ym (zg 3)))))
include n_isinstance n_str nf_known er_UnknownName in
theorem vW(F:FunT K f fd "check_call_name" (top 25)):FnG P w K mg base 3 f fd ["program","name"] (spD K cm 2 d_check_call_name):=by
  refine FnG.r ["program","name"] F λ_ _ _ _ _ _ hr tk hp hc hN hm=>?_
  exact(zu (yK (zcH (vQ (xM (yF (zjf (zg 1) n_isinstance n_str))) (vz (zW (s_oNotIn hm) (zg 1) (xQ nf_known (zg 0))))))
 (zu (ug er_UnknownName (.head _) hr (by decide) hc tk (zg 1)))
 yd))
include nf_base m_d_Run_greatest c_d_check_call_name er_CannotCall in
theorem zgz(F:FunS K f fd "most" "Run.most" (inClass (top 31) 6)):FnG P w K mg base 4 f fd ["self","name"] (spD K cm 2 d_Run_most):=by
  refine FnG.r ["self","name","found"] F λ_ _ _ _ _ _ hr tk hp hc hN hm=>?_
  exact(zp (yN (zL c_d_check_call_name hr tk (zm (xQ nf_base (zg 0)) (zN 1 zr))))
 (zp (yC 2 hN (zdG m_d_Run_greatest hr tk (by decide) (.head _) (zg 0) (zN 1 zr)))
 (zp (yK (zcG (zg 2))
 (zu (ug er_CannotCall (.head _) hr (by decide) hc tk (zg 1)))
 yd)
 (zu (ym (zg 2))))))
include nf_places in
theorem ziO(F:FunS K f fd "row" "Run.row" (inClass (top 31) 3)):FnG P w K mg base 1 f fd ["self"] (spD K cm 1 d_Run_row):=by
 refine FnG.r ["self","name","function","values"] F λ_ _ _ _ _ _ hr tk hp hc hN hm=>?_;exact(zu (ym (zep hc hN [("name",1),("function",2),("values",3)] (xN (zgE (xQ nf_places (zg 0)) (zcE zG) zgG)) (λ_ _ _ _ _=>(wI hc (zM (zF 1 hN) (zM (zF 2 hN) (zM (zF 3 hN) wB))))) (λ_ _ _ _ _=>wF) (λ_ _ _ _ _=>(zg 1)) (zfb (xG yj (xG yj (xG yj zaT)))))))
theorem zhU(F:FunT K f fd "keeps" (top 29)):FnG P w K mg base 1 f fd ["arcs","values","others"] (spD K cm 3 d_keeps):=by
  refine FnG.r ["arcs","values","others","i","j","falls"] F λ_ _ _ _ _ _ hr tk hp hc hN hm=>?_
  exact(zp (xU hp hc (xN (zg 0)) (wI hc (zM (zF 3 hN) (zM (zF 4 hN) (zM (zF 5 hN) wB))))
 (zu (yK (zcH (vQ (zW s_oGt (yq hm (zg 2) (zg 4)) (yq hm (zg 1) (zg 3))) (vz (zcH (zcI (yF (zg 5)) (zah (zW (s_oEq hm) (yq hm (zg 2) (zg 4)) (yq hm (zg 1) (zg 3)))))))))
 (zu (ym zbG))
 yd)))
 (zu (ym zbG)))
include nf_many nf_known c_d_check_values nf_base nf_places m_d_Run_function m_d_Run_held c_d_check_call_name er_CannotCall c_d_keeps in
theorem zgw(F:FunS K f fd "call" "Run.call" (inClass (top 31) 8)):FnG P w K mg base 4 f fd ["self","name","values"] (spD K cm 3 d_Run_call):=by
  refine FnG.r ["self","name","values","source","target","arcs"] F λ_ _ _ _ _ _ hr tk hp hc hN hm=>?_
  exact(zp (yN (zL c_d_check_call_name hr tk (zm (xQ nf_base (zg 0)) (zN 1 zr))))
 (zp (zeo (yq hm (xQ nf_known (xQ nf_base (zg 0))) (zg 1)) (wI hc (zM (zF 3 hN) (zM (zF 4 hN) (zM (zF 5 hN) wB)))))
 (zp (yK (zW (s_oNe hm) (zg 3) (xq m_d_Run_function hr tk (by decide) (.head _) (zg 0)))
 (zu (ug er_CannotCall (.head _) hr (by decide) hc tk (zg 1)))
 yd)
 (zp (yN (zL c_d_check_values hr tk (zN 2 (zm (yq hm (xQ nf_many (xQ nf_base (zg 0))) (zg 4)) zr))))
 (zp (yK (xM (yF (zL c_d_keeps hr tk (zN 5 (zm (xq m_d_Run_held hr tk (by decide) (.head _) (zg 0)) (zN 2 zr))))))
 (zu (ug er_CannotCall (.head _) hr (by decide) hc tk (zg 1)))
 yd)
 (zu (yN (yE (xQ nf_places (zg 0)) (zm (vC (zN 1 (zN 4 (zN 2 zr)))) zr)))))))))
include nf_places in
theorem zgA(F:FunS K f fd "row" "Run.row" (inClass (top 31) 3))(hb:BindD K fd ["self"] []):FnVH P w K mg base cm 1 f d_Run_rowH:=by
 have S:FnScope ["self","name","function","values"] ["self"] (defScope (inClass (top 31) 3)):=by constructor <;> first | rfl | decide +kernel
 exact FnVH.of (N:=["self","name","function","values"]) (ps:=["self"]) (b:=b_Run_rowH) F S (zdP hb) λcdv A outer s H E p hot hr =>
  (zu (ym (ztv hot S.nd [("name",1),("function",2),("values",3)] (zgE (xQ nf_places (zg 0)) (zcE zG) zgG) (λ_ _ _ _ _ hi=>(zqE hi (zM (zF 1 S.nd) (zM (zF 2 S.nd) (zM (zF 3 S.nd) wB))))) (λ_ _ _ _ _=>wF) (λ_ _ _ _ _=>(zg 1)) (zoC (xG yj (xG yj (xG yj zaT)))))))
include nf_places in
theorem zfq(F:FunS K f fd "held" "Run.held" (inClass (top 31) 2))(hb:BindD K fd ["self"] []):FnVH P w K mg base cm 1 f d_Run_held:=by
 have S:FnScope ["self"] ["self"] (defScope (inClass (top 31) 2)):=by constructor <;> first | rfl | decide +kernel
 exact FnVH.of (N:=["self"]) (ps:=["self"]) (b:=b_Run_held) F S (zdP hb) λcdv A outer s H E p hot hr =>
  (zu (ym (zro hr (zro hr (xQ nf_places (zg 0)) (zmo zG)) zG)))
include nf_many nf_known c_d_check_values nf_base nf_places m_d_Run_function m_d_Run_held c_d_check_call_name er_CannotCall c_d_keeps in
theorem zfp(F:FunS K f fd "call" "Run.call" (inClass (top 31) 8)):FnGN P w K mg base 4 f fd ["self","name","values"] (spD K cm 3 d_Run_callN):=by
  have S:FnScope ["self","name","values","source","target","arcs"] ["self","name","values"] (defScope (inClass (top 31) 8)):=by constructor <;> first | rfl | decide +kernel
  refine FnGN.of (N:=["self","name","values","source","target","arcs"]) (ps:=["self","name","values"]) (b:=b_Run_callN) F S λcdv A outer s H E hr tk hp=>?_
  exact(zp (yN (zmp (zL c_d_check_call_name hr wG (zm (xQ nf_base (zg 0)) (zN 1 zr)))))
 (zp (zeo (yq hr.room (xQ nf_known (xQ nf_base (zg 0))) (zg 1)) (wI rfl (zM (zF 3 S.nd) (zM (zF 4 S.nd) (zM (zF 5 S.nd) wB)))))
 (zp (yK (zW (s_oNe hr.room) (zg 3) (zmp (xq m_d_Run_function hr wG (by decide) (.head _) (zg 0))))
 (zu (zia er_CannotCall (.head _) hr (by decide) rfl tk (zg 1)))
 yd)
 (zp (yN (zmp (zL c_d_check_values hr wG (zN 2 (zm (yq hr.room (xQ nf_many (xQ nf_base (zg 0))) (zg 4)) zr)))))
 (zp (yK (xM (yF (zmp (zL c_d_keeps hr wG (zN 5 (zm (xq m_d_Run_held hr wG (by decide) (.head _) (zg 0)) (zN 2 zr)))))))
 (zu (zia er_CannotCall (.head _) hr (by decide) rfl tk (zg 1)))
 yd)
 (zu (yN (yE (xQ nf_places (zg 0)) (zm (vC (zN 1 (zN 4 (zN 2 zr)))) zr)))))))))
include m_d_Run_held m_d_Run_row m_d_Run_call nf_name ct_CannotCall er_CannotCall in
theorem kY(mh_row:MtAtH P w K mg base cm 1 "Run" "row" d_Run_rowH)(mh_held:MtAtH P w K mg base cm 1 "Run" "held" d_Run_held)(mn_call:MtAtN P w K mg base cm 4 "Run" "call" d_Run_callN)(F:FunT K f fd "_law_refused" (top 60)):FnG P w K mg base 5 f fd ["_law_line","_law_title_here","_law_worths_here"] (spD K cm 3 d_law_refused):=by
  refine FnG.r ["_law_line","_law_title_here","_law_worths_here","_law_kept","error"] F λ_ _ _ _ _ _ hr tk hp hc hN hm=>?_;obtain⟨C0,_,_,hC0,_⟩:=id er_CannotCall.ex
  exact(zp (yC 3 hN (yL (zm (xq m_d_Run_row hr tk (by decide) (.head _) (zg 0)) (zm (xq m_d_Run_held hr tk (by decide) (.head _) (zg 0)) zr))))
 (zp (zrt (i:=4) (j:=1) ct_CannotCall hC0 nf_name hm rfl rfl hN tk (λW pn xe tk hp=>(zu (yN (zpw mn_call hr tk (by decide) (zg 0) (zN 1 (zN 2 zr)))))) (λa pn hot=>(zgF (zda (s_oEqH (vL hr.room)) (yL (zm (zhZ mh_row (vL hr.room) hot wG (by decide) (zg 0)) (zm (zhZ mh_held (vL hr.room) hot wG (by decide) (zg 0)) zr))) (zg 3)))) (by decide))
 (zu (ym zbG))))
include n_len nf_places ern_NothingToUndo in
theorem zgv(F:FunS K f fd "back" "Run.back" (inClass (top 31) 9)):FnG P w K mg base 1 f fd ["self"] (spD K cm 1 d_Run_back):=by
  refine FnG.r ["self"] F λ_ _ _ _ _ _ hr tk hp hc hN hm=>?_
  exact(zp (yK (zW (s_oEq hm) (xP s_len n_len (zm (xQ nf_places (zg 0)) zr)) zG)
 (zu (zmq ern_NothingToUndo hc tk))
 yd)
 (zu (yN (zmn (xQ nf_places (zg 0))))))
include n_len n_int n_range c_d_law_random n_min n_tuple m_d_Run_function m_d_Run_held m_d_Run_row m_d_Run_call c_d_law_most m_d_Run_most so n_repr c_d_law_refused m_d_Run_back in
theorem uD(F:FunT K f fd "_law_call_right" (top 61)):FnG P w K mg base 6 f fd ["_law_generator_here","_law_line","_law_edge","_law_sizes"] (spD K cm 4 d_law_call_right):=by
  refine FnG.r ["_law_generator_here","_law_line","_law_edge","_law_sizes","_law_most_here","_law_told","_law_full","_law_top","_law_j","_law_low"] F λ_ _ _ _ _ _ hr tk hp hc hN hm=>?_
  exact(zp (yC 4 hN (zL c_d_law_most hr tk (zN 2 (zN 3 (zm (xq m_d_Run_held hr tk (by decide) (.head _) (zg 1)) zr)))))
 (zp (yC 5 hN (zdG m_d_Run_most hr tk (by decide) (.head _) (zg 1) (zm (yq hm (zg 2) zG) zr)))
 (zp (yK (zW (s_oNe hm) (xP (s_reprR hr so) n_repr (zN 5 zr)) (xP (s_reprR hr so) n_repr (zN 4 zr)))
 (zu (ym zbG))
 yd)
 (zp (yN (yE (zg 5) (zm zeq zr)))
 (zp (zgH hc hN 6 [("_law_top",7)] (xN (zg 4)) (λ_ _ _ _ _=>(zF 7 hN)) (λ_ _ _ _ _=>wF) (λ_ _ _ _ _=>(zqj (zcG (zg 7)) (wY s_oPow zG zG) (zg 7))) yj)
 (zp (xU hp hc (yR n_range (xP s_len n_len (zN 4 zr))) (zF 8 hN)
 (zu (yK (zer (yq hm (zg 4) (zg 8)))
 (zu (yK (xM (yF (zL c_d_law_refused hr tk (zN 1 (zm (yq hm (zg 2) zG) (zm (yZ s_tuple n_tuple (zm (wY s_oAdd (wY s_oAdd (zgE (zg 6) zgG (zcE (zg 8))) (yL (zm (wY s_oAdd (yq hm (zg 6) (zg 8)) zG) zr))) (zgE (zg 6) (zcE (wY s_oAdd (zg 8) zG)) zgG)) zr)) zr))))))
 (zu (ym zbG))
 yd))
 yd)))
 (zp (yC 9 hN (yZ s_tuple n_tuple (zm (zep hc hN [("_law_top",7)] (xN (zg 6)) (λ_ _ _ _ _=>(zF 7 hN)) (λ_ _ _ _ _=>wF) (λ_ _ _ _ _=>(zcC c_d_law_random hr vM (by decide) (.head _) (zN 0 (zm (wY s_oAdd (zg 7) zG) zr)))) yj) zr)))
 (zp (yN (zdG m_d_Run_call hr tk (by decide) (.head _) (zg 1) (zm (yq hm (zg 2) zG) (zN 9 zr))))
 (zp (yK (zcH (vQ (zW (s_oNe hm) (xq m_d_Run_held hr tk (by decide) (.head _) (zg 1)) (zg 9)) (vz (zW (s_oNe hm) (xq m_d_Run_function hr tk (by decide) (.head _) (zg 1)) (yq hm (zg 2) zG)))))
 (zu (ym zbG))
 yd)
 (zp (yN (xq m_d_Run_back hr tk (by decide) (.head _) (zg 1)))
 (zp (yN (zdG m_d_Run_call hr tk (by decide) (.head _) (zg 1) (zm (yq hm (zg 2) zG) (zm (zqj (zW (s_oEq hm) (zL c_d_law_random hr tk (zN 0 (zm zG zr))) zG) (yZ s_tuple n_tuple (zm (zep hc hN [("_law_top",7)] (xN (zg 6)) (λ_ _ _ _ _=>(zF 7 hN)) (λ_ _ _ _ _=>wF) (λ_ _ _ _ _=>(xP (s_min hc) n_min (zm (yZ s_int n_int (zN 7 zr)) (zm zG zr)))) yj) zr)) (yZ s_tuple n_tuple (zN 6 zr))) zr))))
 (zu (ym (zda (s_oEq hm) (yq hm (xq m_d_Run_row hr tk (by decide) (.head _) (zg 1)) (zmo zG)) (yq hm (zg 2) zG)))))))))))))))
include c_d_check_function_name in
theorem kE(F:FunT K f fd "check_begin" (top 40)):FnG P w K mg base 4 f fd ["program","start"] (spD K cm 2 d_check_begin):=by
  refine FnG.r ["program","start"] F λ_ _ _ _ _ _ hr tk hp hc hN hm=>?_
  exact(zu (yK (zer (zg 1))
 (zu (yN (zL c_d_check_function_name hr tk (zN 0 (zN 1 zr)))))
 yd))
theorem zbq(F:FunT K f fd "strongest" (top 23)):FnG P w K mg base 1 f fd ["arcs"] (spD K cm 1 d_strongest):=by
  refine FnG.r ["arcs","found","i","j","falls"] F λ_ _ _ _ _ _ hr tk hp hc hN hm=>?_
  exact(zp (yC 1 hN zun)
 (zp (xU hp hc (xN (zg 0)) (wI hc (zM (zF 2 hN) (zM (zF 3 hN) (zM (zF 4 hN) wB))))
 (zu (zcF hm (zg 1) (vC (zN 2 (zN 3 zr))) (ztw (znF hm (zg 1) (vC (zN 2 (zN 3 zr))) zbG) (zgF (zg 4))))))
 (zu (ym (zg 1)))))
include n_int n_tuple n_sorted in
theorem zdB(F:FunT K f fd "arcs_of" (top 33)):FnG P w K mg base 1 f fd ["found"] (spD K cm 1 d_arcs_of):=by
 refine FnG.r ["found","i","j"] F λ_ _ _ _ _ _ hr tk hp hc hN hm=>?_;exact(zu (ym (yZ s_tuple n_tuple (zm (zep hc hN [("i",1),("j",2)] (xN (xP (s_sorted hm) n_sorted (zm (zep hc hN [("i",1),("j",2)] (xN (zg 0)) (λ_ _ _ _ _=>(wI hc (zM (zF 1 hN) (zM (zF 2 hN) wB)))) (λ_ _ _ _ _=>wF) (λ_ _ _ _ _=>(vC (zm (yZ s_int n_int (zN 1 zr)) (zm (yZ s_int n_int (zN 2 zr)) zr)))) (zfb (xG yj (xG yj zaT)))) zr))) (λ_ _ _ _ _=>(wI hc (zM (zF 1 hN) (zM (zF 2 hN) wB)))) (λ_ _ _ _ _=>wF) (λ_ _ _ _ _=>(vC (zN 1 (zN 2 (zm (yq hm (zg 0) (vC (zN 1 (zN 2 zr)))) zr))))) (zfb (xG yj (xG yj zaT)))) zr))))
include nf_known c_d_strongest c_d_arcs_of in
theorem uU(F:FunT K f fd "table_of_call" (top 34)):FnG P w K mg base 2 f fd ["program","name"] (spD K cm 2 d_table_of_call):=by
  refine FnG.r ["program","name","source","target","arcs"] F λ_ _ _ _ _ _ hr tk hp hc hN hm=>?_
  exact(zp (zeo (yq hm (xQ nf_known (zg 0)) (zg 1)) (wI hc (zM (zF 2 hN) (zM (zF 3 hN) (zM (zF 4 hN) wB)))))
 (zu (ym (vC (zN 2 (zN 3 (zm (zL c_d_arcs_of hr tk (zm (zL c_d_strongest hr tk (zN 4 zr)) zr)) zr)))))))
include c_d_arcs_of in
theorem zfs(F:FunT K f fd "joined" (top 35)):FnG P w K mg base 2 f fd ["one","other"] (spD K cm 2 d_joined):=by
  refine FnG.r ["one","other","found","i","middle","falls","begin","j","more"] F λ_ _ _ _ _ _ hr tk hp hc hN hm=>?_
  exact(zp (yC 2 hN zun)
 (zp (xU hp hc (xN (yq hm (zg 0) zG)) (wI hc (zM (zF 3 hN) (zM (zF 4 hN) (zM (zF 5 hN) wB))))
 (zu (xU hp hc (xN (yq hm (zg 1) zG)) (wI hc (zM (zF 6 hN) (zM (zF 7 hN) (zM (zF 8 hN) wB))))
 (zu (yK (zW (s_oEq hm) (zg 6) (zg 4))
 (zu (zcF hm (zg 2) (vC (zN 3 (zN 7 zr))) (ztw (znF hm (zg 2) (vC (zN 3 (zN 7 zr))) zbG) (ztw (zg 5) (zgF (zg 8))))))
 yd)))))
 (zu (ym (vC (zm (yq hm (zg 0) zG) (zm (yq hm (zg 1) zG) (zm (zL c_d_arcs_of hr tk (zN 2 zr)) zr))))))))
include hw n_sorted nf_known c_d_table_of_call c_d_joined in
theorem zbr(F:FunT K f fd "tables_of" (top 38)):FnG P w K mg base 3 f fd ["program"] (spD K cm 1 d_tables_of):=by
  refine FnG.r ["program","single","name","found","layer","table","longer","more","other"] F λ_ _ _ _ _ _ hr tk hp hc hN hm=>?_
  exact(zp (zpx hc hN 1 [("name",2)] (xN (xP (s_sortedD hc) n_sorted (zm (xQ nf_known (zg 0)) zr))) (λ_ _ _ _ _=>(zF 2 hN)) (λ_ _ _ _ _=>wF) (λ_ _ _ _ _=>(zg 2)) (λ_ _ _ _ _=>(zcC c_d_table_of_call hr vM (by decide) (.head _) (zN 0 (zN 2 zr)))) yj)
 (zp (yC 3 hN (zum hw))
 (zp (yC 4 hN (yL zr))
 (zp (xU hp hc (zgj (zg 1)) (wI hc (zM (zF 2 hN) (zM (zF 5 hN) wB)))
 (zu (yK (zW (s_oNotInN hw hm) (zg 5) (zg 3))
 (zp (zic hw hm (zg 3) (zg 5) (yL (zN 2 zr)))
 (zu (yN (yE (zg 4) (zN 5 zr)))))
 yd)))
 (zp (zes hp (zW (s_oNe hm) (zg 4) (yL zr))
 (zp (yC 6 hN (yL zr))
 (zp (xU hp hc (xN (zg 4)) (zF 5 hN)
 (zu (xU hp hc (zgj (zg 1)) (wI hc (zM (zF 2 hN) (zM (zF 7 hN) wB)))
 (zu (yK (zW (s_oEq hm) (yq hm (zg 5) zG) (yq hm (zg 7) zG))
 (zp (yC 8 hN (zL c_d_joined hr tk (zN 5 (zN 7 zr))))
 (zu (yK (zW (s_oNotInN hw hm) (zg 8) (zg 3))
 (zp (zic hw hm (zg 3) (zg 8) (wY s_oAdd (zrp hw hm (zg 3) (zg 5)) (yL (zN 2 zr))))
 (zu (yN (yE (zg 6) (zN 8 zr)))))
 yd)))
 yd)))))
 (zu (yC 4 hN (zg 6))))))
 (zu (ym (zg 3))))))))
include n_range g_MOST_MEASURES c_d_joined in
theorem jr(F:FunT K f fd "falls_around" (top 36)):FnG P w K mg base 3 f fd ["table"] (spD K cm 1 d_falls_around):=by
  refine FnG.r ["table","found","turn","arc"] F λ_ _ _ _ _ _ hr tk hp hc hN hm=>?_
  exact(zp (yC 1 hN (zg 0))
 (zp (xU hp hc (yR n_range (zhY g_MOST_MEASURES)) (zF 2 hN)
 (zp (yK (zW (s_oNe hm) (zep hc hN [("arc",3)] (xN (yq hm (zg 1) zG)) (λ_ _ _ _ _=>(zF 3 hN)) (λ_ _ _ _ _=>(uJ (zcH (zcI (zW (s_oEq hm) (yq hm (zg 3) zG) (yq hm (zg 3) zG)) (zah (yF (yq hm (zg 3) zG))))))) (λ_ _ _ _ _=>(zg 3)) yj) (yL zr))
 (zu (ym zbG))
 yd)
 (zu (yC 1 hN (zL c_d_joined hr tk (zN 1 (zN 0 zr)))))))
 (zu (ym zbG))))
include c_d_falls_around in
theorem zdC(F:FunT K f fd "goes_on" (top 39)):FnG P w K mg base 4 f fd ["table"] (spD K cm 1 d_goes_on):=by
 refine FnG.r ["table"] F λ_ _ _ _ _ _ hr tk hp hc hN hm=>?_;exact(zu (ym (zkO (zda (s_oEq hm) (yq hm (zg 0) zG) (yq hm (zg 0) zG)) (zgF (zkQ (zL c_d_falls_around hr tk (zN 0 zr)))))))
include n_len n_int n_tuple nf_many nf_known n_enumerate in
theorem jt(F:FunT K f fd "least_values" (top 41)):FnG P w K mg base 1 f fd ["program","names"] (spD K cm 2 d_least_values):=by
  refine FnG.r ["program","names","rows","name","values","row","moved","place","source","target","arcs","here","behind","i","j","falls"] F λ_ _ _ _ _ _ hr tk hp hc hN hm=>?_
  exact(zp (zgH hc hN 2 [("name",3)] (xN (zg 1)) (λ_ _ _ _ _=>(zF 3 hN)) (λ_ _ _ _ _=>wF) (λ_ _ _ _ _=>(yq hm (xQ nf_known (zg 0)) (zg 3))) yj)
 (zp (zgH hc hN 4 [("row",5)] (xN (zg 2)) (λ_ _ _ _ _=>(zF 5 hN)) (λ_ _ _ _ _=>wF) (λ_ _ _ _ _=>(wY s_oMul (yL (zm zG zr)) (yq hm (xQ nf_many (zg 0)) (yq hm (zg 5) zG)))) yj)
 (zp (yC 6 hN zbG)
 (zp (zes hp (yF (zg 6))
 (zp (yC 6 hN zbG)
 (zu (zrq hp hc (zN 2 zr) n_enumerate (wI hc (zM (zF 7 hN) (zM (wI hc (zM (zF 8 hN) (zM (zF 9 hN) (zM (zF 10 hN) wB)))) wB)))
 (zp (zkR 11 12 hc hN (zm (yq hm (zg 4) (zg 7)) (zm (yq hm (zg 4) (wY s_oMod (wY s_oAdd (zg 7) zG) (xP s_len n_len (zN 2 zr)))) zr)))
 (zu (xU hp hc (xN (zg 10)) (wI hc (zM (zF 13 hN) (zM (zF 14 hN) (zM (zF 15 hN) wB))))
 (zu (yK (zW s_oLt (yq hm (zg 11) (zg 13)) (wY s_oAdd (yq hm (zg 12) (zg 14)) (yZ s_int n_int (zN 15 zr))))
 (zp (zcF hm (zg 11) (zg 13) (wY s_oAdd (yq hm (zg 12) (zg 14)) (yZ s_int n_int (zN 15 zr))))
 (zu (yC 6 hN zbG)))
 yd)))))))))
 (zu (ym (zep hc hN [("row",5)] (xN (zg 4)) (λ_ _ _ _ _=>(zF 5 hN)) (λ_ _ _ _ _=>wF) (λ_ _ _ _ _=>(yZ s_tuple n_tuple (zN 5 zr))) yj)))))))
include n_len n_min n_sorted c_d_check_program c_d_check_begin c_d_tables_of c_d_goes_on c_d_least_values in
theorem zky(F:FunD K "ring" "ring" (defArgs (top 42)) (defBody (top 42)) (defScope (top 42)) [] [("start",.non)] f fd):FnG P w K mg base 5 f fd ["program","start"] (spD K cm 2 d_ring):=by
  refine FnG.r ["program","start","rings","table","names","row"] F λ_ _ _ _ _ _ hr tk hp hc hN hm=>?_
  exact(zp (yN (zL c_d_check_program hr tk (zN 0 zr)))
 (zp (yN (zL c_d_check_begin hr tk (zN 0 (zN 1 zr))))
 (zp (yC 2 hN (yL zr))
 (zp (xU hp hc (zlU (zL c_d_tables_of hr tk (zN 0 zr))) (wI hc (zM (zF 3 hN) (zM (zF 4 hN) wB)))
 (zu (yK (zcH (zcI (yF (zL c_d_goes_on hr tk (zN 3 zr))) (zah (zcH (vQ (zcG (zg 1)) (vz (zW (s_oEq hm) (yq hm (zg 3) zG) (zg 1))))))))
 (zu (yN (yE (zg 2) (zN 4 zr))))
 yd)))
 (zp (yK (zW (s_oEq hm) (zg 2) (yL zr))
 (zu (ym zeq))
 yd)
 (zp (yC 4 hN (zrr hc (zN 2 zr) n_min n_len))
 (zp (yC 4 hN (yq hm (xP (s_sorted hm) n_sorted (zm (zep hc hN [("row",5)] (xN (zg 2)) (λ_ _ _ _ _=>(zF 5 hN)) (λ_ _ _ _ _=>(uJ (zW (s_oEq hm) (xP s_len n_len (zN 5 zr)) (xP s_len n_len (zN 4 zr))))) (λ_ _ _ _ _=>(zg 5)) yj) zr)) zG))
 (zu (ym (vC (zN 4 (zm (zL c_d_least_values hr tk (zN 0 (zN 4 zr))) zr))))))))))))
include n_list nf_known in
theorem zby(F:FunS K f fd "calls" "Program.calls" (inClass (top 22) 2)):FnG P w K mg base 1 f fd ["self"] (spD K cm 1 d_Program_calls):=by
 refine FnG.r ["self","name","source","target","arcs"] F λ_ _ _ _ _ _ hr tk hp hc hN hm=>?_;exact(zu (ym (zep hc hN [("name",1),("source",2),("target",3),("arcs",4)] (zgj (xQ nf_known (zg 0))) (λ_ _ _ _ _=>(wI hc (zM (zF 1 hN) (zM (wI hc (zM (zF 2 hN) (zM (zF 3 hN) (zM (zF 4 hN) wB)))) wB)))) (λ_ _ _ _ _=>wF) (λ_ _ _ _ _=>(vC (zN 1 (zN 2 (zN 3 (zm (yZ (s_list hc) n_list (zN 4 zr)) zr)))))) (zfb (xG yj (xG (zfb (xG yj (xG yj (xG yj zaT)))) zaT))))))
include n_list nf_known in
theorem zbz(F:FunS K f fd "names" "Program.names" (inClass (top 22) 3)):FnG P w K mg base 1 f fd ["self"] (spD K cm 1 d_Program_names):=by
 refine FnG.r ["self"] F λ_ _ _ _ _ _ hr tk hp hc hN hm=>?_;exact(zu (ym (yZ (s_list hc) n_list (zm (xQ nf_known (zg 0)) zr))))
include n_len n_int n_range m_d_Run_held m_d_Run_row m_d_Run_call c_d_ring m_d_Program_calls m_d_Program_names k_d_Run_init in
theorem vX(F:FunT K f fd "_law_round_right" (top 62)):FnG P w K mg base 6 f fd ["_law_program"] (spD K cm 1 d_law_round_right):=by
  refine FnG.r ["_law_program","_law_told","_law_titles","_law_worths_here","_law_line","_law_turn","_law_place"] F λ_ _ _ _ _ _ hr tk hp hc hN hm=>?_
  exact(zp (yC 1 hN (zL c_d_ring hr tk (zN 0 zr)))
 (zp (yK (zcH (vQ (zcG (zg 1)) (vz (zW s_oGt (xP s_len n_len (zm (yq hm (zg 1) zG) zr)) zG))))
 (zu (ym zbG))
 yd)
 (zp (zeo (zg 1) (wI hc (zM (zF 2 hN) (zM (zF 3 hN) wB))))
 (zp (yC 4 hN (zkP k_d_Run_init hr tk (by decide) (.head _) (zN 0 (zm (yq hm (yq hm (xq m_d_Program_calls hr tk (by decide) (.head _) (zg 0)) (ziQ (xq m_d_Program_names hr tk (by decide) (.head _) (zg 0)) (zm (yq hm (zg 2) zG) zr))) zG) (zm (yq hm (zg 3) zG) zr)))))
 (zp (xU hp hc (yR n_range zG) (zF 5 hN)
 (zp (xU hp hc (yR n_range (xP s_len n_len (zN 2 zr))) (zF 6 hN)
 (zu (yN (zdG m_d_Run_call hr tk (by decide) (.head _) (zg 4) (zm (yq hm (zg 2) (zg 6)) (zm (yq hm (zg 3) (wY s_oMod (yZ s_int n_int (zm (wY s_oAdd (zg 6) zG) zr)) (xP s_len n_len (zN 3 zr)))) zr))))))
 (zu (yK (zW (s_oNe hm) (xq m_d_Run_held hr tk (by decide) (.head _) (zg 4)) (yq hm (zg 3) zG))
 (zu (ym zbG))
 yd))))
 (zu (ym (zda (s_oEq hm) (xq m_d_Run_row hr tk (by decide) (.head _) (zg 4)) (wY s_oMul (zg 2) zG)))))))))
include n_list nf_many in
theorem jO(F:FunS K f fd "functions" "Program.functions" (inClass (top 22) 1)):FnG P w K mg base 1 f fd ["self"] (spD K cm 1 d_Program_functions):=by
 refine FnG.r ["self"] F λ_ _ _ _ _ _ hr tk hp hc hN hm=>?_;exact(zu (ym (zmm hc (xQ nf_many (zg 0)) n_list)))
include n_len n_range c_d_law_random n_dict m_d_Program_calls k_d_Run_init c_d_law_generator c_d_law_sized k_d_Program_init c_d_law_worths m_d_Run_options c_d_law_call_right c_d_law_round_right m_d_Program_functions in
theorem zrh(F:FunT K f fd "law" (top 63)):FnG P w K mg base 7 f fd ["_law_script"] (spD K cm 1 d_law):=by
  refine FnG.r ["_law_script","_law_index","_law_generator_here","_law_heads_here","_law_edges","_law_sizes","_law_program","_law_title_here","_law_many","_law_line","_law_turn","_law_fit","_law_name","_law_edge","_law_one"] F λ_ _ _ _ _ _ hr tk hp hc hN hm=>?_
  exact(zp (xU hp hc (yR n_range zG) (zF 1 hN)
 (zp (yC 2 hN (zL c_d_law_generator hr tk (zN 0 (zN 1 zr))))
 (zp (zeo (zL c_d_law_sized hr tk (zN 2 (zm (wY s_oAdd zG (zL c_d_law_random hr tk (zN 2 (zm zG zr)))) (zm zG zr)))) (wI hc (zM (zF 3 hN) (zM (zF 4 hN) wB))))
 (zp (zkR 5 6 hc hN (zm (yZ (s_dictP hc) n_dict (zN 3 zr)) (zm (zkP k_d_Program_init hr tk (by decide) (.head _) (zN 3 (zN 4 zr))) zr)))
 (zp (zeo (yq hm (zg 3) (zL c_d_law_random hr tk (zN 2 (zm (xP s_len n_len (zN 3 zr)) zr)))) (wI hc (zM (zF 7 hN) (zM (zF 8 hN) wB))))
 (zp (yC 9 hN (zkP k_d_Run_init hr tk (by decide) (.head _) (zN 6 (zN 7 (zm (zL c_d_law_worths hr tk (zN 2 (zN 8 (zm (yq hm (yL (zm zG (zm (wY s_oPow zG zG) zr))) (zL c_d_law_random hr tk (zN 2 (zm zG zr)))) zr)))) zr)))))
 (zp (xU hp hc (yR n_range zG) (zF 10 hN)
 (zp (yC 11 hN (xq m_d_Run_options hr tk (by decide) (.head _) (zg 9)))
 (zu (yK (zW (s_oNe hm) (zg 11) (yL zr))
 (zp (yC 12 hN (yq hm (zg 11) (zL c_d_law_random hr tk (zN 2 (zm (xP s_len n_len (zN 11 zr)) zr)))))
 (zp (yC 13 hN (yq hm (zep hc hN [("_law_one",14)] (xN (zg 4)) (λ_ _ _ _ _=>(zF 14 hN)) (λ_ _ _ _ _=>(uJ (zW (s_oEq hm) (yq hm (zg 14) zG) (zg 12)))) (λ_ _ _ _ _=>(zg 14)) yj) zG))
 (zu (yK (xM (yF (zL c_d_law_call_right hr tk (zN 2 (zN 9 (zN 13 (zN 5 zr)))))))
 (zu (ym zbG))
 yd))))
 yd))))
 (zu (yK (zcH (vQ (xM (yF (zL c_d_law_round_right hr tk (zN 6 zr)))) (vQ (zW (s_oNe hm) (xq m_d_Program_calls hr tk (by decide) (.head _) (zg 6)) (zg 4)) (vz (zW (s_oNe hm) (xq m_d_Program_functions hr tk (by decide) (.head _) (zg 6)) (zg 3))))))
 (zu (ym zbG))
 yd)))))))))
 (zu (ym zbG)))
end
theorem ztn(s:PySem.W.SharedT):ob s=hk.obs s.abs:=zpk (HandSHeadRun.getT_eq s)
def cmK(K:oU)(w:World):CM:=cm2 K ["Program","Run"] ["InvalidList","InvalidFunction","InvalidCall","InvalidProgram","UnknownName","InvalidValues","CannotCall","NothingToUndo"] w
abbrev cmq(K)(w):=cm2 K ["Program","Run"] ["InvalidList","InvalidFunction","InvalidCall","InvalidProgram","UnknownName","InvalidValues","CannotCall","NothingToUndo"] w
theorem facts{P:Program}{w:World}{K:oU}{h:Heap}{mg:Str->Option Value}{f:Addr}(X:K.In h)(G:h.Ns mainGlobals mg)(hfa:mg ("law":Str)=some (.ref f))(c:He.SaysD fa fn K)(cx:ex K=true)(ce:(ed.map λd=>ew K d.c)=ed.map EDef.val)(hmf:P.main.file=R.prog.main.file)(htop:(P.main.scope.names.lookup ("super":Str)).isSome=false) :
  ∃ fd:FuncData,(∀(s:Shared) (v:Value),BindsTo s fd ⟨[v],[]⟩ [("_law_script",v)])/\∀ base:Heap,K.In base->base.Ns mainGlobals mg->FnG P w K mg base 7 f fd ["_law_script"] (spD K (cmK K w) 1 d_law):=by
 obtain⟨cx,cs1⟩:=He.ba cx;obtain⟨cs2,cs1⟩:=He.ba cs1;obtain⟨cs3,cs4⟩:=He.ba cs1;obtain⟨cs4,cs6⟩:=He.ba cs4
 have x2:Ex2Ok ["InvalidList","InvalidFunction","InvalidCall","InvalidProgram","UnknownName","InvalidValues","CannotCall","NothingToUndo"] [("Program",["Program"]),("Run",["Run"])] [("CannotCall",["CannotCall"])] ["base","known","many","name","places"] K:=⟨cs2⟩
 have xo:ExOk ["Program","Run"] [("Program",["Program"]),("Run",["Run"])] [] ["base","known","many","name","places"] [("Run","function"),("Run","held"),("Run","greatest"),("Run","options"),("Run","most"),("Run","row"),("Run","call"),("Run","back"),("Program","calls"),("Program","names"),("Program","functions")] K:=⟨cx⟩
 obtain⟨fd_law_cell,F_law_cell⟩:=c.def_ 0 (d:=zdp) rfl;obtain⟨fd_law_generator,F_law_generator⟩:=c.def_ 1 (d:=jf) rfl;obtain⟨fd_law_hash,F_law_hash⟩:=c.def_ 2 (d:=zdr) rfl;obtain⟨fd_law_random,F_law_random⟩:=c.def_ 3 (d:=zbe) rfl;obtain⟨fd_law_title,F_law_title⟩:=c.def_ 4 (d:=zbV) rfl;obtain⟨fd_law_heads,F_law_heads⟩:=c.def_ 5 (d:=zbR) rfl;obtain⟨fd_law_arcs,F_law_arcs⟩:=c.def_ 6 (d:=zdo) rfl;obtain⟨fd_law_drawn,F_law_drawn⟩:=c.def_ 7 (d:=zbQ) rfl;obtain⟨fd_law_tamed,F_law_tamed⟩:=c.def_ 8 (d:=zbT) rfl;obtain⟨fd_law_grid,F_law_grid⟩:=c.def_ 9 (d:=zdq) rfl;obtain⟨fd_law_listed,F_law_listed⟩:=c.def_ 10 (d:=zbd) rfl;obtain⟨fd_law_times,F_law_times⟩:=c.def_ 11 (d:=zbU) rfl;obtain⟨fd_law_reached,F_law_reached⟩:=c.def_ 12 (d:=zar) rfl;obtain⟨fd_law_sized,F_law_sized⟩:=c.def_ 13 (d:=zbS) rfl;obtain⟨fd_check_list,F_check_list⟩:=c.def_ 14 (d:=zbc) rfl;obtain⟨fd_is_name,F_is_name⟩:=c.def_ 15 (d:=zeX) rfl;obtain⟨fd_is_whole,F_is_whole⟩:=c.def_ 16 (d:=zdn) rfl;obtain⟨fd_is_function,F_is_function⟩:=c.def_ 17 (d:=zaq) rfl;obtain⟨fd_is_arc,F_is_arc⟩:=c.def_ 18 (d:=zhq) rfl;obtain⟨fd_is_call,F_is_call⟩:=c.def_ 19 (d:=zeW) rfl;obtain⟨fd_Program_init,F_Program_init⟩:=c.def_ 20 (d:=jP) rfl;obtain⟨fd_law_worths,F_law_worths⟩:=c.def_ 21 (d:=zbf) rfl;obtain⟨fd_check_program,F_check_program⟩:=c.def_ 22 (d:=je) rfl;obtain⟨fd_check_function_name,F_check_function_name⟩:=c.def_ 23 (d:=vh) rfl;obtain⟨fd_are_values,F_are_values⟩:=c.def_ 24 (d:=zbb) rfl;obtain⟨fd_check_values,F_check_values⟩:=c.def_ 25 (d:=jT) rfl;obtain⟨fd_Run_init,F_Run_init⟩:=c.def_ 26 (d:=zdl) rfl;obtain⟨fd_Run_function,F_Run_function⟩:=c.def_ 27 (d:=jQ) rfl;obtain⟨fd_Run_held,F_Run_held⟩:=c.def_ 28 (d:=zdk) rfl;obtain⟨fd_Run_greatest,F_Run_greatest⟩:=c.def_ 29 (d:=jR) rfl;obtain⟨fd_Run_options,F_Run_options⟩:=c.def_ 30 (d:=zao) rfl;obtain⟨fd_law_most,F_law_most⟩:=c.def_ 31 (d:=zds) rfl;obtain⟨fd_check_call_name,F_check_call_name⟩:=c.def_ 32 (d:=uw) rfl;obtain⟨fd_Run_most,F_Run_most⟩:=c.def_ 33 (d:=zdm) rfl;obtain⟨fd_Run_row,F_Run_row⟩:=c.def_ 34 (d:=zeT) rfl;obtain⟨fd_keeps,F_keeps⟩:=c.def_ 35 (d:=zjz) rfl;obtain⟨fd_Run_call,F_Run_call⟩:=c.def_ 36 (d:=zdj) rfl;obtain⟨fd_law_refused,F_law_refused⟩:=c.def_ 37 (d:=zas) rfl;obtain⟨fd_Run_back,F_Run_back⟩:=c.def_ 38 (d:=zdi) rfl;obtain⟨fd_law_call_right,F_law_call_right⟩:=c.def_ 39 (d:=uN) rfl;obtain⟨fd_check_begin,F_check_begin⟩:=c.def_ 40 (d:=zap) rfl;obtain⟨fd_strongest,F_strongest⟩:=c.def_ 41 (d:=zbW) rfl;obtain⟨fd_arcs_of,F_arcs_of⟩:=c.def_ 42 (d:=zeU) rfl;obtain⟨fd_table_of_call,F_table_of_call⟩:=c.def_ 43 (d:=jg) rfl;obtain⟨fd_joined,F_joined⟩:=c.def_ 44 (d:=zhr) rfl;obtain⟨fd_tables_of,F_tables_of⟩:=c.def_ 45 (d:=zbX) rfl;obtain⟨fd_falls_around,F_falls_around⟩:=c.def_ 46 (d:=jU) rfl;obtain⟨fd_goes_on,F_goes_on⟩:=c.def_ 47 (d:=zeV) rfl;obtain⟨fd_least_values,F_least_values⟩:=c.def_ 48 (d:=jV) rfl;obtain⟨fd_ring,F_ring⟩:=c.def_ 49 (d:=znp) rfl;obtain⟨fd_Program_calls,F_Program_calls⟩:=c.def_ 50 (d:=jc) rfl;obtain⟨fd_Program_names,F_Program_names⟩:=c.def_ 51 (d:=jd) rfl;obtain⟨fd_law_round_right,F_law_round_right⟩:=c.def_ 52 (d:=ux) rfl;obtain⟨fd_Program_functions,F_Program_functions⟩:=c.def_ 53 (d:=vI) rfl;obtain⟨fd_law,F_law⟩:=c.def_ 54 (d:=zqw) rfl;have n_len:=He.free_ok X G (c.fact 0 (f:=.free "len") rfl);have n_int:=He.free_ok X G (c.fact 1 (f:=.free "int") rfl);have n_max:=He.free_ok X G (c.fact 2 (f:=.free "max") rfl);have n_range:=He.free_ok X G (c.fact 3 (f:=.free "range") rfl);have n_dict:=He.free_ok X G (c.fact 4 (f:=.free "dict") rfl);have n_list:=He.free_ok X G (c.fact 5 (f:=.free "list") rfl);have n_min:=He.free_ok X G (c.fact 6 (f:=.free "min") rfl);have n_tuple:=He.free_ok X G (c.fact 7 (f:=.free "tuple") rfl);have n_sorted:=He.free_ok X G (c.fact 8 (f:=.free "sorted") rfl);have n_isinstance:=He.free_ok X G (c.fact 9 (f:=.free "isinstance") rfl);have n_str:=He.free_ok X G (c.fact 10 (f:=.free "str") rfl);have n_bool:=He.free_ok X G (c.fact 11 (f:=.free "bool") rfl);have n_repr:=He.free_ok X G (c.fact 12 (f:=.free "repr") rfl);have n_enumerate:=He.free_ok X G (c.fact 13 (f:=.free "enumerate") rfl);have g_MOST_LETTERS:GlobC K mg "MOST_LETTERS" (.int 12):=zhA (He.int_ok X G (c.fact 14 (f:=.int "MOST_LETTERS" (12)) rfl));have g_LETTERS:GlobC K mg "LETTERS" (.str "abcdefghijklmnopqrstuvwxyz"):=zlQ (He.str_ok X G (c.fact 15 (f:=.str "LETTERS" "abcdefghijklmnopqrstuvwxyz") rfl));have g_MOST_MEASURES:GlobC K mg "MOST_MEASURES" (.int 3):=zhA (He.int_ok X G (c.fact 16 (f:=.int "MOST_MEASURES" (3)) rfl));have nf_base:FldOk K (cmq K w) "base":=zqD x2 (by decide) (xo.fld (by decide));have nf_known:FldOk K (cmq K w) "known":=zqD x2 (by decide) (xo.fld (by decide));have nf_many:FldOk K (cmq K w) "many":=zqD x2 (by decide) (xo.fld (by decide));have nf_name:FldOk K (cmq K w) "name":=zqD x2 (by decide) (xo.fld (by decide));have nf_places:FldOk K (cmq K w) "places":=zqD x2 (by decide) (xo.fld (by decide));have i_Program:IsCJ K (cmq K w) mg "Program" ["Program"]:=is2 x2 X G (by decide) (xo.is X G (by decide));have i_Run:IsCJ K (cmq K w) mg "Run" ["Run"]:=is2 x2 X G (by decide) (xo.is X G (by decide));have ct_CannotCall:CatAt K (cmq K w) mg "CannotCall" ["CannotCall"]:=zuF x2 X G (by decide);have so:SysOk K:=zpS cs4;have hw:(cmq K w).wld=some w:=rfl;have n_super:=He.free_ok X G (c.fact 17 (f:=.free "super") rfl);have el:=hfa.symm.trans (He.glo_ok X G (c.fact 59 (f:=.glo "law") rfl));cases el
 have bl:=FunD.bindsA (ps:=["_law_script"]) F_law λ_ _ _ _ _ _ us hl=>match us,hl with | [_],_=>rfl
 refine⟨fd_law,λs v=>bl s [v] rfl,λbase _ _=>?_⟩;have er_InvalidList:ErrAt P w K mg base (cmq K w) 1 "InvalidList" "value" [[]]:=zox (d:=jX) 0 X G ce cs3 hmf htop n_super;have er_InvalidFunction:ErrAt P w K mg base (cmq K w) 1 "InvalidFunction" "value" [[]]:=zox (d:=vR) 1 X G ce cs3 hmf htop n_super;have er_InvalidCall:ErrAt P w K mg base (cmq K w) 1 "InvalidCall" "value" [[]]:=zox (d:=jW) 2 X G ce cs3 hmf htop n_super;have er_InvalidProgram:ErrAt P w K mg base (cmq K w) 1 "InvalidProgram" "value" [[]]:=zox (d:=uz) 3 X G ce cs3 hmf htop n_super;have er_UnknownName:ErrAt P w K mg base (cmq K w) 1 "UnknownName" "name" [[]]:=zox (d:=jY) 4 X G ce cs3 hmf htop n_super;have er_InvalidValues:ErrAt P w K mg base (cmq K w) 1 "InvalidValues" "value" [[]]:=zox (d:=uO) 5 X G ce cs3 hmf htop n_super;have er_CannotCall:ErrAt P w K mg base (cmq K w) 1 "CannotCall" "name" [[]]:=zox (d:=zat) 6 X G ce cs3 hmf htop n_super;have ern_NothingToUndo:ErrNAt K mg (cmq K w) "NothingToUndo":=zow X G (zni (by decide)) (zng cs6 0);have c_d_law_cell:=fnA F_law_cell X G c 18 (zcx (P:=P) (w:=w) (base:=base) (cm:=(cmq K w)) n_len F_law_cell);have c_d_law_generator:=fnA F_law_generator X G c 19 (uR c_d_law_cell n_int n_max F_law_generator);have c_d_law_hash:=fnA F_law_hash X G c 20 (zcz (P:=P) (w:=w) (base:=base) (cm:=(cmq K w)) n_int F_law_hash);have c_d_law_random:=fnA F_law_random X G c 21 (zaG n_int n_range c_d_law_hash F_law_random);have c_d_law_title:=fnA F_law_title X G c 22 (zbp n_range c_d_law_random F_law_title);have c_d_law_heads:=fnA F_law_heads X G c 23 (zbl n_range c_d_law_random c_d_law_title F_law_heads);have c_d_law_arcs:=fnA F_law_arcs X G c 24 (zcw n_range c_d_law_random F_law_arcs);have c_d_law_drawn:=fnA F_law_drawn X G c 25 (zbk n_len n_range c_d_law_random c_d_law_heads n_dict c_d_law_arcs F_law_drawn);have c_d_law_tamed:=fnA F_law_tamed X G c 26 (zbn n_int c_d_law_random n_dict n_list n_min F_law_tamed);have c_d_law_grid:=fnA F_law_grid X G c 27 (zcy (P:=P) (w:=w) (base:=base) (cm:=(cmq K w)) n_int n_max F_law_grid);have c_d_law_listed:=fnA F_law_listed X G c 28 (zaF (P:=P) (w:=w) (base:=base) (cm:=(cmq K w)) n_range n_tuple F_law_listed);have c_d_law_times:=fnA F_law_times X G c 29 (zbo (P:=P) (w:=w) (base:=base) (cm:=(cmq K w)) n_int n_max n_range n_min F_law_times);have c_d_law_reached:=fnA F_law_reached X G c 30 (kW n_len hw n_sorted c_d_law_grid c_d_law_listed c_d_law_times F_law_reached);have c_d_law_sized:=fnA F_law_sized X G c 31 (zbm c_d_law_random c_d_law_drawn c_d_law_tamed c_d_law_reached F_law_sized);have c_d_check_list:=fnA F_check_list X G c 32 (zaE n_list n_isinstance er_InvalidList F_check_list);have c_d_is_name:=fnA F_is_name X G c 33 (zdE (P:=P) (w:=w) (base:=base) (cm:=(cmq K w)) n_len n_isinstance n_str g_MOST_LETTERS g_LETTERS F_is_name);have c_d_is_whole:=fnA F_is_whole X G c 34 (zcv (P:=P) (w:=w) (base:=base) (cm:=(cmq K w)) n_int n_isinstance n_bool F_is_whole);have c_d_is_function:=fnA F_is_function X G c 35 (kJ n_len n_tuple n_isinstance c_d_is_name c_d_is_whole g_MOST_MEASURES F_is_function);have c_d_is_arc:=fnA F_is_arc X G c 36 (zfr n_len n_tuple n_isinstance n_bool c_d_is_whole F_is_arc);have c_d_is_call:=fnA F_is_call X G c 37 (zdD n_len n_list n_tuple n_isinstance c_d_is_name c_d_is_arc F_is_call);have o_d_Program_init:=zcs (P:=P) (w:=w) (mg:=mg) (base:=base) (cm:=(cmq K w)) n_tuple c_d_check_list c_d_is_function er_InvalidFunction c_d_is_call er_InvalidCall nf_many nf_known F_Program_init;have k_d_Program_init:MkAt P w K mg base (cmq K w) 4 "Program" d_Program_init [[]]:=zqY xo X G (xY (by decide)) o_d_Program_init (all_cons (yV F_Program_init λ_ _ _ _ _ _ us hl=>match us,hl with | [_,_,_],_=>rfl) all_nil) (by decide);have c_d_law_worths:=fnA F_law_worths X G c 38 (zaH n_range c_d_law_random n_tuple F_law_worths);have c_d_check_program:=fnA F_check_program X G c 39 (uQ n_isinstance i_Program er_InvalidProgram F_check_program);have c_d_check_function_name:=fnA F_check_function_name X G c 40 (wX n_isinstance n_str nf_many er_UnknownName F_check_function_name);have c_d_are_values:=fnA F_are_values X G c 41 (zaD n_len n_tuple n_isinstance c_d_is_whole F_are_values);have c_d_check_values:=fnA F_check_values X G c 42 (jo c_d_are_values er_InvalidValues F_check_values);have o_d_Run_init:=zgy (P:=P) (w:=w) (mg:=mg) (base:=base) (cm:=(cmq K w)) nf_many c_d_check_program c_d_check_function_name c_d_check_values nf_base nf_places F_Run_init;have k_d_Run_init:MkAt P w K mg base (cmq K w) 4 "Run" d_Run_init [[]]:=zqY xo X G (xY (by decide)) o_d_Run_init (all_cons (yV F_Run_init λ_ _ _ _ _ _ us hl=>match us,hl with | [_,_,_,_],_=>rfl) all_nil) (by decide);have o_d_Run_function:=zct (P:=P) (w:=w) (mg:=mg) (base:=base) (cm:=(cmq K w)) nf_places F_Run_function;have m_d_Run_function:MtAt P w K mg base (cmq K w) 1 "Run" "function" d_Run_function [[]]:=zck xo (xY (by decide)) o_d_Run_function (all_cons (yV F_Run_function λ_ _ _ _ _ _ us hl=>match us,hl with | [_],_=>rfl) all_nil) (by decide) (by decide);have o_d_Run_held:=zgx (P:=P) (w:=w) (mg:=mg) (base:=base) (cm:=(cmq K w)) nf_places F_Run_held;have m_d_Run_held:MtAt P w K mg base (cmq K w) 1 "Run" "held" d_Run_held [[]]:=zck xo (xY (by decide)) o_d_Run_held (all_cons (yV F_Run_held λ_ _ _ _ _ _ us hl=>match us,hl with | [_],_=>rfl) all_nil) (by decide) (by decide);have o_d_Run_greatest:=zcu (P:=P) (w:=w) (mg:=mg) (base:=base) (cm:=(cmq K w)) n_int n_min nf_many nf_known nf_base m_d_Run_function m_d_Run_held F_Run_greatest;have m_d_Run_greatest:MtAt P w K mg base (cmq K w) 2 "Run" "greatest" d_Run_greatest [[]]:=zck xo (xY (by decide)) o_d_Run_greatest (all_cons (yV F_Run_greatest λ_ _ _ _ _ _ us hl=>match us,hl with | [_,_],_=>rfl) all_nil) (by decide) (by decide);have o_d_Run_options:=zcY (P:=P) (w:=w) (mg:=mg) (base:=base) (cm:=(cmq K w)) n_sorted nf_known nf_base m_d_Run_greatest F_Run_options;have m_d_Run_options:MtAt P w K mg base (cmq K w) 3 "Run" "options" d_Run_options [[]]:=zck xo (xY (by decide)) o_d_Run_options (all_cons (yV F_Run_options λ_ _ _ _ _ _ us hl=>match us,hl with | [_],_=>rfl) all_nil) (by decide) (by decide);have c_d_law_most:=fnA F_law_most X G c 43 (zcA (P:=P) (w:=w) (base:=base) (cm:=(cmq K w)) n_int n_min F_law_most);have c_d_check_call_name:=fnA F_check_call_name X G c 44 (vW n_isinstance n_str nf_known er_UnknownName F_check_call_name);have o_d_Run_most:=zgz (P:=P) (w:=w) (mg:=mg) (base:=base) (cm:=(cmq K w)) nf_base m_d_Run_greatest c_d_check_call_name er_CannotCall F_Run_most;have m_d_Run_most:MtAt P w K mg base (cmq K w) 4 "Run" "most" d_Run_most [[]]:=zck xo (xY (by decide)) o_d_Run_most (all_cons (yV F_Run_most λ_ _ _ _ _ _ us hl=>match us,hl with | [_,_],_=>rfl) all_nil) (by decide) (by decide);have o_d_Run_row:=ziO (P:=P) (w:=w) (mg:=mg) (base:=base) (cm:=(cmq K w)) nf_places F_Run_row;have m_d_Run_row:MtAt P w K mg base (cmq K w) 1 "Run" "row" d_Run_row [[]]:=zck xo (xY (by decide)) o_d_Run_row (all_cons (yV F_Run_row λ_ _ _ _ _ _ us hl=>match us,hl with | [_],_=>rfl) all_nil) (by decide) (by decide);have c_d_keeps:=fnA F_keeps X G c 45 (zhU (P:=P) (w:=w) (base:=base) (cm:=(cmq K w))  F_keeps);have o_d_Run_call:=zgw (P:=P) (w:=w) (mg:=mg) (base:=base) (cm:=(cmq K w)) nf_many nf_known c_d_check_values nf_base nf_places m_d_Run_function m_d_Run_held c_d_check_call_name er_CannotCall c_d_keeps F_Run_call;have m_d_Run_call:MtAt P w K mg base (cmq K w) 4 "Run" "call" d_Run_call [[]]:=zck xo (xY (by decide)) o_d_Run_call (all_cons (yV F_Run_call λ_ _ _ _ _ _ us hl=>match us,hl with | [_,_,_],_=>rfl) all_nil) (by decide) (by decide);have mh_row:MtAtH P w K mg base (cmq K w) 1 "Run" "row" d_Run_rowH:=znx xo (xY (by decide)) (zgA nf_places F_Run_row (yV F_Run_row λ_ _ _ _ _ _ us hl=>match us,hl with | [_],_=>rfl)) (by decide) (by decide);have mh_held:MtAtH P w K mg base (cmq K w) 1 "Run" "held" d_Run_held:=znx xo (xY (by decide)) (zfq nf_places F_Run_held (yV F_Run_held λ_ _ _ _ _ _ us hl=>match us,hl with | [_],_=>rfl)) (by decide) (by decide);have mn_call:MtAtN P w K mg base (cmq K w) 4 "Run" "call" d_Run_callN:=zra xo (xY (by decide)) (zfp nf_many nf_known c_d_check_values nf_base nf_places m_d_Run_function m_d_Run_held c_d_check_call_name er_CannotCall c_d_keeps F_Run_call) (yV F_Run_call λ_ _ _ _ _ _ us hl=>match us,hl with | [_,_,_],_=>rfl) (by decide) (by decide);have c_d_law_refused:=fnA F_law_refused X G c 46 (kY m_d_Run_held er_CannotCall m_d_Run_row m_d_Run_call nf_name ct_CannotCall mh_row mh_held mn_call F_law_refused);have o_d_Run_back:=zgv (P:=P) (w:=w) (mg:=mg) (base:=base) (cm:=(cmq K w)) n_len nf_places ern_NothingToUndo F_Run_back;have m_d_Run_back:MtAt P w K mg base (cmq K w) 1 "Run" "back" d_Run_back [[]]:=zck xo (xY (by decide)) o_d_Run_back (all_cons (yV F_Run_back λ_ _ _ _ _ _ us hl=>match us,hl with | [_],_=>rfl) all_nil) (by decide) (by decide);have c_d_law_call_right:=fnA F_law_call_right X G c 47 (uD n_len n_int n_range c_d_law_random n_min n_tuple m_d_Run_function m_d_Run_held m_d_Run_row m_d_Run_call c_d_law_most m_d_Run_most so n_repr c_d_law_refused m_d_Run_back F_law_call_right);have c_d_check_begin:=fnA F_check_begin X G c 48 (kE c_d_check_function_name F_check_begin);have c_d_strongest:=fnA F_strongest X G c 49 (zbq (P:=P) (w:=w) (base:=base) (cm:=(cmq K w))  F_strongest);have c_d_arcs_of:=fnA F_arcs_of X G c 50 (zdB (P:=P) (w:=w) (base:=base) (cm:=(cmq K w)) n_int n_tuple n_sorted F_arcs_of);have c_d_table_of_call:=fnA F_table_of_call X G c 51 (uU nf_known c_d_strongest c_d_arcs_of F_table_of_call);have c_d_joined:=fnA F_joined X G c 52 (zfs c_d_arcs_of F_joined);have c_d_tables_of:=fnA F_tables_of X G c 53 (zbr hw n_sorted nf_known c_d_table_of_call c_d_joined F_tables_of);have c_d_falls_around:=fnA F_falls_around X G c 54 (jr n_range g_MOST_MEASURES c_d_joined F_falls_around);have c_d_goes_on:=fnA F_goes_on X G c 55 (zdC c_d_falls_around F_goes_on);have c_d_least_values:=fnA F_least_values X G c 56 (jt (P:=P) (w:=w) (base:=base) (cm:=(cmq K w)) n_len n_int n_tuple nf_many nf_known n_enumerate F_least_values);have c_d_ring:FnAt P w K mg base (cmq K w) 5 "ring" d_ring [[.non]]:=fnAt_of (ps:=["program","start"]) (zky n_len n_min n_sorted c_d_check_program c_d_check_begin c_d_tables_of c_d_goes_on c_d_least_values F_ring) (He.glo_ok X G (c.fact 57 (f:=.glo "ring") rfl)) F_ring.kp (all_cons (zoi (kws:=[("start",.non)]) F_ring 1 (by intro z;cases z) rfl (λ_ _ _ _ _ _ us ks hl hi=>match us,ks,hl,hi with | [_],[_],_,_=>⟨_,_,_,_,_,_,rfl,rfl,rfl⟩) (λ_ _=>by simp[RVs,RV])) all_nil);have o_d_Program_calls:=zby (P:=P) (w:=w) (mg:=mg) (base:=base) (cm:=(cmq K w)) n_list nf_known F_Program_calls;have m_d_Program_calls:MtAt P w K mg base (cmq K w) 1 "Program" "calls" d_Program_calls [[]]:=zck xo (xY (by decide)) o_d_Program_calls (all_cons (yV F_Program_calls λ_ _ _ _ _ _ us hl=>match us,hl with | [_],_=>rfl) all_nil) (by decide) (by decide);have o_d_Program_names:=zbz (P:=P) (w:=w) (mg:=mg) (base:=base) (cm:=(cmq K w)) n_list nf_known F_Program_names;have m_d_Program_names:MtAt P w K mg base (cmq K w) 1 "Program" "names" d_Program_names [[]]:=zck xo (xY (by decide)) o_d_Program_names (all_cons (yV F_Program_names λ_ _ _ _ _ _ us hl=>match us,hl with | [_],_=>rfl) all_nil) (by decide) (by decide);have c_d_law_round_right:=fnA F_law_round_right X G c 58 (vX n_len n_int n_range m_d_Run_held m_d_Run_row m_d_Run_call c_d_ring m_d_Program_calls m_d_Program_names k_d_Run_init F_law_round_right);have o_d_Program_functions:=jO (P:=P) (w:=w) (mg:=mg) (base:=base) (cm:=(cmq K w)) n_list nf_many F_Program_functions;have m_d_Program_functions:MtAt P w K mg base (cmq K w) 1 "Program" "functions" d_Program_functions [[]]:=zck xo (xY (by decide)) o_d_Program_functions (all_cons (yV F_Program_functions λ_ _ _ _ _ _ us hl=>match us,hl with | [_],_=>rfl) all_nil) (by decide) (by decide);exact zrh n_len n_range c_d_law_random n_dict m_d_Program_calls k_d_Run_init c_d_law_generator c_d_law_sized k_d_Program_init c_d_law_worths m_d_Run_options c_d_law_call_right c_d_law_round_right m_d_Program_functions F_law
end
end Law_k86
open Law_k86 (b_Program_calls b_Program_functions b_Program_names b_Run_back b_Run_function b_Run_greatest b_Run_held b_Run_most b_Run_options b_Run_row b_Run_rowH b_check_begin b_check_call_name b_check_function_name b_check_list b_check_program b_keeps b_law_most b_law_times b_least_values b_strongest d_Program_calls d_Program_functions d_Program_names d_Run_back d_Run_function d_Run_greatest d_Run_held d_Run_most d_Run_options d_Run_row d_Run_rowH d_check_begin d_check_call_name d_check_function_name d_check_list d_check_program d_keeps d_law_most d_law_times d_least_values d_strongest)
namespace Fc
open PySem
section
variable{s:S}{σ:Env}{X:Xc}{Q:D->S->Prop}
@[simp ↓] theorem zuY{x y:D}:wE (zlC x y s) Q X↔onD (jm s x y) λd=>Q d s:=by
 with_unfolding_all
  unfold zlC;rw[znY]
  cases h:jm s x y with
  | none=>simp[h,onD]
  | some o=>cases o <;> simp[h,onD]
@[simp ↓] theorem zsF{x y:D}:wE (xJ y x s) Q X↔onO (jm s x y) λo=>Q (.bl (!o.isSome)) s:=by
 with_unfolding_all
  unfold xJ;rw[znY];cases h:jm s x y <;> simp[h]
@[simp ↓] theorem zvf:wE (mDN s) Q X↔Q (.ref s.length) (s++[.dN []]):=by
 with_unfolding_all
  exact zna
@[simp ↓] theorem zuu{n:Nat}:wE (ziy [.ref n] s) Q X↔onO (zgq s n) λkvs=>Q (.int kvs.length) s:=by
 with_unfolding_all
  unfold ziy;dsimp only;cases h:zgq s n <;> simp[h]
def putN(s:S)(x y v:D):Option S:=match x with
 | .ref n=>match s[n]? with
  | some (.dN kvs)=>if kvs.length<16777216 then (nkT y).map λk=>s.set n (.dN (zee kvs k y v))else none
  | _=>none
 | _=>none
@[simp ↓] theorem zuf{o i e:E}{P:Pst}:wC (uY o i e σ s) P↔wE (e σ s) (λv s1=>wE (o σ s1) (λx s2=>wE (i σ s2) (λy s3=>onO (putN s3 x y v) λs4=>P.nx σ s4) P.xc) P.xc) P.xc:=by
 with_unfolding_all
  unfold uY;rw[uF]
  have key:∀(v x y:D) (s3:S),wC (match x with
    | .ref n=>match s3[n]? with
     | some (.dN kvs)=>if kvs.length<16777216 then (nkT y).map λk=>R.nx σ (s3.set n (.dN (zee kvs k y v)))else none
     | _=>none
    | _=>none) P↔onO (putN s3 x y v) λs4=>P.nx σ s4:=by
    intro v x y s3;unfold putN
    cases x with
    | ref n =>
     dsimp only
     cases hn:s3[n]? with
     | none=>simp
     | some ob =>
      cases ob with
      | dN kvs =>
       dsimp only;by_cases hl:kvs.length<16777216
       . rw[if_pos hl,if_pos hl];cases nkT y <;> simp
       . rw[if_neg hl,if_neg hl];simp
      | _=>simp
    | _=>simp
  constructor
  . intro h;refine zA h λv s1 h=>?_;rw[uF]at h;refine zA h λx s2 h=>?_;rw[uF]at h;exact zA h λy s3 h=>(key v x y s3).mp h
  . intro h;refine zA h λv s1 h=>?_;rw[uF];refine zA h λx s2 h=>?_;rw[uF];exact zA h λy s3 h=>(key v x y s3).mpr h
def zkn(s:S)(g:D×D->D)(x:D):Option SK:=match x with
 | .ref n=>(zgq s n).map λkvs=>.dict n (kvs.map g)
 | _=>none
@[simp ↓] theorem zvd{g:D×D->D}{e:E}{Q:SK->S->Prop}:wE (iNd g e σ s) Q X↔wE (e σ s) (λx s1=>onO (zkn s1 g x) λk=>Q k s1) X:=by
 with_unfolding_all
  unfold iNd;rw[yU]
  have key:∀(x:D) (s:S),wE (match x with
    | .ref n=>match s[n]? with
     | some (.dN kvs)=>some (Res.ok (SK.dict n (kvs.map g)) s)
     | some (.lck (.dN kvs))=>some (.ok (.dict n (kvs.map g)) s)
     | _=>none
    | _=>none) Q X↔onO (zkn s g x) λk=>Q k s:=by
    intro x s;unfold zkn zgq
    cases x with
    | ref n =>
     dsimp only
     cases s[n]? with
     | none=>simp
     | some o =>
      cases o with
      | lck o=>cases o <;> simp
      | _=>simp
    | _=>simp
  constructor
  . intro h;exact zA h λy s1 h=>(key y s1).mp h
  . intro h;exact zA h λy s1 h=>(key y s1).mpr h
end
end Fc
namespace P85
open PySem Fc P1
noncomputable section
def b_law_title:C :=
 (zE (zQ (eC (.str "")) (gName 2))
 (zE (xg (yf (eC (.int 0)) (e2 xH (eC (.int 1)) (zB d_law_random [] (za (zf 0) (za (zf 1) zj))))) (gName 3)
 (zQ (e2 xH (zf 2) (e2 oAt (eC (.str "abcdefghijklmnopqrstuvwxyz")) (zB d_law_random [] (za (zf 0) (za (eC (.int 26)) zj))))) (gName 2)))
 (ye (zf 2))))
def d_law_title:F:=yg 2 4 b_law_title
def b_law_heads:C :=
 (zE (zQ (eN yr zj) (gName 2))
 (zE (xg (yf (eC (.int 0)) (zf 1)) (gName 3)
 (zR (eM zU (zf 2) (za (eN wg (za (e2 xH (zB d_law_title [] (za (zf 0) (za (eC (.int 3)) zj))) (e2 oAt (eC (.str "klmno")) (zf 3))) (za (zB d_law_random [] (za (zf 0) (za (eC (.int 4)) zj))) zj))) zj))))
 (ye (zf 2))))
def d_law_heads:F:=yg 2 4 b_law_heads
def b_law_drawn:C :=
 (zE (zQ (zB d_law_heads [] (za (zf 0) (za (zf 1) zj))) (gName 3))
 (zE (zfT 4 5 (za (eN jh (za (zf 3) zj)) (za (eN yr zj) zj)))
 (zE (xg (yf (eC (.int 0)) (zB d_law_random [] (za (zf 0) (za (e2 xH (zf 2) (eC (.int 1))) zj)))) (gName 6)
 (zE (zQ (e2 oAt (e2 oAt (zf 3) (zB d_law_random [] (za (zf 0) (za (eN vA (za (zf 3) zj)) zj)))) (eC (.int 0))) (gName 7))
 (zE (zQ (e2 oAt (e2 oAt (zf 3) (zB d_law_random [] (za (zf 0) (za (eN vA (za (zf 3) zj)) zj)))) (eC (.int 0))) (gName 8))
 (zE (zQ (zB d_law_arcs [] (za (zf 0) (za (e2 oAt (zf 4) (zf 7)) (za (e2 oAt (zf 4) (zf 8)) (za (e2 oAt (eN yr (za (eC (.int 2)) (za (eC (.int 3)) zj))) (zB d_law_random [] (za (zf 0) (za (eC (.int 2)) zj)))) zj))))) (gName 9))
 (zR (eM zU (zf 5) (za (eN wg (za (e2 oAt (eN yr (za (eC (.str "cd")) (za (eC (.str "c")) (za (eC (.str "ca")) (za (eC (.str "cda")) (za (eC (.str "cb")) (za (eC (.str "cab")) (za (eC (.str "cc")) (za (eC (.str "da")) (za (eC (.str "d")) (za (eC (.str "dab")) zj))))))))))) (zf 6)) (za (zf 7) (za (zf 8) (za (zf 9) zj))))) zj)))))))
 (ye (eN yr (za (zf 3) (za (zf 5) zj)))))))
def d_law_drawn:F:=yg 3 10 b_law_drawn
def b_law_worths:C :=
 (ye (eN fTuple (za (eLc [3] (yf (eC (.int 0)) (zf 1)) (gName 3) tYes (zB d_law_random [] (za (zf 0) (za (zf 2) zj)))) zj)))
def d_law_worths:F:=yg 3 4 b_law_worths
def b_is_function:C :=
 (zE (cIf (tOr (tNot (tE (e1 (oIs .tuple) (zf 0)))) (tOr (tB (e2 oNe (eN vA (za (zf 0) zj)) (eC (.int 2)))) (tNot (tE (zB d_is_name [] (za (e2 oAt (zf 0) (eC (.int 0))) zj))))))
 (ye (eC (.bl false)))
 yh)
 (ye (ziw (zB d_is_whole [] (za (e2 oAt (zf 0) (eC (.int 1))) zj)) (uv oLe oLe (eC (.int 0)) (e2 oAt (zf 0) (eC (.int 1))) (eC (.int 3))))))
def d_is_function:F:=yg 1 1 b_is_function
def b_is_call:C :=
 (zE (cIf (tOr (tNot (tE (e1 (oIs .tuple) (zf 0)))) (tOr (tB (e2 oNe (eN vA (za (zf 0) zj)) (eC (.int 4)))) (tB (e2 oNe (eLc [2] (yG .seq (zdU (zf 0) pNo (zej (eC (.int 3))))) (gName 2) (tNot (tE (zB d_is_name [] (za (zf 2) zj)))) (zf 2)) (eN yr zj)))))
 (ye (eC (.bl false)))
 yh)
 (zE (zQ (zf 0) (gTup 4 (gCons (gName 2) (gCons (gName 3) (gCons (gName 4) (gCons (gName 5) gNil))))))
 (zE (cIf (tOr (tB (e2 uC (zf 3) (zf 1))) (tOr (tB (e2 uC (zf 4) (zf 1))) (tNot (tE (e1 (oIs .list) (zf 5))))))
 (ye (eC (.bl false)))
 yh)
 (ye (e2 oEq (eLc [6] (yG .seq (zf 5)) (gName 6) (tNot (tE (zB d_is_arc [] (za (zf 6) (za (e2 oAt (zf 1) (zf 3)) (za (e2 oAt (zf 1) (zf 4)) zj)))))) (zf 6)) (eN yr zj))))))
def d_is_call:F:=yg 2 7 b_is_call
def b_Program_init:C :=
 (zE (zR (zB d_check_list [] (za (zf 1) zj)))
 (zE (zQ (eN (λ_=>mDK) zj) (gName 3))
 (zE (xg (yG .seq (zf 1)) (gName 4)
 (zE (cIf (tOr (tNot (tE (zB d_is_function [] (za (zf 4) zj)))) (tB (e2 oIn (e2 oAt (zf 4) (eC (.int 0))) (zf 3))))
 (xj "InvalidFunction" "value" (zf 4))
 yh)
 (jE (zf 3) (e2 oAt (zf 4) (eC (.int 0))) (e2 oAt (zf 4) (eC (.int 1))))))
 (zE (zR (zB d_check_list [] (za (zf 2) zj)))
 (zE (zQ (eN (λ_=>mDK) zj) (gName 5))
 (zE (xg (yG .seq (zf 2)) (gName 6)
 (zE (cIf (tOr (tNot (tE (zB d_is_call [] (za (zf 6) (za (zf 3) zj))))) (tB (e2 oIn (e2 oAt (zf 6) (eC (.int 0))) (zf 5))))
 (xj "InvalidCall" "value" (zf 6))
 yh)
 (jE (zf 5) (e2 oAt (zf 6) (eC (.int 0))) (eN wg (za (e2 oAt (zf 6) (eC (.int 1))) (za (e2 oAt (zf 6) (eC (.int 2))) (za (eN fTuple (za (e2 oAt (zf 6) (eC (.int 3))) zj)) zj)))))))
 (zE (zlA "many" (zf 0) (zf 3))
 (zlA "known" (zf 0) (zf 5)))))))))
def d_Program_init:F:=yg 3 7 b_Program_init
def b_are_values:C :=
 (zE (cIf (tOr (tNot (tE (e1 (oIs .tuple) (zf 0)))) (tB (e2 oNe (eN vA (za (zf 0) zj)) (zf 1))))
 (ye (eC (.bl false)))
 yh)
 (ye (e2 oEq (eLc [2] (yG .seq (zf 0)) (gName 2) (tOr (tNot (tE (zB d_is_whole [] (za (zf 2) zj)))) (tB (e2 oLt (zf 2) (eC (.int 0))))) (zf 2)) (eN yr zj))))
def d_are_values:F:=yg 2 3 b_are_values
def b_check_values:C :=
 (cIf (tNot (tE (zB d_are_values [] (za (zf 0) (za (zf 1) zj)))))
 (xj "InvalidValues" "value" (zf 0))
 yh)
def d_check_values:F:=yg 2 2 b_check_values
def b_Run_init:C :=
 (zE (zR (zB d_check_program [] (za (zf 1) zj)))
 (zE (zR (zB d_check_function_name [] (za (zf 1) (za (zf 2) zj))))
 (zE (zR (zB d_check_values [] (za (zf 3) (za (e2 oAt (e1 (xr "many") (zf 1)) (zf 2)) zj))))
 (zE (zlA "base" (zf 0) (zf 1))
 (zlA "places" (zf 0) (eN yr (za (eN wg (za (eC .non) (za (zf 2) (za (zf 3) zj)))) zj)))))))
def d_Run_init:F:=yg 4 4 b_Run_init
end
def Ltr(x:Str):Prop:=∀ c∈x.cps.toList,97<=c/\c<123
theorem zoT:∀ i:Fin 26,(Builtin.Str.occurrences letters ⟨#[97+i.val]⟩ 0 letters.length 1).isEmpty=false:=by
 decide +kernel
theorem Ltr.occ{x:Str}(h:Ltr x):∀ c∈x.cps.toList,(Builtin.Str.occurrences letters ⟨#[c]⟩ 0 letters.length 1).isEmpty=false:=λc hc=>by
 obtain⟨h1,h2⟩:=h c hc;have:=zoT ⟨c - 97,by omega⟩;rw[show 97+(c - 97)=c by omega]at this;exact this
theorem zkf{x y:Str}(h:Ltr x)(k:Ltr y):Ltr (x++y):=by
 intro c hc
 have e:(x++y).cps.toList=x.cps.toList++y.cps.toList:=by
   show(x.cps++y.cps).toList=_;simp
 rw[e]at hc
 rcases tZ.mp hc with hc | hc
 . exact h c hc
 . exact k c hc
theorem len_app{x y:Str}:(x++y).length=x.length+y.length:=by
 show(x.cps++y.cps).size=x.cps.size+y.cps.size;simp
theorem zqW:∀ z:Fin 26,97<=letters.cps.toList.getD z 0/\letters.cps.toList.getD z 0<123:=by
 decide +kernel
theorem zjj{s:S}{z:Int}(h0:0<=z)(h1:z<26):∃ y:Str,atD s (.str letters) (.int z)=some (.str y)/\Ltr y/\y.length=1:=by
 obtain⟨n,rfl⟩:=qY h0
 have hn:n<26:=by omega
 have hl:letters.cps.toList.length=26:=by decide +kernel
 have e:letters.cps.toList[n]?=some (letters.cps.toList.getD n 0):=by
   rw[sU,tQ (by omega)];rfl
 refine⟨⟨#[letters.cps.toList.getD n 0]⟩,?_,?_,rfl⟩
 . have hz:sz letters.length=true:=by decide +kernel
   show(if sz letters.length then (L2.atI letters.cps.toList (n:Int)).map λc=>D.str ⟨#[c]⟩else none)=_;rw[if_pos hz,atI_nat,e];rfl
 . intro c hc;have hc:c∈[letters.cps.toList.getD n 0]:=hc;simp only[tR,rK,or_false]at hc;subst hc;exact zqW ⟨n,hn⟩
theorem ziR{a b:Int}:(yx a b).length=(b - a).toNat:=by simp[yx]
theorem zoS:Ltr "":=by
 intro c hc;have:c∈([]:List _):=hc;cases this
theorem zmN{s:S}{g B:Nat}{m:Int}{X:Xc}{Q:D->S->Prop}(hg:Gen s g (B+1000))(h1:0<m)(h2:m<=10)(hQ:∀(s':S) (x:Str),Fr g s s'->Gen s' g B->Ltr x->1<=x.length->(x.length:Int)<=m->Q (.str x) s'):wE (d_law_title [.ref g,.int m] s) Q X:=by
 unfold d_law_title;refine(yD (by rfl)).mpr ?_;unfold b_law_title;simp;refine yo (B:=B+960) (by exact hg) h1 (by omega) λz o p1 p2 g1=>?_;simp;rw[show small (1+z)=true by unfold small;simp;omega,yI]
 have hlen:(yx 0 (1+z)).length=(1+z).toNat:=by rw[ziR];simp
 generalize yx 0 (1+z)=ds at hlen;refine yP (λ(r:List D) (σ:Fc.Env) (s':S)=>∃(x:Str) (t:Option D),σ=[some (.ref g),some (.int m),some (.str x),t]/\Ltr x/\x.length+r.length=ds.length/\Fr g s s'/\Gen s' g (B+80*r.length)) ds ⟨"",none,rfl,zoS,by show 0+ds.length=ds.length;omega,Fr.set,g1.mono (by omega)⟩ ?_ ?_
 . rintro d r σ s' ⟨x,t,rfl,hx,hl,hf,hgn⟩;refine⟨_,rfl,?_⟩;simp at hl;simp;refine yo (B:=B+80*r.length) (hgn.mono (by simp;omega)) (by decide) (by decide) λz2 o2 q1 q2 g2=>?_;obtain⟨y,ea,hy,ly⟩:=zjj (s:=s'.set g o2) q1 q2;have ea:atD (s'.set g o2) (.str "abcdefghijklmnopqrstuvwxyz") (.int z2)=some (.str y):=ea;simp[ea];rw[zbv (by omega),yI];refine⟨zkf hx hy,?_,hf.trans Fr.set,g2⟩;rw[len_app,ly];omega
 . rintro σ s' ⟨x,t,rfl,hx,hl,hf,hgn⟩;simp at hl;simp;exact hQ s' x hf (hgn.mono (by omega)) hx (by omega) (by omega)
def klm:Str:="klmno"
theorem zoR:∀ i:Fin 5,97<=klm.cps.toList.getD i 0/\klm.cps.toList.getD i 0<123:=by
 decide +kernel
def HOk(i:Nat)(h:Str×Nat):Prop:=Ltr h.1/\2<=h.1.length/\h.1.length<=4/\h.2<4/\h.1.cps.toList.getLast?=some (klm.cps.toList.getD i 0)
def hD(h:Str×Nat):D:=.tup [.str h.1,.int h.2]
theorem zqn{s:S}{i:Nat}(h:i<5):∃ y:Str,atD s (.str "klmno") (.int i)=some (.str y)/\Ltr y/\y.length=1/\y.cps.toList=[klm.cps.toList.getD i 0]:=by
 have hl:klm.cps.toList.length=5:=by decide +kernel
 have e:klm.cps.toList[i]?=some (klm.cps.toList.getD i 0):=by
   rw[sU,tQ (by omega)];rfl
 refine⟨⟨#[klm.cps.toList.getD i 0]⟩,?_,?_,rfl,rfl⟩
 . have hz:sz klm.length=true:=by decide +kernel
   show(if sz klm.length then (L2.atI klm.cps.toList (i:Int)).map λc=>D.str ⟨#[c]⟩else none)=_;rw[if_pos hz,atI_nat,e];rfl
 . intro c hc;have hc:c∈[klm.cps.toList.getD i 0]:=hc;simp only[tR,rK,or_false]at hc;subst hc;exact zoR ⟨i,h⟩
theorem zcJ{n i:Nat}{d:D}{r:List D}(h:(yx 0 n).drop i=d::r):d=.int i/\i<n/\r=(yx 0 n).drop (i+1):=by
 have hl:(yx 0 n).length=n:=by simp[yx]
 have hi:i<(yx 0 n).length:=by
  refine Classical.byContradiction λz=>?_;rw[qL (by omega)]at h;cases h
 rw[rO hi]at h
 injection h with h1 h2
 refine⟨?_,by omega,h2.symm⟩;rw[← h1];simp[yx]
theorem zmG{s:S}{g B n:Nat}{X:Xc}{Q:D->S->Prop}(hg:Gen s g (B+8000))(hn:n<=5)(hQ:∀(s':S) (r:Nat) (hs:List (Str×Nat)),Fr g s s'->Gen s' g B->s.length<=r->s'[r]?=some (.lst (hs.map hD))->hs.length=n->(∀ i h,hs[i]?=some h->HOk i h)->Q (.ref r) s'):wE (d_law_heads [.ref g,.int n] s) Q X:=by
 unfold d_law_heads;refine(yD (by rfl)).mpr ?_;unfold b_law_heads
 have lg:g<s.length:=by obtain⟨_,_,_,h,_⟩:=hg;exact zq h
 simp;rw[show small (n:Int)=true by unfold small;simp;omega,yI]
 refine yP (λ(r:List D) (σ:Fc.Env) (s':S)=>∃(hs:List (Str×Nat)) (t:Option D),r=(yx 0 n).drop hs.length/\σ=[some (.ref g),some (.int n),some (.ref s.length),t]/\s'[s.length]?=some (.lst (hs.map hD))/\hs.length<=n/\Fr g s s'/\Gen s' g (B+1200*(n - hs.length))/\∀ i h,hs[i]?=some h->HOk i h) (yx 0 n)
   ⟨[],none,rfl,rfl,zH,by simp,Pf.app.fr,(Pf.app.gen hg).mono (by simp;omega),λi h e=>by simp at e⟩ ?_ ?_
 . rintro d r σ s' ⟨hs,t,er,rfl,hr,hle,hf,hgn,hok⟩;obtain⟨rfl,hlt,er⟩:=zcJ er.symm;refine⟨_,rfl,?_⟩
   have il:uB s' (.ref s.length)=true:=by unfold uB;dsimp only;rw[hr]
   simp[il];refine zmN (B:=B+1200*(n - (hs.length+1))+100) (hgn.mono (by omega)) (by decide) (by decide) λs1 x f1 g1 hx l1 l2=>?_;obtain⟨y,ea,hy,ly,yc⟩:=zqn (s:=s1) (i:=hs.length) (by omega);simp[ea];rw[zbv (by omega),yI];refine yo (B:=B+1200*(n - (hs.length+1))) (g1.mono (by omega)) (by decide) (by decide) λz o p1 p2 g2=>?_;obtain⟨k,rfl⟩:=qY p1
   have gne:s.length≠g:=by omega
   have h1:=f1.2 _ gne _ hr
   have h2:(s1.set g o)[s.length]?=some (.lst (hs.map hD)):=by rw[zJ (tY gne)];exact h1
   have ll:=zq h2;simp[zV h2];rw[decide_eq_true (by omega),yI];refine⟨hs++[(x++y,k)],by simp[er],?_,by simp;omega,?_,?_,?_⟩
   . rw[yM ll];simp[hD]
   . have fa:=(hf.trans f1).trans (Fr.set (o:=o));refine⟨by simpa using fa.1,λw hw o' e=>?_⟩;have:=zq e;rw[zJ (by omega)];exact fa.2 w hw o' e
   . obtain⟨u1,u2,u3,u4,u5⟩:=g2
     have lz:(hs++[(x++y,k)]).length=hs.length+1:=by simp
     rw[lz];exact⟨u1,u2,u3,by rw[zJ gne];exact u4,u5⟩
   . intro i ha hb e;by_cases hi:i<hs.length
     . rw[sX hi]at e;exact hok i (ha,hb) e
     . have:i=hs.length:=by
         have z:=(su.mp e).1;simp at z;omega
       subst this;simp at e;obtain⟨rfl,rfl⟩:=e;refine⟨zkf hx hy,?_,?_,by omega,?_⟩
       . show 2<=(x++y).length;rw[len_app];omega
       . show(x++y).length<=4;rw[len_app];omega
       . have z:(x++y).cps.toList=x.cps.toList++y.cps.toList:=by
          show(x.cps++y.cps).toList=_;simp
         show(x++y).cps.toList.getLast?=_;rw[z,yc];simp
 . rintro σ s' ⟨hs,t,er,rfl,hr,hle,hf,hgn,hok⟩
   have hl:hs.length=n:=by
     have z:((yx 0 n).drop hs.length).length=0:=by rw[← er];rfl
     simp[yx]at z;omega
   simp;exact hQ s' s.length hs hf (hgn.mono (by omega)) (tX _) hr hl hok
theorem zli{s:S}{g B n:Nat}{top:Int}{X:Xc}{Q:D->S->Prop}(hg:Gen s g (B+400))(hn:n<=3)(ht:0<top)(ht2:top<2 ^ 1000)(hQ:∀(s':S) (v:List Int),Fr g s s'->Gen s' g B->v.length=n->(∀ x∈v,0<=x/\x<top)->Q (.tup (v.map .int)) s'):wE (d_law_worths [.ref g,.int n,.int top] s) Q X:=by
 unfold d_law_worths;refine(yD (by rfl)).mpr ?_;unfold b_law_worths
 have lg:g<s.length:=by obtain⟨_,_,_,h,_⟩:=hg;exact zq h
 simp;rw[show small (n:Int)=true by unfold small;simp;omega,yI]
 have hlen:(yx 0 (n:Int)).length=n:=by simp[yx]
 generalize yx 0 (n:Int)=ds at hlen;rw[zaZ]
 obtain⟨s',acc',h1,h2,v,rfl,h4,h5,h6,h7⟩:=zlu (D0:=s.length) (vs:=[3]) (g:=gName 3) (t:=Fc.tYes) (e:=zB d_law_random [] (za (zf 0) (za (zf 2) zj))) (σ:=[some (.ref g),some (.int n),some (.int top),none])
  (λr acc s'=>∃ v:List Int,acc=v.map .int/\v.length+r.length=n/\(∀ x∈v,0<=x/\x<top)/\Fr g s s'/\Gen s' g (B+40*r.length)) ds [] (s:=s++[.lst []]) ⟨[],rfl,by simp[hlen],λx hx=>by simp at hx,Pf.app.fr,(Pf.app.gen hg).mono (by omega)⟩ zH (by
  rintro d r acc s1 ⟨v,rfl,hl,hv,hf,hgn⟩ hD;refine⟨_,rfl,?_⟩;simp at hl;simp[Fc.wipe];refine yo (B:=B+40*r.length) (hgn.mono (by simp;omega)) ht ht2 λz o q1 q2 g2=>?_
  have gne:s.length≠g:=by omega
  refine⟨by rw[zJ (tY gne)];exact hD,by first | omega | (simp;omega),v++[z],by simp,by simp at hl ⊢;omega,?_,?_,?_⟩
  . intro x hx
    rcases tZ.mp hx with hx | hx
    . exact hv x hx
    . simp at hx;subst hx;exact⟨q1,q2⟩
  . have fa:=hf.trans (Fr.set (o:=o));refine⟨by simpa using fa.1,λw hw o' e=>?_⟩;have:=zq e;rw[zJ (by omega)];exact fa.2 w hw o' e
  . obtain⟨u1,u2,u3,u4,u5⟩:=g2
    exact⟨u1,u2,u3,by rw[zJ gne];exact u4,u5⟩)
 refine⟨s',h1,?_⟩;simp[zV h2];exact hQ s' v h6 (h7.mono (by omega)) (by simpa using h4) h5
theorem zoO:∀ i j:Fin 5,klm.cps.toList.getD i 0=klm.cps.toList.getD j 0->i=j:=by
 decide +kernel
theorem zac{hs:List (Str×Nat)}(h:∀ i x,hs[i]?=some x->HOk i x)(hl:hs.length<=5):(hs.map (·.1)).Nodup:=by
 refine List.pairwise_iff_getElem.mpr λi j hi hj hij e=>?_;simp at hi hj;simp only[qN]at e;have a:=h i hs[i] (tQ hi);have b:=h j hs[j] (tQ hj);have z1:=a.2.2.2.2;have z2:=b.2.2.2.2;rw[e,z2]at z1;have z3:klm.cps.toList.getD j 0=klm.cps.toList.getD i 0:=Option.some.inj z1;have z4:=zoO ⟨j,by omega⟩ ⟨i,by omega⟩ z3;have z5:j=i:=congrArg Fin.val z4;omega
theorem HOk.name{i:Nat}{x:Str×Nat}(h:HOk i x):NameOk x.1:=⟨by have:=h.2.1;omega,by have:=h.2.2.1;omega,h.1.occ⟩
def mvH(hs:List (Str×Nat)):List (L2.Key×D):=hs.map λh=>(.inr h.1,.int h.2)
theorem zeg:∀{hs:List (Str×Nat)}{x:Str×Nat},(hs.map (·.1)).Nodup->x∈hs->kget (mvH hs) (.inr x.1)=some (.int x.2)
 | h::hs,x,nd,hx=>by
  rw[tK,qW]at nd
  rcases tR.mp hx with rfl | hx
  . simp[mvH,kget]
  . have ne:¬ ((Sum.inr h.1:L2.Key)=Sum.inr x.1):=λz=>by
     injection z with z
     exact nd.1 (by rw[z];exact tM.mpr ⟨x,hx,rfl⟩)
    have r:=zeg nd.2 hx;unfold kget mvH at r ⊢;rw[tK,rQ];simp only[ne,decide_false];exact r
theorem zhV:∀ hs:List (Str×Nat),uW (hs.map hD)=some (mvH hs)
 | []=>rfl
 | h::hs=>by
  have r:=zhV hs;show uW (.tup [.str h.1,.int h.2]::hs.map hD)=_;unfold uW;rw[r];rfl
theorem jG{κ:Type}[DecidableEq κ]{kvs:List (κ×D)}{k:κ}{v:D}(h:∀ kv∈kvs,kv.1≠k):kput kvs k v=kvs++[(k,v)]:=by
 unfold kput;rw[if_neg];intro hh;obtain⟨kv,h1,h2⟩:=List.any_eq_true.mp hh;exact h kv h1 (of_decide_eq_true h2)
theorem zch:∀{kvs a:List (L2.Key×D)},((a++kvs).map (·.1)).Nodup->jj a kvs=a++kvs
 | [],a,_=>by simp[jj]
 | (k,v)::kvs,a,nd=>by
  have fr:∀ kv∈a,kv.1≠k:=λkv hk z=>by
   rw[sV]at nd;exact(rY.mp nd).2.2 _ (tM.mpr ⟨kv,hk,rfl⟩) k (by simp) z
  unfold jj;rw[jG fr];have:=zch (kvs:=kvs) (a:=a++[(k,v)]) (by simpa using nd);simpa using this
theorem zmd(hs:List (Str×Nat)):(mvH hs).map (·.1)=(hs.map (·.1)).map Sum.inr:=by
 simp[mvH]
theorem zaR{hs:List (Str×Nat)}(nd:(hs.map (·.1)).Nodup):jj [] (mvH hs)=mvH hs:=by
 have z:((mvH hs).map (·.1)).Nodup:=by
  rw[zmd];exact List.Pairwise.map _ (λa b h e=>h (by injection e)) nd
 have:=zch (kvs:=mvH hs) (a:=[]) (by simpa using z);simpa using this
theorem zaL{s:S}{n:Nat}{ds:List D}{X:Xc}{Q:D->S->Prop}(h:s[n]?=some (.lst ds))(hQ:Q .non s):wE (d_check_list [.ref n] s) Q X:=by
 unfold d_check_list;refine(yD (by rfl)).mpr ?_;unfold b_check_list;simp[ziD,h];exact hQ
theorem zdb{s:S}{h:Str×Nat}{X:Xc}{Q:D->S->Prop}(hx:NameOk h.1)(hk:h.2<4)(hQ:∀ s',Pf s s'->Q (.bl true) s'):wE (d_is_function [hD h] s) Q X:=by
 unfold d_is_function;refine(yD (by rfl)).mpr ?_;unfold b_is_function;simp[hD,wL];refine zdJ hx λs1 p1=>?_;simp;refine zez ?_;have e:decide ((h.2:Int)<=3)=true:=decide_eq_true (by omega);simp[e];exact hQ _ p1
theorem ziX{s:S}{a:Arc}{p q:Nat}{X:Xc}{Q:D->S->Prop}(h1:a.1<p)(h2:a.2.1<q)(hQ:Q (.bl true) s):wE (d_is_arc [aD a,.int p,.int q] s) Q X:=by
 unfold d_is_arc;refine(yD (by rfl)).mpr ?_;unfold b_is_arc;simp[aD,wL];refine zez ?_;simp;refine zez ?_;have e1:decide ((a.1:Int)<p)=true:=decide_eq_true (by omega);have e2:decide ((a.2.1:Int)<q)=true:=decide_eq_true (by omega);simp[h1,h2];exact hQ
theorem zaA{s:S}{m:Nat}{hs:List (Str×Nat)}{x:Str×Nat}(h:s[m]?=some (.dK (mvH hs)))(nd:(hs.map (·.1)).Nodup)(hx:x∈hs):atD s (.ref m) (.str x.1)=some (.int x.2)/\isIn s (.str x.1) (.ref m)=some true:=by
 have g:=zeg nd hx;constructor
 . simp only[atD,h,unl,dget,keyOf,sE,g];rfl
 . simp only[isIn,h,unl,dget,keyOf,sE,g];rfl
structure Rw where
 nm:Str
 src:Str×Nat
 tgt:Str×Nat
 A:List Arc
 a:Nat
def rwD(r:Rw):D:=.tup [.str r.nm,.str r.src.1,.str r.tgt.1,.ref r.a]
structure RwOk(s:S)(hs:List (Str×Nat))(r:Rw):Prop where
 nm:NameOk r.nm
 src:r.src∈hs
 tgt:r.tgt∈hs
 arcs:∀ a∈r.A,a.1<r.src.2/\a.2.1<r.tgt.2
 len:r.A.length<=40
 at_:s[r.a]?=some (.lst (r.A.map aD))
theorem ziY{s:S}{r:Rw}{m:Nat}{hs:List (Str×Nat)}{X:Xc}{Q:D->S->Prop}(hm:s[m]?=some (.dK (mvH hs)))(nd:(hs.map (·.1)).Nodup)(hn:∀ h∈hs,NameOk h.1)(hr:RwOk s hs r)(hQ:∀ s',Pf s s'->Q (.bl true) s'):wE (d_is_call [rwD r,.ref m] s) Q X:=by
 unfold d_is_call;refine(yD (by rfl)).mpr ?_;unfold b_is_call;simp[rwD,wL,srcOf];have ec:zeG [D.str r.nm,D.str r.src.1,D.str r.tgt.1,D.ref r.a] none (some 3)=[D.str r.nm,D.str r.src.1,D.str r.tgt.1]:=rfl;rw[ec];refine zlt (λ_=>none) (by simp) (λd hd s' pf=>?_) λs3 p3 h3=>?_
 . have:∃ x,d=.str x/\NameOk x:=by
     simp only[tR,rK,or_false]at hd
     rcases hd with rfl | rfl | rfl
     . exact⟨_,rfl,hr.nm⟩
     . exact⟨_,rfl,hn _ hr.src⟩
     . exact⟨_,rfl,hn _ hr.tgt⟩
   obtain⟨x,rfl,hx⟩:=this;refine⟨_,rfl,?_⟩;simp[Fc.wipe];refine zdJ hx λs1 p1=>?_;simp;exact p1
 . rw[zdZ]at h3;have e4:eqD (s3++[O.lst []]) (.ref s.length) (.ref s3.length)=some true:=eq_nil (A:=[]) (Pf.app _ _ h3) zH;rw[e4];have p4:Pf s (s3++[O.lst []]):=p3.trans Pf.app;obtain⟨g1,g2⟩:=zaA (p4 _ _ hm) nd hr.src;obtain⟨g3,g4⟩:=zaA (p4 _ _ hm) nd hr.tgt;have h5:=p4 _ _ hr.at_;have hl:=hr.len;simp[g2,g4,ziD,h5];rw[show r.A.length=(r.A.map aD).length by simp];refine uG (λ_=>none) h5 (by simp;omega) (λd hd s' pf=>?_) λs5 p5 h5=>?_
   . obtain⟨b,hb,rfl⟩:=tM.mp hd;have h:=hr.arcs b hb;obtain⟨g1,g2⟩:=zaA (pf _ _ (p4 _ _ hm)) nd hr.src;obtain⟨g3,g4⟩:=zaA (pf _ _ (p4 _ _ hm)) nd hr.tgt;refine⟨_,rfl,?_⟩;simp[Fc.wipe,g1,g3];refine ziX h.1 h.2 ?_;simp;exact Pf.refl
   . rw[zdZ]at h5;have e6:eqD (s5++[O.lst []]) (.ref (s3++[O.lst []]).length) (.ref s5.length)=some true:=eq_nil (A:=[]) (Pf.app _ _ h5) zH;rw[e6];exact hQ _ (p4.trans (p5.trans Pf.app))
theorem zdw{κ:Type}[DecidableEq κ]{kvs:List (κ×D)}{k:κ}(h:∀ kv∈kvs,kv.1≠k):kget kvs k=none:=by
 unfold kget;rw[pZ.mpr]
 . rfl
 . intro kv hk;simpa using h kv hk
theorem zfu{s0 s:S}{o:O}(h:Pf s0 s):Pf s0 (s.set s0.length o):=λn w hw=>by
 have:=zq hw;rw[zJ (by omega)];exact h n w hw
def kvP(l:List Rw):List (L2.Key×D):=l.map λq=>(.inr q.nm,.tup [.str q.src.1,.str q.tgt.1,.tup (q.A.map aD)])
theorem zpI{s:S}{p F C:Nat}{hs:List (Str×Nat)}{l:List Rw}{X:Xc}{Q:D->S->Prop}(hp:s[p]?=some (.ins "Program" []))(hF:s[F]?=some (.lst (hs.map hD)))(hC:s[C]?=some (.lst (l.map rwD)))(hn:∀ h∈hs,NameOk h.1/\h.2<4)(nd:(hs.map (·.1)).Nodup)(h5:hs.length<1000)(hl:∀ q∈l,RwOk s hs q)(nl:(l.map (·.nm)).Nodup)(hL:l.length<1000)
   (hQ:∀(s':S) (m k:Nat),s.length<=s'.length->(∀ n:Nat,n≠p->∀ o,s[n]?=some o->s'[n]?=some o)->s'[p]?=some (.ins "Program" [("many",.ref m),("known",.ref k)])->s'[m]?=some (.dK (mvH hs))->s'[k]?=some (.dK (kvP l))->Q .non s'):wE (d_Program_init [.ref p,.ref F,.ref C] s) Q X:=by
 unfold d_Program_init;refine(yD (by rfl)).mpr ?_;unfold b_Program_init;simp;refine zaL hF ?_;have hF1:=Pf.app (t:=[O.dK []]) _ _ hF;simp[srcOf,hF1];rw[show hs.length=(hs.map hD).length by simp]
 refine vP (n:=F) (ds:=hs.map hD) (λr σ s'=>∃(pre post:List (Str×Nat)) (t:Option D),hs=pre++post/\r=post.map hD/\Pf s s'/\s'[s.length]?=some (.dK (mvH pre))/\σ=[some (.ref p),some (.ref F),some (.ref C),some (.ref s.length),t,none,none])
   (λr σ s' ⟨_,_,_,_,_,pf,_⟩=>pf _ _ hF) ?_ ?_ _ 0 (by simp) ⟨[],hs,none,rfl,rfl,Pf.app,zH,rfl⟩
 . rintro d r σ s' ⟨pre,post,t,e,er,pf,hm,rfl⟩
   match post,er with
   | x::post,er =>
     rw[tK,List.cons.injEq]at er;obtain⟨rfl,rfl⟩:=er;have hx:=hn x (by rw[e];simp)
     have fresh:∀ kv∈mvH pre,kv.1≠.inr x.1:=by
       intro kv hk;obtain⟨y,hy,rfl⟩:=tM.mp hk;intro h
       have h:y.1=x.1:=by injection h
       rw[e,sV]at nd;exact(rY.mp nd).2.2 _ (tM.mpr ⟨y,hy,rfl⟩) x.1 (by simp) h
     refine⟨_,rfl,?_⟩;simp;refine zdb hx.1 hx.2 λs1 p1=>?_;have hm1:=p1 _ _ hm
     have i1:isIn s1 (.str x.1) (.ref s.length)=some false:=by
       simp only[isIn,hm1,unl,dget,keyOf,sE,zdw fresh];rfl
     have lp:(mvH pre).length<16777216:=by
       have:hs.length=pre.length+(x::post).length:=by rw[e];simp
       simp[mvH]at *;omega
     have i2:Fc.putAt s1 (.ref s.length) (.str x.1) (.int x.2)=some (s1.set s.length (.dK (mvH (pre++[x])))):=by
       simp only[Fc.putAt,hm1,dput,if_pos lp,keyOf,sE,jG fresh];simp[mvH]
     simp[hD,i1,i2];refine⟨pre++[x],post,by simp[e],rfl,zfu (pf.trans p1),yM (zq hm1)⟩
 . rintro σ s1 ⟨pre,post,t,e,er,pf,hm,rfl⟩
   have hpost:post=[]:=by
     match post,er with
     | [],_=>rfl
   subst hpost;rw[sJ]at e;subst e;have hC1:=pf _ _ hC;simp;refine zaL hC1 ?_;have hC2:=Pf.app (t:=[O.dK []]) _ _ hC1;simp[srcOf,hC2];rw[show l.length=(l.map rwD).length by simp]
   refine vP (n:=C) (ds:=l.map rwD) (λr σ s'=>∃(pre post:List Rw) (t:Option D),l=pre++post/\r=post.map rwD/\Pf s1 s'/\s'[s1.length]?=some (.dK (kvP pre))/\∃ u,σ=[some (.ref p),some (.ref F),some (.ref C),some (.ref s.length),u,some (.ref s1.length),t])
     (λr σ s' ⟨_,_,_,_,_,pf',_⟩=>pf' _ _ hC1) ?_ ?_ _ 0 (by simp) ⟨[],l,none,rfl,rfl,Pf.app,zH,_,rfl⟩
   . rintro d r σ s' ⟨pre2,post,t,e,er,pf',hk,u,rfl⟩
     match post,er with
     | q::post,er =>
       rw[tK,List.cons.injEq]at er;obtain⟨rfl,rfl⟩:=er;have hq:=hl q (by rw[e];simp)
       have hq':RwOk s' hs q:=⟨hq.nm,hq.src,hq.tgt,hq.arcs,hq.len,pf' _ _ (pf _ _ hq.at_)⟩
       have fresh:∀ kv∈kvP pre2,kv.1≠.inr q.nm:=by
        intro kv hk;obtain⟨y,hy,rfl⟩:=tM.mp hk;intro h
        have h:y.nm=q.nm:=by injection h
        rw[e,sV]at nl;exact(rY.mp nl).2.2 _ (tM.mpr ⟨y,hy,rfl⟩) q.nm (by simp) h
       refine⟨_,rfl,?_⟩;simp;refine ziY (pf' _ _ hm) nd (λh hh=>(hn h hh).1) hq' λs2 p2=>?_;have hk2:=p2 _ _ hk;have ha2:=p2 _ _ hq'.at_
       have i1:isIn s2 (.str q.nm) (.ref s1.length)=some false:=by
        simp only[isIn,hk2,unl,dget,keyOf,sE,zdw fresh];rfl
       have lp:(kvP pre2).length<16777216:=by
        have:l.length=pre2.length+(q::post).length:=by rw[e];simp
        simp[kvP]at *;omega
       have i2:Fc.putAt s2 (.ref s1.length) (.str q.nm) (.tup [.str q.src.1,.str q.tgt.1,.tup (q.A.map aD)])=some (s2.set s1.length (.dK (kvP (pre2++[q])))):=by
        simp only[Fc.putAt,hk2,dput,if_pos lp,keyOf,sE,jG fresh];simp[kvP]
       simp[rwD,i1,zV ha2,i2];refine⟨pre2++[q],post,by simp[e],rfl,zfu (pf'.trans p2),yM (zq hk2)⟩
   . rintro σ s2 ⟨pre2,post,t,e,er,pf',hk,u,rfl⟩
     have hpost:post=[]:=by
       match post,er with
       | [],_=>rfl
     subst hpost;rw[sJ]at e;subst e;have hp2:=pf' _ _ (pf _ _ hp);have lp2:=zq hp2;simp[zex hp2,zex (yM lp2),fput]
     have ne1:p≠s.length:=by have:=zq hp;omega
     have ne2:p≠s1.length:=by have:=zq (pf _ _ hp);omega
     refine hQ _ s.length s1.length ?_ ?_ ?_ ?_ ?_
     . have:=(pf.trans pf').len;simpa using this
     . intro n hn o h;rw[zJ (tY hn)];exact pf' _ _ (pf _ _ h)
     . rw[yM lp2,if_neg (by decide)]
     . rw[zJ ne1];exact pf' _ _ hm
     . rw[zJ ne2];exact hk
end P85
namespace Fc
open PySem
def okS(x:Str):Prop:=∀ c∈x.cps.toList,c<1114112
theorem xT{x:Str}:PyData.strOk x=true↔okS x:=by
 unfold PyData.strOk okS;rw[← Array.all_toList,sH];simp
theorem zaC{x:String}:okS (Str.ofString x):=by
 intro c hc;have e:(Str.ofString x).cps.toList=x.toList.map Char.toNat:=PyProof.Rows.signs_ofString x;rw[e]at hc;obtain⟨d,_,rfl⟩:=tM.mp hc;have h:=d.valid;show d.val.toNat<1114112
 rcases h with h | ⟨_,h⟩
 . have h:d.val.toNat<55296:=h;omega
 . have h:d.val.toNat<1114112:=h;exact h
theorem zcq{x y:Str}(h1:okS x)(h2:okS y):okS (x++y):=by
 intro c hc
 have e:(x++y).cps.toList=x.cps.toList++y.cps.toList:=by
  show(x.cps++y.cps).toList=_;simp
 rw[e,tZ]at hc;exact hc.elim (h1 c) (h2 c)
theorem zmg(w c:Nat):∀ d∈(List.replicate (w - ((Nat.toDigits 16 c).map Char.toNat).length) 48++(Nat.toDigits 16 c).map Char.toNat),d<1114112:=by
 intro d hd
 rcases tZ.mp hd with h | h
 . have:=(List.mem_replicate.mp h).2;omega
 . obtain⟨k,_,rfl⟩:=tM.mp h;have h:=k.valid;show k.val.toNat<1114112
   rcases h with h | ⟨_,h⟩
   . have h:k.val.toNat<55296:=h;omega
   . have h:k.val.toNat<1114112:=h;exact h
theorem zgB{q c:Nat}(hc:c<1114112):∀ d∈Builtin.Str.reprChar q c,d<1114112:=by
  intro d hd;unfold Builtin.Str.reprChar at hd;simp only at hd
  repeat' split at hd
  all_goals first
    | (simp only[tR,rK,or_false]at hd;omega)
    | (rcases tZ.mp hd with h | h
       . simp only[tR,rK,or_false]at h;omega
       . exact zmg _ _ d h)
theorem zkx{q:Nat}:∀(l:List Nat) (acc:Array Nat),(∀ c∈l,c<1114112)->(∀ c∈acc.toList,c<1114112)->∀ c∈(l.foldl (λout c=>out++(Builtin.Str.reprChar q c).toArray) acc).toList,c<1114112
 | [],acc,_,h=>h
 | a::l,acc,hl,h=>by
  refine zkx l _ (λc hc=>hl c (tV _ hc)) ?_;intro c hc;rw[Array.toList_append,tZ]at hc
  rcases hc with hc | hc
  . exact h c hc
  . exact zgB (hl a (tH)) c hc
theorem zmf{x:Str}(h:okS x):okS (reprText x):=by
 have hq:reprQuote x<1114112:=by
   unfold reprQuote;split <;> omega
 intro c hc;unfold reprText at hc;rw[← Array.foldl_toList]at hc;simp only[Array.toList_push,tZ,tR,rK,or_false]at hc
 rcases hc with hc | rfl
 . exact zkx x.cps.toList _ h (λc hc=>by simp at hc;omega) c hc
 . exact hq
theorem zbj:∀(ts:List Str) (k:Nat) (acc:Str),okS acc->(∀ t∈ts,okS t)->okS (textFrom k acc ts)
 | [],k,acc,h,_=>h
 | t::r,k,acc,h,ht=>by
  refine zbj r (k+1) _ (zcq (zcq h ?_) (ht t (tH))) λu hu=>ht u (tV _ hu);split <;> exact zaC
theorem zhT{ts:List Str}(h:∀ t∈ts,okS t):okS (listText ts):=zcq (zbj ts 0 _ zaC h) zaC
theorem zme{sep:Str}{ts:List Str}(hs:okS sep)(h:∀ t∈ts,okS t):okS (Str.join sep ts):=by
 intro c hc
 rcases(PyProof.Rows.mem_join sep c ts).mp hc with ⟨t,ht,hc⟩ | ⟨_,hc⟩
 . exact h t ht c hc
 . exact hs c hc
theorem zkw{ts:List Str}(h:∀ t∈ts,okS t):okS (tupleText ts):=by
 unfold tupleText;refine zcq (zcq zaC (zme zaC h)) ?_;split <;> exact zaC
mutual
theorem zcr:∀ d:PyData,d.canLay0=true->okS d.shown
 | .none,_=>by simp only[PyData.shown];exact zaC
 | .bool b,_=>by
  simp only[PyData.shown];split <;> exact zaC
 | .int i,_=>by simp only[PyData.shown];exact zaC
 | .str x,h=>by
  simp only[PyData.shown];simp only[PyData.canLay0]at h;exact zmf (xT.mp h)
 | .list xs,h=>by
  simp only[PyData.shown];simp only[PyData.canLay0]at h;exact zhT (jn xs h)
 | .tuple xs,h=>by
  simp only[PyData.shown];simp only[PyData.canLay0]at h;exact zkw (jn xs h)
 | .dict kvs,h=>by simp[PyData.canLay0]at h
theorem jn:∀ xs:List PyData,PyData.canLayAll0 xs=true->∀ t∈PyData.shownAll xs,okS t
 | [],_,t,h=>by simp only[PyData.shownAll,rK]at h
 | x::xs,h,t,ht=>by
  simp only[PyData.canLayAll0,sG]at h;simp only[PyData.shownAll,tR]at ht
  rcases ht with rfl | ht
  . exact zcr x h.1
  . exact jn xs h.2 t ht
end
structure Rp(s:S)(d:D)(t:Str):Prop where
 ex:∃ x,uI s 60 d=some x/\x.showable=true/\sz x.shown.length=true/\x.shown=t
 ok:PyData.strOk t=true
end Fc
namespace P85
open PySem Fc P1
theorem Ltr.okS{x:Str}(h:Ltr x):okS x:=λc hc=>by have:=h c hc;omega
theorem eq_self{s:S}{a b:D}{x:PyData}(h1:dat s 60 a=some x)(h2:dat s 60 b=some x)(h3:SeqAt.shaped x=true):eqD s a b=some true:=by
 rw[zeY h1 h2 h3 h3,PySem.SeqAt.eqv_refl x (rE.mp h3).1]
theorem zqy{s:S}{n m:Nat}{l:List D}{ps:List PyData}(h1:s[n]?=some (.lst l))(h2:s[m]?=some (.lst l))(hd:dats s 59 l=some ps)(hs:PyData.canLayAll0 ps=true)(hp:PyData.depthAll ps<=20):eqD s (.ref n) (.ref m)=some true:=by
 refine eq_self (x:=.list ps) (by rw[xF h1,hd];rfl) (by rw[xF h2,hd];rfl) ?_;refine rE.mpr ⟨by simp only[PyData.canLay0,hs],decide_eq_true ?_⟩;simp only[PyData.depth];omega
theorem wA{s t:S}{n:Nat}(i:Nat)(h:n=s.length+i):(s++t)[n]?=t[i]?:=by
 subst h;rw[qp (by omega)];congr 1;omega
def nms:List Str:=["cd","c","ca","cda","cb","cab","cc","da","d","dab"]
theorem zeh:∀ x∈nms,Ltr x/\1<=x.length/\x.length<=12:=by
 have h:∀ x∈nms,(x.cps.toList.all λc=>decide (97<=c)&&decide (c<123))=true/\1<=x.length/\x.length<=12:=by decide +kernel
 intro x hx;obtain⟨h1,h2⟩:=h x hx;refine⟨λc hc=>?_,h2⟩;have:=sH.mp h1 c hc;simpa using this
theorem zrf:∀ x∈nms,NameOk x:=λx hx=>⟨(zeh x hx).2.1,(zeh x hx).2.2,(zeh x hx).1.occ⟩
theorem zks:nms.Nodup:=by decide +kernel
theorem zfR{s:S}{h:Nat}{hs:List (Str×Nat)}{z:Int}(hh:s[h]?=some (.lst (hs.map hD)))(h0:0<=z)(h1:z<hs.length):∃ x∈hs,atD s (.ref h) (.int z)=some (hD x):=by
 obtain⟨n,rfl⟩:=qY h0
 have hn:n<hs.length:=by omega
 refine⟨hs[n],rM _,?_⟩;rw[yO hh,atI_nat,tU,tQ hn];rfl
theorem zqm{s:S}{n:Nat}{a b:Int}{z:Int}(hh:s[n]?=some (.lst [.int a,.int b]))(h0:0<=z)(h1:z<2):atD s (.ref n) (.int z)=some (.int (if z=0 then a else b)):=by
 have:z=0\/z=1:=by omega
 rcases this with rfl | rfl
 . rw[yO hh];rfl
 . rw[yO hh];rfl
theorem vo{s:S}{n:Nat}{ds:List D}(h:s[n]?=some (.lst ds)):zfQ s (.ref n)=some ds.length:=by
 simp[zfQ,h]
theorem isl{s:S}{n:Nat}{ds:List D}(h:s[n]?=some (.lst ds)):uB s (.ref n)=true:=by
 simp[uB,h]
theorem RwOk.mono{s s':S}{hs:List (Str×Nat)}{r:Rw}(h:RwOk s hs r)(k:∀ o,s[r.a]?=some o->s'[r.a]?=some o):RwOk s' hs r:=⟨h.nm,h.src,h.tgt,h.arcs,h.len,k _ h.at_⟩
theorem kh{s:S}{g B:Nat}(h:Gen s g B):g<s.length:=by obtain⟨_,_,_,h,_⟩:=h;exact zq h
theorem hD0{x:Str×Nat}{s:S}:atD s (hD x) (.int 0)=some (.str x.1):=rfl
theorem zmE{s:S}{g B n M:Nat}{X:Xc}{Q:D->S->Prop}(hg:Gen s g (B+30000))(hn1:1<=n)(hn:n<=5)(hM:M<=10)
   (hQ:∀(s':S) (p h e:Nat) (hs:List (Str×Nat)) (l:List Rw),Fr g s s'->Gen s' g B->s'[p]?=some (.lst [.ref h,.ref e])->s'[h]?=some (.lst (hs.map hD))->s'[e]?=some (.lst (l.map rwD))->hs.length=n->(∀ i x,hs[i]?=some x->HOk i x)->(∀ q∈l,RwOk s' hs q)->l.map (·.nm)=nms.take l.length->l.length<=M->s.length<=h->s.length<=e->(∀ q∈l,q.A.length<=10)->Q (.ref p) s'):wE (d_law_drawn [.ref g,.int n,.int M] s) Q X:=by
 unfold d_law_drawn;refine(yD (by rfl)).mpr ?_;unfold b_law_drawn;have lg:=kh hg;simp;refine zmG (B:=B+20000) (hg.mono (by omega)) hn λs1 h hs f1 g1 lh hh hl0 hok=>?_;have nd:(hs.map (·.1)).Nodup:=zac hok (by omega);simp[zV hh,zhV,zaR nd];have f2:Pf s1 (s1++[O.dK (mvH hs),O.lst []]):=Pf.app;have l1:=f1.1
 have em:(s1++[O.dK (mvH hs),O.lst []])[s1.length]?=some (.dK (mvH hs)):=by
   rw[wA (s:=s1) 0 (by omega)];rfl
 have ee:(s1++[O.dK (mvH hs),O.lst []])[s1.length+1]?=some (.lst []):=by
   rw[wA (s:=s1) 1 (by omega)];rfl
 have hh2:=f2 _ _ hh;have g2:=f2.gen g1;have fr2:Fr g s (s1++[O.dK (mvH hs),O.lst []]):=f1.trans f2.fr;generalize s1++[O.dK (mvH hs),O.lst []]=s2 at *;generalize hm:s1.length=m at *;have lhm:=zq hh;refine yo (B:=B+19960) (g2.mono (by omega)) (by omega) (by omega) λz o p1 p2 g3=>?_;simp;rw[show small z=true by unfold small;simp;omega,yI];obtain⟨K,rfl⟩:=qY p1
 have hK:K<=M:=by omega
 refine yP (λ(r:List D) (σ:Fc.Env) (s':S)=>∃(l:List Rw) (t6 t7 t8 t9:Option D),r=(yx 0 K).drop l.length/\l.length<=K/\σ=[some (.ref g),some (.int n),some (.int M),some (.ref h),some (.ref m),some (.ref (m+1)),t6,t7,t8,t9]/\s'[m+1]?=some (.lst (l.map rwD))/\s'[m]?=some (.dK (mvH hs))/\s'[h]?=some (.lst (hs.map hD))/\Fr g s s'/\Gen s' g (B+1500*(K - l.length))/\(∀ q∈l,RwOk s' hs q/\(q.a≠m+1/\q.A.length<=10))/\l.map (·.nm)=nms.take l.length) (yx 0 K)
   ⟨[],none,none,none,none,rfl,by simp,rfl,?_,?_,?_,fr2.trans Fr.set,g3.mono (by simp;omega),by simp,rfl⟩ ?_ ?_
 . rw[zJ (by omega)];exact ee
 . rw[zJ (by omega)];exact em
 . rw[zJ (by omega)];exact hh2
 . rintro d r σ s' ⟨l,t6,t7,t8,t9,er,hle,rfl,he',hm',hh',hf,hgn,hok',hnm⟩;obtain⟨rfl,hlt,er⟩:=zcJ er.symm;refine⟨_,rfl,?_⟩;have lg':=kh hgn;simp[vo hh'];refine yo (B:=B+1500*(K - (l.length+1))+1400) (hgn.mono (by omega)) (by omega) (by omega) λz1 o1 p1 p2 g1=>?_
   have hh1:(s'.set g o1)[h]?=some (.lst (hs.map hD)):=by rw[zJ (by omega)];exact hh'
   have hm1:(s'.set g o1)[m]?=some (.dK (mvH hs)):=by rw[zJ (by omega)];exact hm'
   have he1:(s'.set g o1)[m+1]?=some (.lst (l.map rwD)):=by rw[zJ (by omega)];exact he'
   have hok1:∀ q∈l,RwOk (s'.set g o1) hs q/\(q.a≠m+1/\q.A.length<=10):=λq hq=>⟨(hok' q hq).1.mono λo e=>by
     have:q.a≠g:=λz=>by
       obtain⟨_,_,_,e2,_⟩:=hgn;have e3:=(hok' q hq).1.at_;rw[z,e2]at e3
       cases hA:q.A with
       | nil=>rw[hA]at e3;simp at e3
       | cons a A=>rw[hA]at e3;simp[aD]at e3
     rw[zJ (tY this)];exact e,(hok' q hq).2⟩
   have hf1:Fr g s (s'.set g o1):=hf.trans Fr.set;obtain⟨x,hx,ex⟩:=zfR hh1 p1 p2;generalize s'.set g o1=t1 at *;simp[ex,hD0,vo hh1];refine yo (B:=B+1500*(K - (l.length+1))+1360) (g1.mono (by omega)) (by omega) (by omega) λz2 o2 q1 q2 g2=>?_
   have hh2:(t1.set g o2)[h]?=some (.lst (hs.map hD)):=by rw[zJ (by omega)];exact hh1
   have hm2:(t1.set g o2)[m]?=some (.dK (mvH hs)):=by rw[zJ (by omega)];exact hm1
   have he2:(t1.set g o2)[m+1]?=some (.lst (l.map rwD)):=by rw[zJ (by omega)];exact he1
   have hok2:∀ q∈l,RwOk (t1.set g o2) hs q/\(q.a≠m+1/\q.A.length<=10):=λq hq=>⟨(hok1 q hq).1.mono λo e=>by
     have:q.a≠g:=λz=>by
       obtain⟨_,_,_,e2,_⟩:=g1;have e3:=(hok1 q hq).1.at_;rw[z,e2]at e3
       cases hA:q.A with
       | nil=>rw[hA]at e3;simp at e3
       | cons a A=>rw[hA]at e3;simp[aD]at e3
     rw[zJ (tY this)];exact e,(hok1 q hq).2⟩
   have hf2:Fr g s (t1.set g o2):=hf1.trans Fr.set;obtain⟨y,hy,ey⟩:=zfR hh2 q1 q2;generalize t1.set g o2=t2 at *;obtain⟨mx,_⟩:=zaA hm2 nd hx;obtain⟨my,_⟩:=zaA hm2 nd hy;simp[ey,hD0,mx,my]
   have hxk:x.2<4:=by
     obtain⟨i,hi,e⟩:=qd.mp hx;exact(hok i x (by rw[← e];exact tQ hi)).2.2.2.1
   have hyk:y.2<4:=by
     obtain⟨i,hi,e⟩:=qd.mp hy;exact(hok i y (by rw[← e];exact tQ hi)).2.2.2.1
   have pa:Pf t2 (t2++[O.lst [D.int 2,D.int 3]]):=Pf.app;have lg2:=kh g2;refine yo (B:=B+1500*(K - (l.length+1))+1320) ((pa.gen g2).mono (by omega)) (by omega) (by omega) λz3 o3 r1 r2 g4=>?_
   have e23:((t2++[O.lst [D.int 2,D.int 3]]).set g o3)[t2.length]?=some (.lst [.int 2,.int 3]):=by
     rw[zJ (by omega)];exact zH
   have hh4:((t2++[O.lst [D.int 2,D.int 3]]).set g o3)[h]?=some (.lst (hs.map hD)):=by rw[zJ (by omega)];exact pa _ _ hh2
   have hm4:((t2++[O.lst [D.int 2,D.int 3]]).set g o3)[m]?=some (.dK (mvH hs)):=by rw[zJ (by omega)];exact pa _ _ hm2
   have he4:((t2++[O.lst [D.int 2,D.int 3]]).set g o3)[m+1]?=some (.lst (l.map rwD)):=by rw[zJ (by omega)];exact pa _ _ he2
   have hok4:∀ q∈l,RwOk ((t2++[O.lst [D.int 2,D.int 3]]).set g o3) hs q/\(q.a≠m+1/\q.A.length<=10):=λq hq=>⟨(hok2 q hq).1.mono λo e=>by
     have:q.a≠g:=λz=>by
       obtain⟨_,_,_,e2,_⟩:=g2;have e3:=(hok2 q hq).1.at_;rw[z,e2]at e3
       cases hA:q.A with
       | nil=>rw[hA]at e3;simp at e3
       | cons a A=>rw[hA]at e3;simp[aD]at e3
     rw[zJ (tY this)];exact pa _ _ e,(hok2 q hq).2⟩
   have hf4:Fr g s ((t2++[O.lst [D.int 2,D.int 3]]).set g o3):=(hf2.trans pa.fr).trans Fr.set;generalize (t2++[O.lst [D.int 2,D.int 3]]).set g o3=t4 at *;simp[zqm e23 r1 r2];refine zmB (B:=B+1500*(K - (l.length+1))) (g4.mono (by omega)) (by omega) (by omega) (by split <;> omega) (by split <;> omega) λa t5 A f5 g5 ha hA lA la=>?_;have lt4:=zq he4
   have hne:m+1≠g:=by omega
   have he5:=f5.2 _ hne _ he4;have hh5:=f5.2 _ (show h≠g by omega) _ hh4;have hm5:=f5.2 _ (show m≠g by omega) _ hm4
   have hok5:∀ q∈l,RwOk t5 hs q/\(q.a≠m+1/\q.A.length<=10):=λq hq=>⟨(hok4 q hq).1.mono λo e=>by
     have:q.a≠g:=λz=>by
       obtain⟨_,_,_,e2,_⟩:=g4;have e3:=(hok4 q hq).1.at_;rw[z,e2]at e3
       cases hA:q.A with
       | nil=>rw[hA]at e3;simp at e3
       | cons a A=>rw[hA]at e3;simp[aD]at e3
     exact f5.2 _ this _ e,(hok4 q hq).2⟩
   have hil:=isl he5;simp[hil];have pb:Pf t5 (t5++[O.lst [D.str "cd",D.str "c",D.str "ca",D.str "cda",D.str "cb",D.str "cab",D.str "cc",D.str "da",D.str "d",D.str "dab"]]):=Pf.app
   have hK9:l.length<10:=by omega
   obtain⟨nm,hnmem,hnget,hat⟩:∃ nm∈nms,nms[l.length]?=some nm/\atD (t5++[O.lst [D.str "cd",D.str "c",D.str "ca",D.str "cda",D.str "cb",D.str "cab",D.str "cc",D.str "da",D.str "d",D.str "dab"]]) (.ref t5.length) (.int l.length)=some (.str nm):=by
     have hl10:l.length<nms.length:=hK9;refine⟨nms[l.length],rM _,tQ hl10,?_⟩;rw[yO zH,atI_nat];have:([D.str "cd",D.str "c",D.str "ca",D.str "cda",D.str "cb",D.str "cab",D.str "cc",D.str "da",D.str "d",D.str "dab"]:List D)=nms.map .str:=rfl;rw[this,tU,tQ hl10];rfl
   have he6:=pb _ _ he5;have hh6:=pb _ _ hh5;have hm6:=pb _ _ hm5;have ha6:=pb _ _ ha;have g6:=pb.gen g5;have f6:Fr g s (t5++[O.lst [D.str "cd",D.str "c",D.str "ca",D.str "cda",D.str "cb",D.str "cab",D.str "cc",D.str "da",D.str "d",D.str "dab"]]):=(hf4.trans f5).trans pb.fr
   have hok6:∀ q∈l,RwOk (t5++[O.lst [D.str "cd",D.str "c",D.str "ca",D.str "cda",D.str "cb",D.str "cab",D.str "cc",D.str "da",D.str "d",D.str "dab"]]) hs q/\(q.a≠m+1/\q.A.length<=10):=λq hq=>⟨(hok5 q hq).1.mono λo e=>pb _ _ e,(hok5 q hq).2⟩
   generalize t5++[O.lst [D.str "cd",D.str "c",D.str "ca",D.str "cda",D.str "cb",D.str "cab",D.str "cc",D.str "da",D.str "d",D.str "dab"]]=t6 at *;have l6:=zq he6;simp[hat,zV he6];rw[decide_eq_true (by omega),yI]
   have hk:∀(w:Nat) (o:O),w≠m+1->t6[w]?=some o->(t6.set (m+1) (.lst (l.map rwD++[rwD ⟨nm,x,y,A,a⟩])))[w]?=some o:=λw o hw e=>by
     rw[zJ (tY hw)];exact e
   refine⟨l++[⟨nm,x,y,A,a⟩],by simp[er],by simp;omega,?_,?_,?_,?_,?_,?_,?_⟩
   . have:=yM (o:=.lst (l.map rwD++[rwD ⟨nm,x,y,A,a⟩])) l6;simpa[rwD]using this
   . first | exact hm6 | exact hk _ _ (by omega) hm6
   . exact hk _ _ (by omega) hh6
   . refine⟨by simpa using f6.1,λw hw o e=>?_⟩;have:=zq e;exact hk _ _ (by omega) (f6.2 w hw o e)
   . have lz:(l++[(⟨nm,x,y,A,a⟩:Rw)]).length=l.length+1:=by simp
     rw[lz];obtain⟨u1,u2,u3,u4,u5⟩:=g6;exact⟨u1,u2,u3,hk _ _ (by omega) u4,u5⟩
   . intro q hq
     rcases tZ.mp hq with hq | hq
     . exact⟨(hok6 q hq).1.mono λo e=>hk _ _ (hok6 q hq).2.1 e,(hok6 q hq).2⟩
     . simp only[tR,rK,or_false]at hq;subst hq;exact⟨⟨zrf _ hnmem,hx,hy,hA,by show A.length<=40;omega,hk _ _ (by show a≠m+1;omega) ha6⟩,by show a≠m+1;omega,by show A.length<=10;omega⟩
   . have lz:(l++[(⟨nm,x,y,A,a⟩:Rw)]).length=l.length+1:=by simp
     rw[lz,List.take_add_one,hnget,sV,hnm];rfl
 . rintro σ s' ⟨l,t6,t7,t8,t9,er,hle,rfl,he',hm',hh',hf,hgn,hok',hnm⟩
   have hl:l.length=K:=by
     have z:((yx 0 K).drop l.length).length=0:=by rw[← er];rfl
     simp[yx]at z;omega
   simp;have pa:Pf s' (s'++[O.lst [D.ref h,D.ref (m+1)]]):=Pf.app;exact hQ _ s'.length h (m+1) hs l (hf.trans pa.fr) ((pa.gen hgn).mono (by omega)) zH (pa _ _ hh') (pa _ _ he') hl0 hok (λq hq=>(hok' q hq).1.mono λo e=>pa _ _ e) hnm (by omega) (by omega) (by omega) (λq hq=>(hok' q hq).2.2)
section
variable{s:S}{X:Xc}{Q:D->S->Prop}
theorem zdI{p:Nat}{fs:List (Str×D)}(h:s[p]?=some (.ins "Program" fs))(hQ:Q .non s):wE (d_check_program [.ref p] s) Q X:=by
 unfold d_check_program;refine(yD (by rfl)).mpr ?_;unfold b_check_program
 have:(["Program"]:List Str).contains "Program"=true:=by decide +kernel
 simp[zoK h];exact hQ
end
structure PA(s:S)(p m k:Nat)(hs:List (Str×Nat))(l:List Rw):Prop where
 at_:s[p]?=some (.ins "Program" [("many",.ref m),("known",.ref k)])
 many:s[m]?=some (.dK (mvH hs))
 known:s[k]?=some (.dK (kvP l))
def gv(d:D):Bool:=match d with
 | .int i=>decide (0<=i)
 | _=>false
def isInt(d:D):Bool:=match d with
 | .int _=>true
 | _=>false
def noRef(d:D):Bool:=match d with
 | .ref _=>false
 | .rol _=>false
 | .stu _=>false
 | _=>true
def Te(d:D):Prop:=noRef d=true/\∃ x:PyData,(∀(s:S) (n:Nat),dat s (n+2) d=some x)/\x.canLay0=true/\x.depth<=3
theorem znV{i:Int}:Te (.int i):=⟨rfl,.int i,λs n=>vZ,rfl,by simp only[PyData.depth];omega⟩
theorem znW{x:Str}(h:okS x):Te (.str x):=⟨rfl,.str x,λs n=>xZ,xT.mpr h,by simp only[PyData.depth];omega⟩
theorem tes:∀{ds:List D},(∀ d∈ds,Te d)->∃ xs:List PyData,(∀(s:S) (n:Nat),dats s (n+2) ds=some xs)/\PyData.canLayAll0 xs=true/\PyData.depthAll xs<=3/\xs.length=ds.length
 | [],_=>⟨[],λs n=>yQ,rfl,by decide,rfl⟩
 | d::ds,h=>by
  obtain⟨_,x,h1,h2,h3⟩:=h d (tH);obtain⟨xs,k1,k2,k3,k4⟩:=tes λd hd=>h d (tV _ hd);refine⟨x::xs,λs n=>zP (h1 s n) (k1 s n),?_,?_,by simp[k4]⟩
  . simp only[PyData.canLayAll0,h2,k2,rC]
  . simp only[PyData.depthAll];omega
theorem zge{s:S}{n m:Nat}{ds:List D}(hd:∀ d∈ds,Te d)(h:s[n]?=some (.lst ds))(h2:s[m]?=some (.lst [])):eqD s (.ref n) (.ref m)=some ds.isEmpty:=by
 obtain⟨xs,h1,k2,k3,k4⟩:=tes hd;rw[zeY (x:=.list xs) (y:=.list []) (by rw[xF h,h1 s 57];rfl) (by rw[xF h2,yQ];rfl) ?_ vY]
 . cases ds with
   | nil =>
    have:xs=[]:=qZ (by simpa using k4);subst this;rfl
   | cons d ds =>
    cases xs with
    | nil=>simp at k4
    | cons x xs=>rfl
 . refine rE.mpr ⟨by simp only[PyData.canLay0,k2],decide_eq_true ?_⟩;simp only[PyData.depth];omega
section
variable{s s':S}{p m k:Nat}{hs:List (Str×Nat)}{l:List Rw}{X:Xc}{Q:D->S->Prop}{d:D}
theorem PA.pf(h:PA s p m k hs l)(f:Pf s s'):PA s' p m k hs l:=⟨f _ _ h.at_,f _ _ h.many,f _ _ h.known⟩
theorem PA.fm(h:PA s p m k hs l):zhw s (.ref p) "many"=some (.ref m):=by
 rw[jZ h.at_];rfl
theorem PA.fk(h:PA s p m k hs l):zhw s (.ref p) "known"=some (.ref k):=by
 rw[jZ h.at_];rfl
theorem PA.isM(h:PA s p m k hs l){x:Str}(hx:List.lookup x [(("many":Str),D.ref m),("known",.ref k)]=none):zoJ s (.ref p) "Program" x=true:=zjL h.at_ hx
theorem zfx(hd:noRef d=true)(hQ:Q (.bl (isInt d)) s):wE (d_is_whole [d] s) Q X:=by
 unfold d_is_whole;refine(yD (by rfl)).mpr ?_;unfold b_is_whole
 cases d with
 | ref n=>cases hd
 | rol n=>cases hd
 | stu n=>cases hd
 | _=>simp;exact hQ
theorem zcO{x:Str×Nat}(h:PA s p m k hs l)(nd:(hs.map (·.1)).Nodup)(hx:x∈hs)(hQ:Q .non s):wE (d_check_function_name [.ref p,.str x.1] s) Q X:=by
 unfold d_check_function_name;refine(yD (by rfl)).mpr ?_;unfold b_check_function_name;simp[h.fm,(zaA h.many nd hx).2];exact hQ
theorem zpK{ds:List D}{n:Nat}(hl:ds.length=n)(hl2:ds.length<1000)(ht:∀ d∈ds,Te d)(hQ:∀ s',Pf s s'->Q (.bl (ds.all gv)) s'):wE (d_are_values [.tup ds,.int n] s) Q X:=by
 unfold d_are_values;refine(yD (by rfl)).mpr ?_;unfold b_are_values;simp[wL,hl,srcOf];refine zlt (λd=>if gv d=true then none else some d) (by omega) (λd hd s' pf=>?_) λs3 p3 h3=>?_
 . refine⟨_,rfl,?_⟩;simp[Fc.wipe];refine zfx (ht d hd).1 ?_
   cases d with
   | int i =>
     simp[isInt,gv];refine⟨Pf.refl,?_⟩;by_cases z:i<0
     . rw[if_pos z];refine⟨Pf.refl,?_⟩;omega
     . rw[if_neg z];omega
   | _ =>
     simp[isInt,gv];exact Pf.refl
 . have e4:=zge (s:=s3++[O.lst []]) (n:=s.length) (m:=s3.length) (ds:=ds.filterMap λd=>if gv d=true then none else some d) (λd hd=>?_) (Pf.app _ _ h3) zH
   . rw[e4]
     have e5:(ds.filterMap λd=>if gv d=true then none else some d).isEmpty=ds.all gv:=by
       generalize ds=ds
       induction ds with
       | nil=>rfl
       | cons d ds ih =>
        rw[rD,pU]
        cases z:gv d with
        | true=>simpa using ih
        | false=>simp
     rw[e5];exact hQ _ (p3.trans Pf.app)
   . obtain⟨d',h1,h2⟩:=List.mem_filterMap.mp hd;split at h2
     . cases h2
     . cases h2;exact ht _ h1
def vD(v:List Int):D:=.tup (v.map .int)
theorem zaY{v:List Int}{n:Nat}(hv:∀ x∈v,0<=x)(hl:v.length=n)(hl2:n<1000)(hQ:∀ s',Pf s s'->Q .non s'):wE (d_check_values [vD v,.int n] s) Q X:=by
 unfold d_check_values;refine(yD (by rfl)).mpr ?_;unfold b_check_values;simp;refine zpK (by simpa using hl) (by simp;omega) (λd hd=>?_) λs' f=>?_
 . obtain⟨x,hx,rfl⟩:=tM.mp hd;exact znV
 . have:(v.map D.int).all gv=true:=by
    rw[sH];intro d hd;obtain⟨x,hx,rfl⟩:=tM.mp hd;exact decide_eq_true (hv x hx)
   simp[this];exact hQ _ f
structure RA(s:S)(r p q:Nat)(pl:List D):Prop where
 at_:s[r]?=some (.ins "Run" [("base",.ref p),("places",.ref q)])
 pls:s[q]?=some (.lst pl)
theorem RA.pf{r q:Nat}{pl:List D}(h:RA s r p q pl)(f:Pf s s'):RA s' r p q pl:=⟨f _ _ h.at_,f _ _ h.pls⟩
theorem RA.fb{r q:Nat}{pl:List D}(h:RA s r p q pl):zhw s (.ref r) "base"=some (.ref p):=by
 rw[jZ h.at_];rfl
theorem RA.fp{r q:Nat}{pl:List D}(h:RA s r p q pl):zhw s (.ref r) "places"=some (.ref q):=by
 rw[jZ h.at_];rfl
theorem RA.isM{r q:Nat}{pl:List D}(h:RA s r p q pl){x:Str}(hx:List.lookup x [(("base":Str),D.ref p),("places",.ref q)]=none):zoJ s (.ref r) "Run" x=true:=zjL h.at_ hx
def plD(n:D)(x:Str)(v:List Int):D:=.tup [n,.str x,vD v]
theorem zgN{r:Nat}{x:Str×Nat}{v:List Int}(hr:s[r]?=some (.ins "Run" []))(h:PA s p m k hs l)(nd:(hs.map (·.1)).Nodup)(hx:x∈hs)(hv:∀ x∈v,0<=x)(hl:v.length=x.2)(hl2:x.2<1000)
   (hQ:∀(s':S) (q:Nat),s.length<=q->(∀ n:Nat,n≠r->∀ o,s[n]?=some o->s'[n]?=some o)->RA s' r p q [plD .non x.1 v]->s.length<=s'.length->Q .non s'):wE (d_Run_init [.ref r,.ref p,.str x.1,vD v] s) Q X:=by
 unfold d_Run_init;refine(yD (by rfl)).mpr ?_;unfold b_Run_init;simp;refine zdI h.at_ ?_;refine zcO h nd hx ?_;simp[h.fm,(zaA h.many nd hx).1];refine zaY hv hl hl2 λs1 f1=>?_;have hr1:=f1 _ _ hr;have lr:=zq hr1;simp[zex hr1,fput];have hr2:(s1.set r (.ins "Run" [("base",D.ref p)])++[.lst [plD .non x.1 v]])[r]?=some (.ins "Run" [("base",D.ref p)]):=Pf.app _ _ (yM lr);have e:=zex (f:="places") (v:=.ref s1.length) hr2 (by simp);simp[plD]at e;simp[e,fput];have l0:=f1.len
 have ne:r≠s1.length:=by omega
 refine hQ _ s1.length l0 ?_ ⟨?_,?_⟩ ?_
 . intro n hn o h;rw[zJ (tY hn)];refine Pf.app _ _ ?_;rw[zJ (tY hn)];exact f1 _ _ h
 . rw[yM (by simp;omega),if_neg (by decide)]
 . rw[zJ ne,wA (s:=s1.set r (.ins "Run" [("base",D.ref p)])) 0 (by simp)];rfl
 . simp;omega
end
section
variable{s:S}{X:Xc}{Q:D->S->Prop}
theorem zco{m n:Nat}{a b:List D}(h1:s[m]?=some (.lst a))(h2:s[n]?=some (.lst b))(hl:a.length+b.length<=16777216):wE (xH (.ref m) (.ref n) s) Q X↔Q (.ref s.length) (s++[.lst (a++b)]):=by
 with_unfolding_all
  unfold xH;dsimp only;rw[h1,h2];dsimp only;rw[if_pos (zbv hl)];exact Iff.rfl
theorem zmY{n:Nat}{kvs:List (L2.Key×D)}(h:s[n]?=some (.dK kvs)):wE (zab [.ref n] s) Q X↔Q (.ref s.length) (s++[.lst (kvs.map λkv=>dOf kv.1)]):=by
 with_unfolding_all
  unfold zab;dsimp only;rw[h];exact Iff.rfl
end
theorem HOk.last{i:Nat}{y:Str×Nat}(hi:i<5)(h:HOk i y):∃ c,y.1.cps.toList.getLast?=some c/\107<=c/\c<=111:=by
 have key:∀ i:Fin 5,107<=klm.cps.toList.getD i 0/\klm.cps.toList.getD i 0<=111:=by decide +kernel
 exact⟨_,h.2.2.2.2,key ⟨i,hi⟩⟩
def Hl(hs:List (Str×Nat)):Prop:=∀ h∈hs,(∃ c,h.1.cps.toList.getLast?=some c/\107<=c/\c<=111)/\Ltr h.1/\h.1.length<=4/\h.2<4
theorem zqG{hs:List (Str×Nat)}(h:∀ i x,hs[i]?=some x->HOk i x)(hl:hs.length<=5):Hl hs:=by
 intro x hx;obtain⟨i,hi,e⟩:=qd.mp hx;have k:=h i x (by rw[← e];exact tQ hi);exact⟨k.last (by omega),k.1,k.2.2.1,k.2.2.2.1⟩
section
variable{s:S}{hs:List (Str×Nat)}{X:Xc}{Q:D->S->Prop}{p m k:Nat}{l:List Rw}
theorem zmI(h:PA s p m k hs l)(hQ:Q (.ref s.length) (s++[.lst (l.map λq=>.str q.nm)])):wE (d_Program_names [.ref p] s) Q X:=by
 unfold d_Program_names;refine(yD (by rfl)).mpr ?_;unfold b_Program_names;simp[h.fk];rw[zmY h.known]
 have e:(kvP l).map (λkv=>dOf kv.1)=l.map λq=>.str q.nm:=by
  unfold kvP;rw[sO];rfl
 rw[e];exact hQ
end
end P85
namespace Fc
open PySem PySem.Spec PyProof.Rows
def leS(a b:Str):Bool:=!ltCps b.cps.toList a.cps.toList
theorem zae{a b:Str}:leS a b=true↔a.cps.toList<=b.cps.toList:=by
 unfold leS;rw[ltCps_eq];simp
theorem zfg(a b c:Str)(h1:leS a b=true)(h2:leS b c=true):leS a c=true :=
 zae.mpr (List.le_trans (zae.mp h1) (zae.mp h2))
theorem zka(a b:Str):(leS a b||leS b a)=true:=by
 rcases List.le_total a.cps.toList b.cps.toList with h | h
 . rw[zae.mpr h];rfl
 . rw[zae.mpr h,Bool.or_true]
theorem zhG{a b:Str}(h1:leS a b=true)(h2:leS b a=true):a=b:=by
 have:=List.le_antisymm (zae.mp h1) (zae.mp h2);exact Str.ext' (Array.toList_inj.mp this)
noncomputable def mst(ks:List Str):List Str:=ks.mergeSort leS
theorem wy{ks:List Str}:(mst ks).Perm ks:=oh ..
theorem zhN{ks:List Str}:(mst ks).Pairwise (λa b=>leS a b=true):=List.pairwise_mergeSort zfg zka ks
theorem zfv:∀(l:List Str) (p:Str),risingS p l=true->(∀ x∈l,leS p x=true)/\l.Pairwise (λa b=>leS a b=true)
 | [],p,_=>⟨λx hx=>by simp at hx,.nil⟩
 | x::r,p,h=>by
  simp only[risingS,sG]at h;obtain⟨k1,k2⟩:=zfv r x h.2;have hp:leS p x=true:=h.1;refine⟨λy hy=>?_,List.pairwise_cons.mpr ⟨k1,k2⟩⟩
  rcases tR.mp hy with rfl | hy
  . exact hp
  . exact zfg _ _ _ hp (k1 y hy)
theorem zlb{l:List Str}(h:sortedS l=true):l.Pairwise (λa b=>leS a b=true):=by
 cases l with
 | nil=>exact .nil
 | cons x r =>
  obtain⟨k1,k2⟩:=zfv r x h;exact List.pairwise_cons.mpr ⟨k1,k2⟩
theorem zla{ks:List Str}:SortU ks (mst ks):=by
 refine⟨wy,sortedS_of_pairwise _ (zhN.imp λ{a b} h=>?_),λzs h1 h2=>?_⟩
 . unfold leS at h;simpa using h
 . exact List.Perm.eq_of_pairwise (le:=λa b=>leS a b=true) (λa b _ _=>zhG) (zlb h2) zhN (h1.trans wy.symm)
theorem zcN{ks:List Str}:zai ks=some (mst ks):=ziU zla
end Fc
namespace P85
open PySem Fc P1
def oD:Option Int->D
 | none=>.non
 | some i=>.int i
def tp(v:List Int)(a:Arc):Int:=v.getD a.1 0 - (if a.2.2=true then 1 else 0)
def neg(v:List Int)(a:Arc):Bool:=decide (tp v a<0)
def mn(o:Option Int)(t:Int):Int:=match o with
 | none=>t
 | some u=>min u t
def ngo:Option Int->Bool
 | none=>false
 | some i=>decide (i<0)
theorem zrd{o:Option Int}{t:Int}:ngo (some (mn o t))=(ngo o||decide (t<0)):=by
 cases o with
 | none=>rw[show ngo none=false from rfl,Bool.false_or];rfl
 | some u =>
  simp only[ngo,mn];rw[← Bool.decide_or];exact decide_eq_decide.mpr (by omega)
theorem any_put:∀{f:List (Option Int)}{j:Nat}{o:Option Int}{t:Int},f[j]?=some o->(f.set j (some (mn o t))).any ngo=(f.any ngo||decide (t<0))
 | [],j,o,t,h=>by simp at h
 | a::f,0,o,t,h=>by
  simp at h;subst h;rw[oK,qD,qD,zrd];cases ngo a <;> cases decide (t<0) <;> simp
 | a::f,j+1,o,t,h=>by
  simp at h;rw[oM,qD,qD,any_put h,Bool.or_assoc]
theorem wM:∀{l:List Rw}{q:Rw},(l.map (·.nm)).Nodup->q∈l->kget (kvP l) (.inr q.nm)=some (.tup [.str q.src.1,.str q.tgt.1,.tup (q.A.map aD)])
 | h::l,q,nd,hx=>by
  rw[tK,qW]at nd
  rcases tR.mp hx with rfl | hx
  . simp[kvP,kget]
  . have ne:¬ ((Sum.inr h.nm:L2.Key)=Sum.inr q.nm):=λz=>by
     injection z with z
     exact nd.1 (by rw[z];exact tM.mpr ⟨q,hx,rfl⟩)
    have r:=wM nd.2 hx;unfold kget kvP at r ⊢;rw[tK,rQ];simp only[ne,decide_false];exact r
theorem vf{s:S}{a b:Str}(ha:okS a)(hb:okS b):eqD s (.str a) (.str b)=some (decide (a=b)):=by
 rw[zeY xZ xZ (rE.mpr ⟨xT.mpr ha,by simp[PyData.depth]⟩) (rE.mpr ⟨xT.mpr hb,by simp[PyData.depth]⟩)];simp only[PyData.eqv];congr 1
section
variable{s:S}{hs:List (Str×Nat)}{X:Xc}{Q:D->S->Prop}{p r q:Nat}{l:List Rw}{pl:List D}
theorem uK{n:D}{x:Str}{v:List Int}(h:RA s r p q pl)(hl:L2.atI pl (-1)=some (plD n x v))(hQ:Q (.str x) s):wE (d_Run_function [.ref r] s) Q X:=by
 unfold d_Run_function;refine(yD (by rfl)).mpr ?_;unfold b_Run_function;simp[h.fp,yO h.pls,hl,plD];exact hQ
theorem jB{n:D}{x:Str}{v:List Int}(h:RA s r p q pl)(hl:L2.atI pl (-1)=some (plD n x v))(hQ:Q (vD v) s):wE (d_Run_held [.ref r] s) Q X:=by
 unfold d_Run_held;refine(yD (by rfl)).mpr ?_;unfold b_Run_held;simp[h.fp,yO h.pls,hl,plD];exact hQ
structure Cl(hs:List (Str×Nat))(l:List Rw)(y:Rw):Prop where
 mem:y∈l
 src:y.src∈hs
 tgt:y.tgt∈hs
 arcs:∀ a∈y.A,a.1<y.src.2/\a.2.1<y.tgt.2
theorem zsx{v:List Int}{i:Nat}(hi:i<v.length):L2.atI (v.map D.int) (i:Int)=some (.int (v.getD i 0)):=by
 rw[atI_nat,tU,tQ hi,sU,tQ hi];rfl
theorem zmj{n:Nat}{f:List (Option Int)}{j:Nat}{i:Int}(h:s[n]?=some (.lst (f.map oD)))(hj:j<f.length):Fc.putAt s (.ref n) (.int j) (.int i)=some (s.set n (.lst ((f.set j (some i)).map oD))):=by
 simp only[Fc.putAt,h]
 have:L2.ixN (f.map oD).length (j:Int)=some j:=by
  unfold L2.ixN;rw[if_pos (by omega),if_pos (by simp;omega)];simp
 rw[this];simp only[sE,qC];rfl
theorem ztW{n:Nat}{f:List (Option Int)}{j:Nat}{o:Option Int}(h:s[n]?=some (.lst (f.map oD)))(hj:f[j]?=some o):atD s (.ref n) (.int j)=some (oD o):=by
 rw[yO h,atI_nat,tU,hj];rfl
end
section
variable{q:Nat}{l:List Rw}
def opn(x:Str)(v:List Int)(y:Rw):Bool:=decide (y.src.1=x)&&!(y.A.any (neg v))
theorem zlq:∀ l:List Rw,vO (kvP l)=some (l.map (·.nm))
 | []=>rfl
 | q::l=>by
  have:=zlq l;unfold kvP at this ⊢;rw[tK];simp only[vO,this];rfl
def opN(x:Str)(v:List Int)(l:List Rw)(n:Str):Bool:=l.any λy=>decide (y.nm=n)&&opn x v y
theorem zkC{x:Str}{v:List Int}{l:List Rw}{y:Rw}(nl:(l.map (·.nm)).Nodup)(hy:y∈l):opN x v l y.nm=opn x v y:=by
 unfold opN
 cases ho:opn x v y with
 | true=>exact List.any_eq_true.mpr ⟨y,hy,by simp[ho]⟩
 | false =>
  rw[qK];intro z hz hc;simp only[sG,decide_eq_true_eq]at hc
  have:z=y:=by
   obtain⟨i,hi,e1⟩:=qd.mp hz;obtain⟨j,hj,e2⟩:=qd.mp hy;have hp:=List.pairwise_iff_getElem.mp nl
   have hij:i=j:=by
    rcases Nat.lt_trichotomy i j with h | h | h
    . exact absurd (by rw[qN,qN,e1,e2,hc.1]) (hp i j (by simpa using hi) (by simpa using hj) h)
    . exact h
    . exact absurd (by rw[qN,qN,e1,e2,hc.1]) (hp j i (by simpa using hj) (by simpa using hi) h)
   subst hij;rw[← e1,← e2]
  rw[this,ho]at hc;exact absurd hc.2 (by simp)
end
theorem zdv{s:S}{g B n:Nat}{ds:List D}(hg:Gen s g B)(h:s[n]?=some (.lst ds))(hd:∀ d∈ds,∀ i,d≠.int i):n≠g:=λz=>by
 obtain⟨a,b,c,e,_⟩:=hg;rw[z,e]at h;cases h;exact hd (.int a) (by simp) a rfl
section
variable{s:S}{X:Xc}{Q:D->S->Prop}{h:Nat}
theorem zcp{n:Nat}{ds:List D}{lo hi:Option Int}(h:s[n]?=some (.lst ds)):wE (zph (.ref n) lo hi s) Q X↔Q (.ref s.length) (s++[.lst (zeG ds lo hi)]):=by
 with_unfolding_all
  unfold zph;dsimp only;rw[h];exact Iff.rfl
theorem uo{n:Nat}:∀ v:List Int,dats s n (v.map .int)=some (v.map .int)
 | []=>by simp
 | a::v=>zP vZ (uo v)
theorem zca:∀ v:List Int,PyData.canLayAll0 (v.map .int)=true/\PyData.depthAll (v.map .int)<=1
 | []=>by simp[PyData.canLayAll0,PyData.depthAll]
 | a::v=>by
  have:=zca v;simp[PyData.canLayAll0,PyData.depthAll,PyData.canLay0,PyData.depth,this]
theorem zqz{v:List Int}:eqD s (vD v) (vD v)=some true:=by
 have k:=zca v;refine eq_self (x:=.tuple (v.map .int)) (by unfold vD;rw[ue,uo];rfl) (by unfold vD;rw[ue,uo];rfl) ?_;refine rE.mpr ⟨by simp only[PyData.canLay0,k.1],decide_eq_true (by simp only[PyData.depth];omega)⟩
end
end P85
namespace PW
open PySem Fc P1 P85
noncomputable section
end
theorem zrX{s:S}{n:Nat}{F:Mt}{ps:List Pr}{d1:D}{i j:Nat}{f:Bool}{P:Pst}(hn:s[n]?=some (.dT (kvO F ps)))(hp:Pls F ps)(hi:i<3)(hj:j<3)(hF:Bd2 F)(hf0:∀ a b,(a,b)∉ps->F a b=0)
   (h2:∀ ps',Pls (wZ F i j (max (F i j) (1+f.toNat))) ps'->P.nx [some d1,some (.ref n),some (.int i),some (.int j),some (.bl f)] (s.set n (.dT (kvO (wZ F i j (max (F i j) (1+f.toNat))) ps')))) :
   wC (jE (zf 1) (eN wg (za (zf 2) (za (zf 3) zj))) (eOr (zdV (zf 1) (eN wg (za (zf 2) (za (zf 3) zj))) (eC (.bl false))) (zf 4)) [some d1,some (.ref n),some (.int i),some (.int j),some (.bl f)] s) P:=by
 have hl:=hp.len
 have g:uL s (.ref n) (.tup [.int i,.int j])=some (kget (kvO F ps) (kD (i,j))):=by
   unfold uL rd;simp[hn,unl,dget,keysOf,keyOf];rfl
 have isd:isDict s (.ref n)=true:=by simp[isDict,rd,hn,unl]
 have key:∀ w:Nat,0<w->Fc.putAt s (.ref n) (.tup [.int i,.int j]) (.bl (w == 2))=some (s.set n (.dT (kvO (wZ F i j w) (if (i,j)∈ps then ps else ps++[(i,j)])))):=λw hw=>by
   unfold Fc.putAt;dsimp only;rw[hn];dsimp only
   have hlen:(kvO F ps).length<16777216:=by simp[kvO];omega
   have e:=zhF (F:=F) (p:=(i,j)) (w:=w) (ps:=ps);unfold dput;dsimp only;rw[if_pos hlen];simp[keysOf,keyOf];unfold kD at e;rw[e]
 have kgf:(kget (kvO F ps) (kD (i,j))).getD (.bl false)=.bl (F i j == 2):=by
   rw[zbF];by_cases h:(i,j)∈ps
   . rw[if_pos h];rfl
   . rw[if_neg h,hf0 i j h];rfl
 simp;rw[isd,yI,g];simp only[zK];rw[kgf];simp;have hb:=hF i j
 have fin:∀ c:Bool,c=(max (F i j) (1+f.toNat) == 2)->onO (Fc.putAt s (.ref n) (.tup [.int i,.int j]) (.bl c)) λs4=>P.nx [some d1,some (.ref n),some (.int i),some (.int j),some (.bl f)] s4:=by
   rintro c rfl;rw[key _ (by omega)];exact h2 _ (hp.put (p:=(i,j)) hi hj (by omega))
 refine xX (λhc=>?_) λhc=>?_
 . have hc:F i j=2:=by simpa using hc
   rw[hc];refine fin _ ?_;rw[hc];cases f <;> rfl
 . have hc:¬ F i j=2:=by simpa using hc
   have hv:F i j=0\/F i j=1:=by omega
   refine fin _ ?_
   rcases hv with e | e <;> rw[e] <;> cases f <;> rfl
theorem dj0:DJ (λ_ _=>0) []:=⟨⟨pA,λp=>by simp⟩,λ_ _=>by omega,λ_ _ _=>rfl⟩
def mOf(A:List Arc):Mt:=wH (λ_ _=>0) A
end PW
namespace Fc
open PySem
theorem ztj{s:S}{X:Xc}{Q:D->S->Prop}{n:Nat}{ds:List D}{d:D}(h:s[n]?=some (.lst (ds++[d]))):wE (zqg (.ref n) [] s) Q X↔Q d (s.set n (.lst ds)):=by
 with_unfolding_all
  unfold zqg zqh;dsimp only;rw[h];dsimp only
  have e:(ds++[d])[(ds++[d]).length - 1]?=some d:=by simp
  rw[e];simp
theorem zbi{s:S}{n:Nat}{kvs:List (D×D)}(h:s[n]?=some (.dN kvs)):zgq s n=some kvs:=by simp[zgq,h]
theorem zko{s:S}{n:Nat}{kvs:List (D×D)}{y:D}{k:NestedKey}(h:s[n]?=some (.dN kvs))(hk:nkT y=some k):jm s (.ref n) y=some (wD kvs k):=by simp[jm,zbi h,hk]
theorem zen{s:S}{n:Nat}{kvs:List (D×D)}{y v:D}{k:NestedKey}(h:s[n]?=some (.dN kvs))(hk:nkT y=some k)(hl:kvs.length<16777216):putN s (.ref n) y v=some (s.set n (.dN (zee kvs k y v))):=by simp[putN,h,hk,hl]
theorem zaw{kvs:List (D×D)}{k:NestedKey}{y v:D}(h:wD kvs k=none):zee kvs k y v=kvs++[(y,v)]:=by
 unfold wD at h;unfold zee;rw[if_neg];intro z;rw[Option.map_eq_none_iff,pZ]at h;rw[List.any_eq_true]at z;obtain⟨x,hx,hy⟩:=z;exact h x hx hy
end Fc
namespace PW
open PySem Fc P1 P85
def TabV(d:D):Prop:=∃(b e:Str) (M:Mt),d=zcP b e M/\okS b/\okS e
def zpT(b e:Str)(M:Mt):PyData:=.tuple [.str b,.str e,.tuple ((yH M).map zcU)]
theorem zlL{s:S}{n:Nat}{b e:Str}{M:Mt}:dat s (n+3) (zcP b e M)=some (zpT b e M):=by
 unfold zcP;rw[ue,zP xZ (zP xZ (zP (x:=.tuple ((yH M).map zcU)) (xs:=[]) (by rw[ue,zam zcU (λa=>zdR a)];rfl) yQ))];rfl
theorem zin{s:S}:∀{ds:List D},(∀ d∈ds,TabV d)->∃ xs,dats s 59 ds=some xs/\PyData.canLayAll0 xs=true/\PyData.depthAll xs<=10/\xs.length=ds.length
 | [],_=>⟨[],yQ,rfl,by decide,rfl⟩
 | d::ds,h=>by
  obtain⟨b,e,M,rfl,hb,he⟩:=h d (tH);obtain⟨xs,k1,k2,k3,k4⟩:=zin λd hd=>h d (tV _ hd);have k:=zbC (yH M);refine⟨_::xs,zP zlL k1,?_,?_,by simp[k4]⟩
  . simp only[PyData.canLayAll0,zpT,PyData.canLay0,k.1,xT.mpr hb,xT.mpr he,k2,rC]
  . simp only[PyData.depthAll,PyData.depth,zpT];have:=k.2;omega
theorem zot{s:S}{n m:Nat}{ds:List D}(hd:∀ d∈ds,TabV d)(h:s[n]?=some (.lst ds))(h2:s[m]?=some (.lst [])):eqD s (.ref n) (.ref m)=some ds.isEmpty:=by
 obtain⟨xs,h1,k2,k3,k4⟩:=zin (s:=s) hd;rw[zeY (x:=.list xs) (y:=.list []) (by rw[xF h,h1];rfl) (by rw[xF h2,yQ];rfl) ?_ vY]
 . cases ds with
   | nil =>
    have:xs=[]:=qZ (by simpa using k4);subst this;rfl
   | cons d ds =>
    cases xs with
    | nil=>simp at k4
    | cons x xs=>rfl
 . refine rE.mpr ⟨by simp only[PyData.canLay0,k2],decide_eq_true ?_⟩;simp only[PyData.depth];omega
theorem zfl{x:Str}(h:Ltr x/\1<=x.length/\x.length<=12):NameOk x:=⟨h.2.1,h.2.2,h.1.occ⟩
structure Wd(hs:List (Str×Nat))(l:List Rw):Prop where
 hn:∀ x∈hs,Ltr x.1/\x.1.length<=12/\x.2<4
 hl:hs.length<=40
 ln:∀ r∈l,Ltr r.nm/\r.nm.length<=12/\r.src∈hs/\r.tgt∈hs/\(∀ a∈r.A,a.1<r.src.2/\a.2.1<r.tgt.2)/\r.A.length<=40
 ll:l.length<=40
theorem zpr{s t:S}{a:Nat}{x:O}(p:Pf s t)(h:s.length<=a):Pf s (t.set a x):=λn w e=>by
 have:=zq e;rw[zJ (by omega)];exact p n w e
section
variable{s:S}{p m k:Nat}{hs:List (Str×Nat)}{l:List Rw}
theorem _root_.P85.PA.fm'(h:PA s p m k hs l):zhw s (.ref p) "many"=some (.ref m):=by rw[jZ h.at_];rfl
theorem _root_.P85.PA.fk'(h:PA s p m k hs l):zhw s (.ref p) "known"=some (.ref k):=by rw[jZ h.at_];rfl
end
section
variable{s:S}{p m k:Nat}{hs:List (Str×Nat)}{l:List Rw}{X:Xc}{Q:D->S->Prop}
theorem vm(h:PA s p m k hs l)(hQ:Q (.ref s.length) (s++[.lst (hs.map hD)])):wE (d_Program_functions [.ref p] s) Q X:=by
 unfold d_Program_functions;refine(yD (by rfl)).mpr ?_;unfold b_Program_functions
 have e:(mvH hs).map pairD=hs.map hD:=by
  unfold mvH;rw[sO];rfl
 simp[h.fm',zlY h.many,e];exact hQ
def ct(r:Rw):Rw:={ r with a:=0 }
def kZ{α β:Type}(R:α->β->Prop):List α->List β->Prop
 | [],[]=>True
 | a::r,b::t=>R a b/\kZ R r t
 | _,_=>False
theorem kZ.imp{α β:Type}{R R':α->β->Prop}(k:∀ a b,R a b->R' a b):∀{l:List α}{m:List β},kZ R l m->kZ R' l m
 | [],[],_=>trivial
 | _::_,_::_,h=>⟨k _ _ h.1,h.2.imp k⟩
 | [],_::_,h=>h.elim
 | _::_,[],h=>h.elim
theorem kZ.snoc{α β:Type}{R:α->β->Prop}{a:α}{b:β}(z:R a b):∀{l:List α}{m:List β},kZ R l m->kZ R (l++[a]) (m++[b])
 | [],[],_=>⟨z,trivial⟩
 | _::_,_::_,h=>⟨h.1,h.2.snoc z⟩
 | [],_::_,h=>h.elim
 | _::_,[],h=>h.elim
theorem kZ.len{α β:Type}{R:α->β->Prop}:∀{l:List α}{m:List β},kZ R l m->l.length=m.length
 | [],[],_=>rfl
 | _::_,_::_,h=>by simp[h.2.len]
 | [],_::_,h=>h.elim
 | _::_,[],h=>h.elim
theorem zji{R:D->D->S->Prop}{s s':S}{bs acc:List D}{d y:D}(al:kZ (λd y=>R d y s) bs acc)(h:∀ a b,R a b s->R a b s')(r:R d y s'):kZ (λd y=>R d y s') (bs++[d]) (acc++[y]):=by
 have al2:kZ (λd y=>R d y s') bs acc:=kZ.imp h al;exact @kZ.snoc D D (λd y=>R d y s') d y r bs acc al2
theorem zsr{s0:S}{vs:List Nat}{g:G}{e:E}{ds:List D}{σ:Fc.Env}{Q:D->S->Prop}{X:Xc}(R:D->D->S->Prop)(hl:ds.length<16777216)(hR:∀ d y s s',R d y s->(∀ n:Nat,n≠s0.length->∀ o,s[n]?=some o->s'[n]?=some o)->R d y s')
  (hs:∀ d∈ds,∀ s,Pf s0 s->s0.length<s.length->∃ σ1,g d (wipe σ vs) s=some σ1/\wE (e σ1 s) (λy s2=>Pf s s2/\R d y s2) (λ_ _ _=>False))
  (hQ:∀ s' acc,Pf s0 s'->s'[s0.length]?=some (.lst acc)->kZ (λd y=>R d y s') ds acc->Q (.ref s0.length) s'):wE (uf s0 λD0 s2=>lcV D0 vs g tYes e ds σ s2) Q X:=by
 rw[zaZ]
 obtain⟨s',acc',h1,h2,bs,h3,h4,h5⟩:=zlu (D0:=s0.length) (vs:=vs) (g:=g) (t:=tYes) (e:=e) (σ:=σ) (λr acc s=>∃ bs,ds=bs++r/\kZ (λd y=>R d y s) bs acc/\Pf s0 s) ds [] (s:=s0++[.lst []]) ⟨[],rfl,trivial,Pf.app⟩ zH (by
  rintro d r acc s ⟨bs,e1,al,pf⟩ hD;obtain⟨σ1,g1,g2⟩:=hs d (by rw[e1];simp) s pf (zq hD);refine⟨σ1,g1,?_⟩;simp
  refine zA g2 λy s2 ⟨p2,hr⟩=>⟨p2 _ _ hD,?_,bs++[d],by simp[e1],?_,zfu (pf.trans p2)⟩
  . have:=al.len
    have:bs.length<=ds.length:=by rw[e1];simp
    omega
  . have ks:∀ n:Nat,n≠s0.length->∀ o,s2[n]?=some o->(s2.set s0.length (.lst (acc++[y])))[n]?=some o:=λn hn o h=>by
     rw[zJ (tY hn)];exact h
    exact zji al (λa b h=>hR _ _ _ _ h λn hn o h=>ks n hn o (p2 _ _ h)) (hR _ _ _ _ hr ks))
 refine⟨s',h1,hQ s' acc' h5 h2 ?_⟩;simp at h3;rw[h3];exact h4
def kvI(q:Rw):D:=pairD (.inr q.nm,.tup [.str q.src.1,.str q.tgt.1,.tup (q.A.map aD)])
def MkR(s:S)(D0:Nat)(q:Rw)(y:D):Prop:=∃ a,y=rwD { q with a:=a }/\s[a]?=some (.lst (q.A.map aD))/\a≠D0
theorem zkh{s:S}{D0:Nat}:∀{l:List Rw}{acc:List D},kZ (MkR s D0) l acc->∃ l':List Rw,acc=l'.map rwD/\l'.map ct=l.map ct/\∀ r∈l',s[r.a]?=some (.lst (r.A.map aD))/\r.a≠D0
 | [],[],_=>⟨[],rfl,rfl,λr h=>by cases h⟩
 | q::l,y::acc,h=>by
  obtain⟨⟨a,rfl,h1,h2⟩,h⟩:=h;obtain⟨l',rfl,k1,k2⟩:=zkh h;refine⟨{ q with a:=a }::l',rfl,by simp[k1,ct],λr hr=>?_⟩
  rcases tR.mp hr with rfl | hr
  . exact⟨h1,h2⟩
  . exact k2 r hr
 | [],_::_,h=>h.elim
 | _::_,[],h=>h.elim
theorem zhe{α β γ:Type}{R:β->γ->Prop}{R':α->γ->Prop}{f:α->β}(l0:List α)(k:∀ a∈l0,∀ c,R (f a) c->R' a c):∀{l:List α}{m:List γ},l⊆l0->kZ R (l.map f) m->kZ R' l m
 | [],[],_,_=>trivial
 | _::_,_::_,hs,h=>⟨k _ (hs (tH)) _ h.1,zhe l0 k (λx hx=>hs (tV _ hx)) h.2⟩
 | [],_::_,_,h=>h.elim
 | _::_,[],_,h=>h.elim
theorem zql{a b:Arc}(h:aD a=aD b):a=b:=by
 obtain⟨a1,a2,a3⟩:=a;obtain⟨b1,b2,b3⟩:=b;simp only[aD,D.tup.injEq,List.cons.injEq,D.int.injEq,D.bl.injEq]at h;obtain⟨h1,h2,h3,_⟩:=h
 have e1:a1=b1:=by omega
 have e2:a2=b2:=by omega
 rw[e1,e2,h3]
theorem zdA:∀{A B:List Arc},A.map aD=B.map aD->A=B
 | [],[],_=>rfl
 | [],_::_,h=>by cases h
 | _::_,[],h=>by cases h
 | a::A,b::B,h=>by
  rw[tK,tK,List.cons.injEq]at h;rw[zql h.1,zdA h.2]
theorem zoP{q q':Rw}(h:kvI q=kvI q'):q.nm=q'.nm/\q.src.1=q'.src.1/\q.tgt.1=q'.tgt.1/\q.A=q'.A:=by
 simp only[kvI,pairD,dOf,D.tup.injEq,List.cons.injEq,D.str.injEq]at h;obtain⟨a1,⟨a2,a3,a4,_⟩,_⟩:=h;exact⟨a1,a2,a3,zdA a4⟩
theorem jL(h:PA s p m k hs l)(hl:l.length<1000)(hQ:∀(s':S) (n:Nat) (l':List Rw),Pf s s'->s'[n]?=some (.lst (l'.map rwD))->l'.map ct=l.map ct->(∀ r∈l',s'[r.a]?=some (.lst (r.A.map aD)))->s.length<=n->Q (.ref n) s'):wE (d_Program_calls [.ref p] s) Q X:=by
 unfold d_Program_calls;refine(yD (by rfl)).mpr ?_;unfold b_Program_calls;simp[h.fk',srcOf,h.known,zgb,unl];refine znd h.known (λ_=>by simp) ?_;have hk:=h.known;have lk:=zq hk;generalize hS:s.set k (.lck (.dK (kvP l)))=s0
 have l0:s0.length=s.length:=by rw[← hS];simp
 have gk:s0[k]?=some (.lck (.dK (kvP l))):=by rw[← hS];exact yM lk
 refine zsr (λd y s'=>∃ q∈l,d=kvI q/\∃ a,y=.tup [.str q.nm,.str q.src.1,.str q.tgt.1,.ref a]/\s'[a]?=some (.lst (q.A.map aD))/\a≠s0.length) (by simp[kvP];omega) (λd y s1 s2 ⟨q,hq,e1,a,e2,e3,e4⟩ hk=>⟨q,hq,e1,a,e2,hk _ e4 _ e3,e4⟩) (λd hd s1 pf hlt=>?_) λs1 acc pf ha al=>?_
 . obtain⟨kv,h1,rfl⟩:=tM.mp hd;obtain⟨q,hq,rfl⟩:=tM.mp h1;refine⟨_,rfl,?_⟩;simp[Fc.wipe];exact⟨Pf.app,q,hq,rfl,s1.length,⟨rfl,rfl,rfl,rfl⟩,zH,by omega⟩
 . rw[kvP,sO]at al
   have al2:=zhe (R:=λd y=>∃ q∈l,d=kvI q/\∃ a,y=.tup [.str q.nm,.str q.src.1,.str q.tgt.1,.ref a]/\s1[a]?=some (.lst (q.A.map aD))/\a≠s0.length) (R':=MkR s1 s0.length) l (λq _ y ⟨q',_,e1,a,e2,e3,e4⟩=>by
     obtain⟨k1,k2,k3,k4⟩:=zoP (q:=q) (q':=q') e1
     exact⟨a,by rw[e2,← k1,← k2,← k3];rfl,by rw[k4];exact e3,e4⟩) (List.Subset.refl _) al
   obtain⟨l',rfl,ec,hr⟩:=zkh al2;have g1:=pf _ _ gk;refine hQ _ s0.length l' ?_ ?_ ec (λr hm=>?_) (by omega)
   . refine Pf.unlock (o':=.lck (.dK (kvP l))) hk ?_;rw[hS];exact pf
   . rw[zJ (by omega)];exact ha
   . have h2:=(hr r hm).1
     have ne:k≠r.a:=λz=>by
      rw[← z,g1]at h2;cases h2
     rw[zJ ne];exact h2
end
structure Gd(hs:List (Str×Nat))(l:List Rw):Prop where
 wd:Wd hs l
 n1:∀ x∈hs,1<=x.1.length
 m1:∀ r∈l,1<=r.nm.length
 nd:(hs.map (·.1)).Nodup
 nl:(l.map (·.nm)).Nodup
theorem zkg{β:Type}{f:Rw->β}(hf:∀ r,f (ct r)=f r){l l':List Rw}(h:l'.map ct=l.map ct):l'.map f=l.map f:=by
 have e:∀ l:List Rw,l.map f=(l.map ct).map f:=λl=>by
  rw[sO];exact qM λr _=>(hf r).symm
 rw[e,e l,h]
theorem Gd.sub{hs:List (Str×Nat)}{l l':List Rw}(g:Gd hs l)(h:l'.Sublist l):Gd hs l' :=
 ⟨⟨g.wd.hn,g.wd.hl,λr hr=>g.wd.ln r (h.subset hr),by have:=h.length_le;have:=g.wd.ll;omega⟩,g.n1,λr hr=>g.m1 r (h.subset hr),g.nd,List.Pairwise.sublist (h.map _) g.nl⟩
def Arcs(s:S)(l:List Rw):Prop:=∀ r∈l,s[r.a]?=some (.lst (r.A.map aD))
theorem Arcs.pf{s s':S}{l:List Rw}(h:Arcs s l)(p:Pf s s'):Arcs s' l:=λr hr=>p _ _ (h r hr)
section
variable{s:S}{p m k:Nat}{hs:List (Str×Nat)}{l:List Rw}{X:Xc}
theorem Gd.row(g:Gd hs l)(ha:Arcs s l):∀ r∈l,RwOk s hs r:=λr hr=>by
 obtain⟨n1,n2,n3,n4,n5,n6⟩:=g.wd.ln r hr;exact⟨zfl ⟨n1,g.m1 r hr,n2⟩,n3,n4,n5,by omega,ha r hr⟩
theorem zle{F C:Nat}(hF:s[F]?=some (.lst (hs.map hD)))(hC:s[C]?=some (.lst (l.map rwD)))(ha:Arcs s l)(g:Gd hs l){Q:S->Prop}(hQ:∀(s':S) (m k:Nat),Pf s s'->PA s' s.length m k hs l->Q s'):wE (d_Program_init [.ref s.length,.ref F,.ref C] (s++[.ins "Program" []])) (λd s'=>onN d (Q s')) X:=by
 have f:=Pf.app (s:=s) (t:=[.ins "Program" []]);have h40:=g.wd.hl;have l40:=g.wd.ll;refine zpI zH (f _ _ hF) (f _ _ hC) (λx hx=>⟨zfl ⟨(g.wd.hn x hx).1,g.n1 x hx,(g.wd.hn x hx).2.1⟩,(g.wd.hn x hx).2.2⟩) g.nd (by omega) (g.row (ha.pf f)) g.nl (by omega) λs' m k _ hk hp hm hkn=>?_;simp;exact hQ _ m k (λw o e=>hk w (by have:=zq e;omega) o (f _ _ e)) ⟨hp,hm,hkn⟩
theorem _root_.P85.PA.pf'{s':S}(h:PA s p m k hs l)(q:Pf s s'):PA s' p m k hs l:=⟨q _ _ h.at_,q _ _ h.many,q _ _ h.known⟩
end
section
variable{s:S}{k:Nat}{hs:List (Str×Nat)}{l:List Rw}
def zcL(r:Rw):PyData:=.tuple [.str r.nm,.str r.src.1,.str r.tgt.1,.list (r.A.map zcU)]
theorem zbN{n:Nat}:∀{l:List Rw},Arcs s l->dats s (n+4) (l.map rwD)=some (l.map zcL)
 | [],_=>yQ
 | r::l,ha=>by
  have h:=ha r (tH)
  have e:dat s (n+4) (rwD r)=some (zcL r):=by
   unfold rwD;rw[ue,zP xZ (zP xZ (zP xZ (zP (x:=.list (r.A.map zcU)) (xs:=[]) (by rw[xF h,zam zcU (λa=>zdR a)];rfl) yQ)))];rfl
  exact zP e (zbN λq hq=>ha q (tV _ hq))
theorem zpB(w:Wd hs l):PyData.canLayAll0 (l.map zcL)=true/\PyData.depthAll (l.map zcL)<=10:=by
 have key:∀ l':List Rw,l'⊆l->PyData.canLayAll0 (l'.map zcL)=true/\PyData.depthAll (l'.map zcL)<=10:=by
  intro l'
  induction l' with
  | nil=>intro _;exact⟨rfl,by decide⟩
  | cons r l' ih =>
   intro hs';obtain⟨k1,k2⟩:=ih λx hx=>hs' (tV _ hx);obtain⟨n1,_,n3,n4,_⟩:=w.ln r (hs' (tH));have kk:=zbC r.A;refine⟨?_,?_⟩
   . simp only[tK,PyData.canLayAll0,zcL,PyData.canLay0,kk.1,xT.mpr n1.okS,xT.mpr (w.hn _ n3).1.okS,xT.mpr (w.hn _ n4).1.okS,k1,rC]
   . simp only[tK,PyData.depthAll,PyData.depth,zcL];have:=kk.2;omega
 exact key l (List.Subset.refl _)
theorem zbY{n n':Nat}{l':List Rw}(w:Wd hs l)(h1:s[n]?=some (.lst (l.map rwD)))(h2:s[n']?=some (.lst (l'.map rwD)))(ha:Arcs s l)(ha':Arcs s l')(ec:l'.map ct=l.map ct):eqD s (.ref n') (.ref n)=some true:=by
 have k:=zpB w;have e:l'.map zcL=l.map zcL:=zkg (f:=zcL) (λr=>rfl) ec;refine eq_self (x:=.list (l.map zcL)) (by rw[xF h2,zbN ha',e];rfl) (by rw[xF h1,zbN ha];rfl) ?_;refine rE.mpr ⟨by simp only[PyData.canLay0,k.1],decide_eq_true ?_⟩;simp only[PyData.depth];have:=k.2;omega
end
theorem zal{α:Type}{l:List α}{t:Nat}:zeG l none (some (t:Int))=l.take t:=by
 unfold zeG;rw[HT.sIx_nat,HT.sIx_none,List.drop_zero,Nat.sub_zero];by_cases h:t<=l.length
 . rw[Nat.min_eq_left h]
 . rw[Nat.min_eq_right (by omega),pK (tX _),pK (by omega)]
theorem wJ{α:Type}{l:List α}{t:Nat}:zeG l (some (t:Int)) none=l.drop t:=by
 unfold zeG;rw[HT.sIx_nat,HT.sIx_none];by_cases h:t<=l.length
 . rw[Nat.min_eq_left h,pK (by simp)]
 . rw[Nat.min_eq_right (by omega),List.drop_of_length_le (tX _),List.drop_of_length_le (by omega)];simp
section
variable{l:List Rw}
theorem zmO{α:Type}{l:List α}{n:Nat}{r:α}(h:l[n]?=some r):l=l.take n++r::l.drop (n+1):=by
 obtain⟨hn,rfl⟩:=su.mp h;rw[List.getElem_cons_drop,List.take_append_drop]
end
end PW
namespace PK
open PySem Fc
noncomputable section
def b_table_of_call:C :=
 (zE (zQ (e2 oAt (e1 (xr "known") (zf 0)) (zf 1)) (gTup 3 (gCons (gName 2) (gCons (gName 3) (gCons (gName 4) gNil)))))
 (ye (eN wg (za (zf 2) (za (zf 3) (za (zB P1.d_arcs_of [] (za (zB d_strongest [] (za (zf 4) zj)) zj)) zj))))))
def d_table_of_call:F:=yg 2 5 b_table_of_call
def b_tables_of:C :=
 (zE (zQ (eDc [2] (yG .seq (eN vB (za (e1 (xr "known") (zf 0)) zj))) (gName 2) tYes (zf 2) (zB d_table_of_call [] (za (zf 0) (za (zf 2) zj)))) (gName 1))
 (zE (zQ (eN (λ_=>mDN) zj) (gName 3))
 (zE (zQ (eN yr zj) (gName 4))
 (zE (xg (yG .items (zf 1)) (gTup 2 (gCons (gName 2) (gCons (gName 5) gNil)))
 (cIf (tB (e2 xJ (zf 5) (zf 3)))
 (zE (uY (zf 3) (zf 5) (eN yr (za (zf 2) zj)))
 (zR (eM zU (zf 4) (za (zf 5) zj))))
 yh))
 (zE (vq (tB (e2 oNe (zf 4) (eN yr zj)))
 (zE (zQ (eN yr zj) (gName 6))
 (zE (xg (yG .seq (zf 4)) (gName 5)
 (xg (yG .items (zf 1)) (gTup 2 (gCons (gName 2) (gCons (gName 7) gNil)))
 (cIf (tB (e2 oEq (e2 oAt (zf 5) (eC (.int 1))) (e2 oAt (zf 7) (eC (.int 0)))))
 (zE (zQ (zB P1.d_joined [] (za (zf 5) (za (zf 7) zj))) (gName 8))
 (cIf (tB (e2 xJ (zf 8) (zf 3)))
 (zE (uY (zf 3) (zf 8) (e2 xH (e2 zlC (zf 3) (zf 5)) (eN yr (za (zf 2) zj))))
 (zR (eM zU (zf 6) (za (zf 8) zj))))
 yh))
 yh)))
 (zQ (zf 6) (gName 4)))))
 (ye (zf 3)))))))
def d_tables_of:F:=yg 1 9 b_tables_of
def b_goes_on:C :=
 (ye (ziw (e2 oEq (e2 oAt (zf 0) (eC (.int 0))) (e2 oAt (zf 0) (eC (.int 1)))) (zdW (tE (zB P1.d_falls_around [] (za (zf 0) zj))))))
def d_goes_on:F:=yg 1 1 b_goes_on
end
end PK
namespace PC
open PySem Fc P1
structure Tb where
 b:Str
 e:Str
 A:List Arc
deriving DecidableEq
def tD(t:Tb):D:=.tup [.str t.b,.str t.e,.tup (t.A.map aD)]
def mk(b e:Str)(M:Mt):Tb:=⟨b,e,yH M⟩
def mt(t:Tb):Mt:=wH (λ_ _=>0) t.A
def yW(t u:Tb):Tb:=⟨t.b,u.e,yH (zlE (λ_ _=>0) t.A u.A)⟩
theorem ztH{b e:Str}{M:Mt}:tD (mk b e M)=zcP b e M:=rfl
theorem zjR{b1 e1 b2 e2:Str}{M N:Mt}:yW (mk b1 e1 M) (mk b2 e2 N)=mk b1 e2 (zrb M N):=rfl
def Cn(t:Tb):Prop:=(∃ M,Bd2 M/\t.A=yH M)/\okS t.b/\okS t.e
theorem Cn.mk{t:Tb}(h:Cn t):∃ M,Bd2 M/\t=PC.mk t.b t.e M:=by
 obtain⟨⟨M,h1,h2⟩,_⟩:=h;refine⟨M,h1,?_⟩;obtain⟨b,e,A⟩:=t;simp only at h2;subst h2;rfl
theorem zqp{b e:Str}{M:Mt}(h:Bd2 M)(hb:okS b)(he:okS e):Cn (mk b e M):=⟨⟨M,h,rfl⟩,hb,he⟩
theorem zfZ{t u:Tb}(h:Cn t)(k:Cn u):Cn (yW t u):=by
 obtain⟨⟨M,h1,h2⟩,h3,h4⟩:=h;obtain⟨⟨N,k1,k2⟩,k3,k4⟩:=k;refine⟨⟨xO M N,vU h1 k1,?_⟩,h3,k4⟩;show yH (zlE _ t.A u.A)=_;rw[h2,k2];have:=jk h1 k1;unfold zrb at this;rw[this]
def goes(t:Tb):Bool:=decide (t.b=t.e)&&!hf (mt t)
theorem zsO{M N:Mt}(hM:Bd2 M)(hN:Bd2 N)(h:∀ i j,i<3->j<3->M i j=N i j):hf M=hf N:=by
 refine zhk ⟨zjI (λi j hi hj=>by rw[h i j hi hj];omega) hM hN,zjI (λi j hi hj=>by rw[h i j hi hj];omega) hN hM⟩
theorem zgh{b e:Str}{M:Mt}(h:Bd2 M):goes (mk b e M)=(decide (b=e)&&!hf M):=by
 unfold goes;have e1:hf (mt (mk b e M))=hf M:=zsO (zfS (λ_ _=>by omega)) h λi j hi hj=>zau h hi hj;rw[e1];rfl
inductive Rch(E:List Tb):Tb->Prop
 | one {t:Tb} (h:t∈E):Rch E t
 | more {t u:Tb} (h:Rch E t) (hu:u∈E) (e:u.b=t.e):Rch E (yW t u)
theorem Rch.mono{E E':List Tb}(h:∀ t∈E,t∈E'){t:Tb}(r:Rch E t):Rch E' t:=by
 induction r with
 | one k=>exact .one (h _ k)
 | more _ hu e ih=>exact .more ih (h _ hu) e
theorem Rch.closed{E F:List Tb}(h1:∀ t∈E,t∈F)(h2:∀ t∈F,∀ u∈E,u.b=t.e->yW t u∈F){t:Tb}(r:Rch E t):t∈F:=by
 induction r with
 | one k=>exact h1 _ k
 | more _ hu e ih=>exact h2 _ ih _ hu e
theorem Rch.cn{E:List Tb}(h:∀ t∈E,Cn t){t:Tb}(r:Rch E t):Cn t:=by
 induction r with
 | one k=>exact h _ k
 | more _ hu e ih=>exact zfZ ih (h _ hu)
def kA(a:Arc):NestedKey:=.tup [.num a.1,.num a.2.1,.num (if a.2.2=true then 1 else 0)]
def kT(t:Tb):NestedKey:=.tup [.text t.b,.text t.e,.tup (t.A.map kA)]
theorem zkr:∀ A:List Arc,nkeys (A.map aD)=some (A.map kA)/\NestedKey.depthAll (A.map kA)<=1
 | []=>⟨rfl,by simp[NestedKey.depthAll]⟩
 | a::A=>by
  obtain⟨h1,h2⟩:=zkr A;refine⟨?_,?_⟩
  . simp[nkeys,nkey,aD,h1,kA]
  . simp only[tK,NestedKey.depthAll,NestedKey.depth,kA];omega
theorem zaf(t:Tb):nkT (tD t)=some (kT t):=by
 obtain⟨h1,h2⟩:=zkr t.A;unfold nkT tD;dsimp only
 have e1:nkeys [D.str t.b,D.str t.e,D.tup (t.A.map aD)]=some [.text t.b,.text t.e,.tup (t.A.map kA)]:=by simp[nkeys,nkey,h1]
 rw[e1];dsimp only;rw[if_pos]
 . rfl
 . simp only[NestedKey.depthAll,NestedKey.depth];omega
theorem znw:∀{A B:List Arc},A.map kA=B.map kA->A=B
 | [],[],_=>rfl
 | [],_::_,h=>by cases h
 | _::_,[],h=>by cases h
 | (a1,a2,a3)::A,(b1,b2,b3)::B,h=>by
  rw[tK,tK,List.cons.injEq]at h;obtain⟨h1,h2⟩:=h;simp only[kA,NestedKey.tup.injEq,List.cons.injEq,NestedKey.num.injEq]at h1;obtain⟨e1,e2,e3,_⟩:=h1
  have e1:a1=b1:=by omega
  have e2:a2=b2:=by omega
  have e3:a3=b3:=by cases a3 <;> cases b3 <;> simp_all
  rw[e1,e2,e3,znw h2]
theorem zjT{t u:Tb}(h:kT t=kT u):t=u:=by
 obtain⟨b,e,A⟩:=t;obtain⟨b',e',A'⟩:=u;simp only[kT,NestedKey.tup.injEq,List.cons.injEq,NestedKey.text.injEq]at h;obtain⟨h1,h2,h3,_⟩:=h;rw[h1,h2,znw h3]
theorem znT{t u:Tb}(h:tD t=tD u):t=u:=by
 have h1:=zaf t;rw[h,zaf u]at h1;exact(zjT (Option.some.inj h1)).symm
theorem zaU{t:Tb}:∀{kvs:List (D×D)}{ts:List Tb},kvs.map (·.1)=ts.map tD->(wD kvs (kT t)=none↔t∉ts)
 | [],[],_=>by simp[wD]
 | [],_::_,h=>by cases h
 | _::_,[],h=>by cases h
 | kv::kvs,u::ts,h=>by
  rw[tK,tK,List.cons.injEq]at h;obtain⟨h1,h2⟩:=h;have ih:=zaU (t:=t) h2;unfold wD at ih ⊢;rw[rQ];by_cases hk:t=u
  . subst hk;rw[h1,zaf];simp
  . have:¬ (nkT kv.1=some (kT t)):=by
     rw[h1,zaf];intro z;exact hk (zjT (Option.some.inj z)).symm
    simp only[this,decide_false,tR,hk,false_or];exact ih
abbrev Fd:=List (Tb×List Str)
abbrev Sg:=List (Str×Tb)
def ky(f:Fd):List Tb:=f.map (·.1)
def zba(f:Fd×List Tb)(t:Tb)(row:List Str):Fd×List Tb:=if t∈ky f.1 then f else (f.1++[(t,row)],f.2++[t])
def rowOf(f:Fd)(t:Tb):List Str:=((f.find? λx=>decide (x.1=t)).map (·.2)).getD []
def zad(g:Sg):Fd×List Tb:=g.foldl (λf x=>zba f x.2 [x.1]) ([],[])
def vp(t:Tb)(f:Fd×List Tb)(x:Str×Tb):Fd×List Tb:=if t.e=x.2.b then zba f (yW t x.2) (rowOf f.1 t++[x.1])else f
def stepT(g:Sg)(f:Fd×List Tb)(t:Tb):Fd×List Tb:=g.foldl (vp t) f
def layerB(g:Sg)(f:Fd)(l:List Tb):Fd×List Tb:=l.foldl (stepT g) (f,[])
def zfP(g:Sg):Nat->Fd->List Tb->Option Fd
 | 0,f,l=>if l=[]then some f else none
 | n+1,f,l=>if l=[]then some f else zfP g n (layerB g f l).1 (layerB g f l).2
structure Ext(E:List Tb)(f0 f1:Fd×List Tb):Prop where
 ex:∃ add,ky f1.1=ky f0.1++add/\f1.2=f0.2++add
 nd:(ky f0.1).Nodup->(ky f1.1).Nodup
 rc:(∀ t∈ky f0.1,Rch E t)->∀ t∈ky f1.1,Rch E t
theorem Ext.refl{E:List Tb}{f:Fd×List Tb}:Ext E f f:=⟨⟨[],by simp,by simp⟩,id,id⟩
theorem Ext.trans{E:List Tb}{f g h:Fd×List Tb}(a:Ext E f g)(b:Ext E g h):Ext E f h:=by
 obtain⟨x,h1,h2⟩:=a.ex;obtain⟨y,k1,k2⟩:=b.ex;exact⟨⟨x++y,by rw[k1,h1,ou],by rw[k2,h2,ou]⟩,λh=>b.nd (a.nd h),λh=>b.rc (a.rc h)⟩
theorem Ext.sub{E:List Tb}{f g:Fd×List Tb}(a:Ext E f g){t:Tb}(h:t∈ky f.1):t∈ky g.1:=by
 obtain⟨x,h1,_⟩:=a.ex;rw[h1];exact qO _ h
theorem zdx(f g:Fd):ky (f++g)=ky f++ky g:=sV
theorem zdO{E:List Tb}{f:Fd×List Tb}{t:Tb}{row:List Str}(h:(∀ t∈ky f.1,Rch E t)->Rch E t):Ext E f (zba f t row)/\t∈ky (zba f t row).1:=by
 unfold zba;split
 . rename_i hm;exact⟨.refl,hm⟩
 . rename_i hm;refine⟨⟨⟨[t],by rw[zdx];rfl,rfl⟩,λnd=>?_,λr u hu=>?_⟩,by rw[zdx];simp[ky]⟩
   . rw[zdx,rY];refine⟨nd,by simp[ky],λa ha b hb e=>?_⟩;simp[ky]at hb;subst hb;subst e;exact hm ha
   . rw[zdx]at hu
     rcases tZ.mp hu with hu | hu
     . exact r u hu
     . simp[ky]at hu;subst hu;exact h r
theorem zfF{E:List Tb}{t:Tb}{f:Fd×List Tb}{x:Str×Tb}(ht:t∈ky f.1)(hx:x.2∈E):Ext E f (vp t f x)/\(x.2.b=t.e->yW t x.2∈ky (vp t f x).1):=by
 unfold vp;split
 . rename_i h;obtain⟨h1,h2⟩:=zdO (E:=E) (f:=f) (t:=yW t x.2) (row:=rowOf f.1 t++[x.1]) (λr=>.more (r t ht) hx h.symm);exact⟨h1,λ_=>h2⟩
 . rename_i h;exact⟨.refl,λz=>absurd z.symm h⟩
theorem zfE{E:List Tb}{t:Tb}:∀(g:Sg) {f:Fd×List Tb},t∈ky f.1->(∀ x∈g,x.2∈E)->Ext E f (stepT g f t)/\∀ x∈g,x.2.b=t.e->yW t x.2∈ky (stepT g f t).1
 | [],f,_,_=>⟨.refl,λx h=>by cases h⟩
 | x::g,f,ht,hE=>by
  obtain⟨h1,h2⟩:=zfF (E:=E) ht (hE x (tH));obtain⟨k1,k2⟩:=zfE g (f:=vp t f x) (h1.sub ht) λy hy=>hE y (tV _ hy);refine⟨h1.trans k1,λy hy e=>?_⟩
  rcases tR.mp hy with rfl | hy
  . exact k1.sub (h2 e)
  . exact k2 y hy e
theorem zcb{E:List Tb}{g:Sg}(hE:∀ x∈g,x.2∈E):∀(l:List Tb) {f:Fd×List Tb},(∀ t∈l,t∈ky f.1)->Ext E f (l.foldl (stepT g) f)/\∀ t∈l,∀ x∈g,x.2.b=t.e->yW t x.2∈ky (l.foldl (stepT g) f).1
 | [],f,_=>⟨.refl,λt h=>by cases h⟩
 | t::l,f,ht=>by
  obtain⟨h1,h2⟩:=zfE (E:=E) g (ht t (tH)) hE;obtain⟨k1,k2⟩:=zcb hE l (f:=stepT g f t) λu hu=>h1.sub (ht u (tV _ hu));refine⟨h1.trans k1,λu hu x hx e=>?_⟩
  rcases tR.mp hu with rfl | hu
  . exact k1.sub (h2 x hx e)
  . exact k2 u hu x hx e
structure Mid(g:Sg)(f:Fd)(l:List Tb):Prop where
 nd:(ky f).Nodup
 rc:∀ t∈ky f,Rch (g.map (·.2)) t
 on:∀ x∈g,x.2∈ky f
 ly:∀ t∈l,t∈ky f
 dn:∀ t∈ky f,t∉l->∀ x∈g,x.2.b=t.e->yW t x.2∈ky f
theorem Mid.step{g:Sg}{f:Fd}{l:List Tb}(m:Mid g f l):Mid g (layerB g f l).1 (layerB g f l).2/\ky (layerB g f l).1=ky f++(layerB g f l).2:=by
 have hE:∀ x∈g,x.2∈g.map (·.2):=λx hx=>tM.mpr ⟨x,hx,rfl⟩;obtain⟨h1,h2⟩:=zcb (E:=g.map (·.2)) hE l (f:=(f,[])) m.ly;obtain⟨add,e1,e2⟩:=h1.ex;have e2:(layerB g f l).2=add:=e2.trans (qP _);have e1:ky (layerB g f l).1=ky f++add:=e1;refine⟨⟨h1.nd m.nd,h1.rc m.rc,λx hx=>h1.sub (m.on x hx),λt ht=>?_,λt ht hn x hx e=>?_⟩,by rw[e1,e2]⟩
 . rw[e1];rw[e2]at ht;exact pD _ ht
 . rw[e1]at ht;rw[e2]at hn
   rcases tZ.mp ht with ht | ht
   . by_cases hl:t∈l
     . exact h2 t hl x hx e
     . exact h1.sub (m.dn t ht hl x hx e)
   . exact absurd ht hn
theorem zhC{E:List Tb}:∀(g:Sg) {f:Fd×List Tb},(∀ x∈g,x.2∈E)->Ext E f (g.foldl (λf x=>zba f x.2 [x.1]) f)/\∀ x∈g,x.2∈ky (g.foldl (λf x=>zba f x.2 [x.1]) f).1
 | [],f,_=>⟨.refl,λx h=>by cases h⟩
 | x::g,f,hE=>by
  obtain⟨h1,h2⟩:=zdO (E:=E) (f:=f) (t:=x.2) (row:=[x.1]) (λ_=>.one (hE x (tH)));obtain⟨k1,k2⟩:=zhC g (f:=zba f x.2 [x.1]) λy hy=>hE y (tV _ hy);refine⟨h1.trans k1,λy hy=>?_⟩
  rcases tR.mp hy with rfl | hy
  . exact k1.sub h2
  . exact k2 y hy
theorem zhL(g:Sg):Mid g (zad g).1 (zad g).2:=by
 have hE:∀ x∈g,x.2∈g.map (·.2):=λx hx=>tM.mpr ⟨x,hx,rfl⟩;obtain⟨h1,h2⟩:=zhC (E:=g.map (·.2)) g (f:=([],[])) hE;obtain⟨add,e1,e2⟩:=h1.ex;have e1:ky (zad g).1=add:=e1.trans (qP _);have e2:(zad g).2=add:=e2.trans (qP _);refine⟨h1.nd (by simp[ky]),h1.rc (λt h=>by simp[ky]at h),h2,λt ht=>by rw[e1,← e2];exact ht,λt ht hn=>?_⟩;rw[e2,← e1]at hn;exact absurd ht hn
theorem zhh{g:Sg}{L:List Tb}(hL:∀ t,Rch (g.map (·.2)) t->t∈L):∀(n:Nat) {f:Fd}{l:List Tb},Mid g f l->L.length<n+(ky f).length+(if l=[]then 1 else 0)->∃ r,zfP g n f l=some r/\(ky r).Nodup/\∀ t,t∈ky r↔Rch (g.map (·.2)) t
 | 0,f,l,m,h=>by
  have hle:(ky f).length<=L.length:=jJ m.nd λt ht=>hL t (m.rc t ht)
  have hl:l=[]:=by
    by_cases z:l=[]
    . exact z
    . rw[if_neg z]at h;omega
  subst hl;refine⟨f,by simp[zfP],m.nd,λt=>⟨m.rc t,λr=>r.closed (λu hu=>?_) λu hu v hv e=>?_⟩⟩
  . obtain⟨x,hx,rfl⟩:=tM.mp hu;exact m.on x hx
  . obtain⟨x,hx,rfl⟩:=tM.mp hv;exact m.dn u hu (by simp) x hx e
 | n+1,f,l,m,h=>by
  by_cases hl:l=[]
  . subst hl;refine⟨f,by simp[zfP],m.nd,λt=>⟨m.rc t,λr=>r.closed (λu hu=>?_) λu hu v hv e=>?_⟩⟩
    . obtain⟨x,hx,rfl⟩:=tM.mp hu;exact m.on x hx
    . obtain⟨x,hx,rfl⟩:=tM.mp hv;exact m.dn u hu (by simp) x hx e
  . obtain⟨m',e'⟩:=m.step
    have:=zhh hL n m' (by
      rw[e',qG];rw[if_neg hl]at h;split
      . rename_i z;rw[z];simp;omega
      . rename_i z;have:0<(layerB g f l).2.length:=rW.mpr z
        omega)
    obtain⟨r,h1,h2⟩:=this;exact⟨r,by simp[zfP,hl,h1],h2⟩
open P85 (Rw rwD RwOk wA isl)
def tbR(r:Rw):Tb:=mk r.src.1 r.tgt.1 (PW.mOf r.A)
theorem zaj(A:List Arc):Bd2 (PW.mOf A):=zfS (λ_ _=>by omega)
section
variable{s:S}
theorem at0{t:Tb}:atD s (tD t) (.int 0)=some (.str t.b):=by simp[tD]
theorem at1{t:Tb}:atD s (tD t) (.int 1)=some (.str t.e):=by simp[tD]
theorem zpV{t:Tb}(h:Cn t):PW.TabV (tD t):=by
 obtain⟨M,hM,e⟩:=h.mk;exact⟨t.b,t.e,M,by rw[e];rfl,h.2.1,h.2.2⟩
theorem zht{n m:Nat}{W:List Tb}(hc:∀ t∈W,Cn t)(h:s[n]?=some (.lst (W.map tD)))(h2:s[m]?=some (.lst [])):eqD s (.ref n) (.ref m)=some W.isEmpty:=by
 rw[PW.zot (λd hd=>by obtain⟨t,ht,rfl⟩:=tM.mp hd;exact zpV (hc t ht)) h h2];cases W <;> rfl
def FewN(K:Nat)(E L:List Tb):Prop:=L.Nodup/\L.length<=K/\∀ t,Rch E t↔t∈L
abbrev Few(E L:List Tb):Prop:=FewN 400 E L
end
end PC
namespace Fc
open PySem
section
variable{s:S}{σ:Env}{X:Xc}{Q:D->S->Prop}
@[simp ↓] theorem zvE{vs:List Nat}{src:SrcE}{g:G}{t:T}{ky e:E}:wE (eDc vs src g t ky e σ s) Q X↔wE (src σ s) (λsk s1=>match sk with
 | .vals ds=>wE (zbw s1 λD0 s2=>dcV D0 vs g t ky e ds σ s2) Q X
 | .list n k=>wE (zbw s1 λD0 s2=>dcL D0 n vs g t ky e k 0 σ s2) Q X
 | .dict n ds=>wE (vK n s1 λs2=>zbw s2 λD0 s3=>dcV D0 vs g t ky e ds σ s3) Q X) X:=by
 with_unfolding_all
  unfold eDc;rw[yU];constructor
  . intro h;refine zA h λsk s1 h=>?_;cases sk <;> exact h
  . intro h;refine zA h λsk s1 h=>?_;cases sk <;> exact h
end
theorem zsn{s0:S}{D0 n:Nat}{dsA:List D}{vs:List Nat}{g:G}{t:T}{ky e:E}{σ:Fc.Env}(f:D->L2.Key×D)(hD0:D0=s0.length)(hn:s0[n]?=some (.lst dsA))(hl:dsA.length<16777216)(nd:(dsA.map λd=>(f d).1).Nodup)
  (hs:∀ d∈dsA,∀ s,Pf s0 s->∃ σ1,g d (wipe σ vs) s=some σ1/\wE (t σ1 s) (λc s1=>c=true/\Pf s s1/\wE (ky σ1 s1) (λy s2=>keyOf y=some (f d).1/\Pf s1 s2/\wE (e σ1 s2) (λv s3=>Pf s2 s3/\v=(f d).2) (λ_ _ _=>False)) (λ_ _ _=>False)) (λ_ _ _=>False)) :
  ∀(k:Nat) (pre:List D) {s:S},pre.length+k=dsA.length->pre=dsA.take pre.length->Pf s0 s->s[D0]?=some (.dK (pre.map f))->∃ s',dcL D0 n vs g t ky e k pre.length σ s=some s'/\Pf s0 s'/\s'[D0]?=some (.dK (dsA.map f))
 | 0,pre,s,hk,hp,pf,hD=>by
  have e1:=pf _ _ hn
  have ep:pre=dsA:=by rw[hp,pK (by omega)]
  refine⟨s,?_,pf,by rw[← ep];exact hD⟩;unfold dcL yu;rw[e1];simp[ep]
 | k+1,pre,s,hk,hp,pf,hD=>by
  have hi:pre.length<dsA.length:=by omega
  have ed:dsA[pre.length]?=some dsA[pre.length]:=tQ hi;generalize hd:dsA[pre.length]=d at ed
  have hmem:d∈dsA:=by rw[← hd];exact rM _
  have hp':pre++[d]=dsA.take (pre++[d]).length:=by
   rw[qG,rG,List.length_nil,List.take_succ,ed,← hp];rfl
  obtain⟨σ1,h1,h2⟩:=hs d hmem s pf
  obtain⟨c,s1,ht,rfl,p1,h3⟩:∃ c s1,t σ1 s=some (.ok c s1)/\c=true/\Pf s s1/\_:=by
   obtain⟨c,s1,ht,h⟩:=zit h2;exact⟨c,s1,ht,h⟩
  obtain⟨y,s2,hy,h4,p2,h5⟩:=zit h3;obtain⟨v,s3,hv,p3,rfl⟩:=zit h5;have hD3:=p3 _ _ (p2 _ _ (p1 _ _ hD))
  have fresh:∀ kv∈pre.map f,kv.1≠(f d).1:=by
   intro kv hkv z;obtain⟨x,hx,rfl⟩:=tM.mp hkv
   have e:dsA=pre++d::dsA.drop (pre.length+1):=by
    have:=PW.zmO ed;rw[← hp]at this;exact this
   rw[e,sV,tK]at nd;exact(rY.mp nd).2.2 _ (tM.mpr ⟨x,hx,rfl⟩) _ (tH) z
  have hstep:zbO D0 y (f d).2 s3=some (s3.set D0 (.dK ((pre++[d]).map f))):=by
   unfold zbO;rw[hD3];dsimp only;rw[if_pos (by rw[rA];omega),h4,sE,P85.jG fresh];simp
  have ih:=zsn f hD0 hn hl nd hs k (pre++[d]) (s:=s3.set D0 (.dK ((pre++[d]).map f))) (by simp;omega) hp' (by rw[hD0];exact P85.zfu (pf.trans (p1.trans (p2.trans p3)))) (yM (zq hD3));obtain⟨s',i1,i2,i3⟩:=ih;refine⟨s',?_,i2,i3⟩;unfold dcL yu;rw[pf _ _ hn];dsimp only;rw[if_pos (by omega),ed];dsimp only;rw[h1];dsimp only;rw[ht];dsimp only;rw[hy];dsimp only;rw[hv];dsimp only;rw[hstep];simpa using i1
end Fc
namespace PC
open PySem Fc P1
open PW (Gd mOf)
open P85 (Rw rwD RwOk wA isl PA kvP wM)
section
variable{s:S}{X:Xc}{Q:D->S->Prop}
theorem zfB{A:List Arc}(hA:In3 A)(hQ:∀ s' n ps,Pf s s'->s'[n]?=some (.dT (kvO (mOf A) ps))->Pls (mOf A) ps->Q (.ref n) s'):wE (d_strongest [.tup (A.map aD)] s) Q X:=by
 unfold d_strongest;refine(yD (by rfl)).mpr ?_;unfold b_strongest;generalize hR:ye _=R;simp[srcOf];refine yP (λ(r:List D) (σ:Fc.Env) (s':S)=>∃(A1 A2:List Arc) (F:Mt) (ps:List Pr) (t1 t2 t3:Option D),A=A1++A2/\r=A2.map aD/\σ=[some (.tup (A.map aD)),some (.ref s.length),t1,t2,t3]/\s'=s++[.dT (kvO F ps)]/\DJ F ps/\F=mOf A1) _ ⟨[],A,_,[],none,none,none,rfl,rfl,rfl,rfl,PW.dj0,rfl⟩ ?_ ?_
 . rintro d r σ s' ⟨A1,A2,F,ps,t1,t2,t3,ea,ed,rfl,rfl,dj,eF⟩
   match A2,ed with
   | x::A2,ed =>
    rw[tK,List.cons.injEq]at ed;obtain⟨rfl,rfl⟩:=ed;have hx:=hA x (by rw[ea];simp);refine⟨_,rfl,PW.zrX zH dj.pl hx.1 hx.2 dj.bd dj.out λps' k=>?_⟩;refine⟨A1++[x],A2,_,ps',_,_,_,by simp[ea],rfl,rfl,by simp,dj.put hx.1 hx.2 k,?_⟩;rw[eF];simp only[mOf,wH,qw,sW,List.foldl_nil];rfl
 . rintro σ s' ⟨A1,A2,F,ps,t1,t2,t3,ea,ed,rfl,rfl,dj,eF⟩
   have:A2=[]:=by
    match A2,ed with
    | [],_=>rfl
   subst this;rw[sJ]at ea;subst ea;rw[← hR];simp;subst eF;exact hQ _ _ ps Pf.app zH dj.pl
theorem zrF{p m k:Nat}{hs:List (Str×Nat)}{l:List Rw}{q:Rw}(h:PA s p m k hs l)(g:Gd hs l)(hq:q∈l)(hQ:∀ s',Pf s s'->Q (tD (tbR q)) s'):wE (PK.d_table_of_call [.ref p,.str q.nm] s) Q X:=by
 unfold PK.d_table_of_call;refine(yD (by rfl)).mpr ?_;unfold PK.b_table_of_call
 have e:atD s (.ref k) (.str q.nm)=some (.tup [.str q.src.1,.str q.tgt.1,.tup (q.A.map aD)]):=by
  simp only[atD,h.known,unl,dget,keyOf,sE,wM g.nl hq];rfl
 have fk:zhw s (.ref p) "known"=some (.ref k):=by rw[jZ h.at_];rfl
 simp[fk,e]
 have hA:In3 q.A:=λa ha=>by
  obtain⟨_,_,h1,h2,h3,_⟩:=g.wd.ln q hq;have:=(g.wd.hn _ h1).2.2;have:=(g.wd.hn _ h2).2.2;have:=h3 a ha;omega
 refine zfB hA λs1 n ps p1 h1 hp=>?_;refine zdH h1 hp λs2 p2=>?_;exact hQ s2 (p1.trans p2)
def tbN(l:List Rw)(y:Str):Tb:=match l.find? (λq=>decide (q.nm=y))with
 | some q=>tbR q
 | none=>⟨y,y,[]⟩
theorem zfH:∀{l:List Rw}{q:Rw},(l.map (·.nm)).Nodup->q∈l->tbN l q.nm=tbR q
 | h::l,q,nd,hq=>by
  rw[tK,qW]at nd;unfold tbN;rw[rQ]
  rcases tR.mp hq with rfl | hq
  . simp
  . have ne:¬ h.nm=q.nm:=λz=>nd.1 (by rw[z];exact tM.mpr ⟨q,hq,rfl⟩);simp only[ne,decide_false];exact zfH nd.2 hq
noncomputable def sgl(l:List Rw):Sg:=(mst (l.map (·.nm))).map λy=>(y,tbN l y)
theorem zaX{l:List Rw}(nd:(l.map (·.nm)).Nodup){t:Tb}:t∈(sgl l).map (·.2)↔t∈l.map tbR:=by
 have pm:=wy (ks:=l.map (·.nm));constructor
 . intro h;obtain⟨x,hx,rfl⟩:=tM.mp h;obtain⟨y,hy,rfl⟩:=tM.mp hx;obtain⟨q,hq,rfl⟩:=tM.mp (pm.mem_iff.mp hy);rw[zfH nd hq];exact tM.mpr ⟨q,hq,rfl⟩
 . intro h;obtain⟨q,hq,rfl⟩:=tM.mp h;refine tM.mpr ⟨(q.nm,tbN l q.nm),tM.mpr ⟨q.nm,pm.mem_iff.mpr (tM.mpr ⟨q,hq,rfl⟩),rfl⟩,?_⟩;exact zfH nd hq
def kvS(g:Sg):List (L2.Key×D):=g.map λx=>(.inr x.1,tD x.2)
theorem zgU(l:List Rw):vO (kvP l)=some (l.map (·.nm)):=by
 induction l with
 | nil=>rfl
 | cons q l ih =>
  unfold kvP at ih ⊢;simp only[tK,vO,ih];rfl
def fS(l:List Rw)(d:D):L2.Key×D:=match d with
 | .str y=>(.inr y,tD (tbN l y))
 | _=>(.inr "",.non)
theorem zlf{p m k:Nat}{hs:List (Str×Nat)}{l:List Rw}{σ:Fc.Env}(h:PA s p m k hs l)(g:Gd hs l)(h0:σ[0]?=some (some (.ref p)))(hlen:2<σ.length)(hQ:∀ s',Pf s s'->s'[s.length+1]?=some (.dK (kvS (sgl l)))->Q (.ref (s.length+1)) s') :
  wE (eDc [2] (yG .seq (eN vB (za (e1 (xr "known") (zf 0)) zj))) (gName 2) tYes (zf 2) (zB PK.d_table_of_call [] (za (zf 0) (za (zf 2) zj))) σ s) Q X:=by
 have fk:zhw s (.ref p) "known"=some (.ref k):=by rw[jZ h.at_];rfl
 have l40:=g.wd.ll;simp[h0,fk];rw[zfo h.known (zgU l) (by simp;omega) zcN];have pm:=wy (ks:=l.map (·.nm));have ndy:(mst (l.map (·.nm))).Nodup:=pm.nodup_iff.mpr g.nl
 have hly:(mst (l.map (·.nm))).length=l.length:=by rw[pm.length_eq];simp
 have inn:∀ y∈mst (l.map (·.nm)),∃ q∈l,q.nm=y:=λy hy=>by
  obtain⟨q,hq,e⟩:=tM.mp (pm.mem_iff.mp hy);exact⟨q,hq,e⟩
 have ek:((mst (l.map (·.nm))).map D.str).map (fS l)=kvS (sgl l):=by
  unfold kvS sgl;rw[sO,sO];rfl
 generalize mst (l.map (·.nm))=ys at *;have p1:Pf s (s++[O.lst (ys.map .str)]):=Pf.app;have g1:=zH (s:=s) (o:=O.lst (ys.map .str));have h1:=h.pf' p1
 have l1:(s++[O.lst (ys.map .str)]).length=s.length+1:=by simp
 generalize s++[O.lst (ys.map .str)]=s1 at *;simp[srcOf,g1];have p2:Pf s1 (s1++[O.dK []]):=Pf.app
 obtain⟨s',e1,e2,e3⟩:=zsn (s0:=s1) (D0:=s1.length) (n:=s.length) (dsA:=ys.map .str) (vs:=[2]) (g:=gName 2) (t:=tYes) (ky:=zf 2) (e:=zB PK.d_table_of_call [] (za (zf 0) (za (zf 2) zj))) (σ:=σ) (fS l) rfl g1 (by simp;omega)
  (by
   rw[sO];show(ys.map λy=>(Sum.inr y:L2.Key)).Nodup
   exact List.Pairwise.map _ (λa b h z=>h (by injection z)) ndy)
  (λd hd s2 pf=>by
   obtain⟨y,hy,rfl⟩:=tM.mp hd;obtain⟨q,hq,rfl⟩:=inn y hy;refine⟨(σ.set 2 none).set 2 (some (.str q.nm)),rfl,?_⟩;have t2:((σ.set 2 none).set 2 (some (.str q.nm)))[2]?=some (some (.str q.nm)):=sY (by simpa using hlen)
   have t0:((σ.set 2 none).set 2 (some (.str q.nm)))[0]?=some (some (.ref p)):=by rw[ql (by decide),ql (by decide),h0]
   generalize (σ.set 2 none).set 2 (some (.str q.nm))=τ at *;rw[zsf];refine⟨rfl,Pf.refl,?_⟩;rw[v_var,t2,jK];refine⟨rfl,Pf.refl,?_⟩;rw[zse,zgV,v_var,t0,jK,zgV,v_var,t2,jK,znX]
   refine zrF (h1.pf' pf) g hq λs3 p3=>⟨p3,?_⟩
   simp only[fS]
   rw[zfH g.nl hq])
  (ys.map D.str).length [] (s:=s1++[.dK []]) (by simp) rfl p2 zH
 have:wE (zbw s1 λD0 s2=>dcL D0 s.length [2] (gName 2) tYes (zf 2) (zB PK.d_table_of_call [] (za (zf 0) (za (zf 2) zj))) (ys.map D.str).length 0 σ s2) Q X:=by
  unfold zbw;have e1':dcL s1.length s.length [2] (gName 2) tYes (zf 2) (zB PK.d_table_of_call [] (za (zf 0) (za (zf 2) zj))) (ys.map D.str).length 0 σ (s1++[.dK []])=some s':=e1;dsimp only;rw[e1'];simp;rw[l1];rw[ek,l1]at e3;exact hQ s' (p1.trans e2) e3
 simpa using this
end
end PC
namespace PC
open PySem Fc P1
open PW (Gd mOf kZ)
open P85 (Rw rwD RwOk wA isl PA kvP wM)
def FdA(t:S)(B lo:Nat)(f:Fd)(kvs:List (D×D)):Prop:=kZ (λ(x:Tb×List Str) (kv:D×D)=>kv.1=tD x.1/\∃ a,kv.2=.ref a/\t[a]?=some (.lst (x.2.map .str))/\a≠lo/\B<=a) f kvs
theorem FdA.keys{t:S}{B lo:Nat}:∀{f:Fd}{kvs:List (D×D)},FdA t B lo f kvs->kvs.map (·.1)=(ky f).map tD
 | [],[],_=>rfl
 | x::f,kv::kvs,h=>by
  have ih:=FdA.keys (f:=f) (kvs:=kvs) h.2;simp only[ky,tK]at ih ⊢;rw[h.1.1,ih]
 | [],_::_,h=>h.elim
 | _::_,[],h=>h.elim
theorem FdA.get{t:S}{B lo:Nat}{u:Tb}:∀{f:Fd}{kvs:List (D×D)},FdA t B lo f kvs->u∈ky f->∃ a,wD kvs (kT u)=some (.ref a)/\t[a]?=some (.lst ((rowOf f u).map .str))
 | x::f,kv::kvs,h,hu=>by
  obtain⟨⟨h1,a,h2,h3,_⟩,h4⟩:=h;unfold wD rowOf;rw[rQ,rQ];by_cases e:x.1=u
  . have:nkT kv.1=some (kT u):=by rw[h1,zaf,e]
    refine⟨a,?_,?_⟩
    . simp[this,h2]
    . simpa[e]using h3
  . have:¬ nkT kv.1=some (kT u):=by
      rw[h1,zaf];intro z;exact e (zjT (Option.some.inj z))
    have hu':u∈ky f:=by
      simp only[ky,tK,tR]at hu
      rcases hu with hu | hu
      . exact absurd hu.symm e
      . exact hu
    obtain⟨b,k1,k2⟩:=FdA.get (f:=f) (kvs:=kvs) h4 hu';refine⟨b,?_,?_⟩
    . simp only[this,decide_false];exact k1
    . simp only[e,decide_false];exact k2
 | [],[],h,hu=>by simp[ky]at hu
 | [],_::_,h,_=>h.elim
 | _::_,[],h,_=>h.elim
theorem FdA.mono{t t2:S}{B lo lo2:Nat}{f:Fd}{kvs:List (D×D)}(h:FdA t B lo f kvs)(k:∀ a ds,B<=a->a≠lo->t[a]?=some (.lst ds)->t2[a]?=some (.lst ds)/\a≠lo2):FdA t2 B lo2 f kvs :=
 PW.kZ.imp (λx kv ⟨h1,a,h2,h3,h4,h5⟩=>⟨h1,a,h2,(k a _ h5 h4 h3).1,(k a _ h5 h4 h3).2,h5⟩) h
structure Tb3(base:S)(B d1 fo lo la:Nat)(o1 ol:O)(f:Fd×List Tb)(t:S):Prop where
 a1:d1<B
 a2:B<=fo
 a3:B<=lo
 a4:fo≠lo
 a5:la≠fo
 a6:la≠lo
 g1:t[d1]?=some o1
 g4:∃ kvs,t[fo]?=some (.dN kvs)/\FdA t B lo f.1 kvs
 g2:t[lo]?=some (.lst (f.2.map tD))
 g3:t[la]?=some ol
 keep:∀ n,n<B->n≠d1->∀ o,base[n]?=some o->t[n]?=some o
section
variable{base t t2:S}{B d1 fo lo la:Nat}{o1 ol:O}{f:Fd×List Tb}{P:Pst}
theorem Tb3.pf(h:Tb3 base B d1 fo lo la o1 ol f t)(p:Pf t t2):Tb3 base B d1 fo lo la o1 ol f t2:=by
 obtain⟨kvs,k1,k2⟩:=h.g4;exact⟨h.a1,h.a2,h.a3,h.a4,h.a5,h.a6,p _ _ h.g1,⟨kvs,p _ _ k1,k2.mono λa ds _ h4 h3=>⟨p _ _ h3,h4⟩⟩,p _ _ h.g2,p _ _ h.g3,λn h1 h2 o e=>p _ _ (h.keep n h1 h2 o e)⟩
theorem Tb3.put{kvs:List (D×D)}{u:Tb}{row:List Str}{a:Nat}(h:Tb3 base B d1 fo lo la o1 ol f t)(k1:t[fo]?=some (.dN kvs))(k2:FdA t B lo f.1 kvs)(ha:t[a]?=some (.lst (row.map .str)))(hB:B<=a)(hl:a≠lo) :
   Tb3 base B d1 fo lo la o1 ol (f.1++[(u,row)],f.2++[u]) ((t.set fo (.dN (kvs++[(tD u,.ref a)]))).set lo (.lst (f.2.map tD++[tD u]))):=by
 have a1:=h.a1;have a2:=h.a2;have a3:=h.a3;have a4:=h.a4;have l1:=zq k1;have l2:=zq h.g2
 have old:∀ n:Nat,n≠fo->n≠lo->((t.set fo (.dN (kvs++[(tD u,.ref a)]))).set lo (.lst (f.2.map tD++[tD u])))[n]?=t[n]?:=λn h1 h2=>by rw[zJ (tY h2),zJ (tY h1)]
 have nf:∀ b ds,t[b]?=some (.lst ds)->b≠fo:=λb ds e z=>by
   rw[z,k1]at e;cases e
 refine⟨a1,a2,a3,a4,h.a5,h.a6,by rw[old _ (by omega) (by omega)];exact h.g1,⟨_,by rw[zJ (tY a4),yM l1],?_⟩,?_,by rw[old _ h.a5 h.a6];exact h.g3,λn h1 h2 o e=>by rw[old _ (by omega) (by omega)];exact h.keep n h1 h2 o e⟩
 . refine PW.kZ.snoc ?_ (k2.mono λb ds _ h4 h3=>⟨by rw[old _ (nf b ds h3) h4];exact h3,h4⟩);exact⟨rfl,a,rfl,by rw[old _ (nf a _ ha) hl];exact ha,hl,hB⟩
 . rw[yM (by simpa using l2)];simp
structure Ok3(E:List Tb)(f:Fd×List Tb):Prop where
 nd:(ky f.1).Nodup
 rc:∀ t∈ky f.1,Rch E t
 s1:f.2.length<=f.1.length
 s2:∀ x∈f.1,x.2.length<=f.1.length
theorem Ok3.le{E L:List Tb}{K:Nat}(h:Ok3 E f)(hL:FewN K E L):f.1.length<=K:=by
 have:=jJ h.nd λt ht=>(hL.2.2 t).mp (h.rc t ht)
 have e:(ky f.1).length=f.1.length:=by simp[ky]
 have:=hL.2.1;omega
theorem zie{E:List Tb}(h:Ok3 E f)(u:Tb):(rowOf f.1 u).length<=f.1.length:=by
 unfold rowOf
 cases e:f.1.find? (λx=>decide (x.1=u))with
 | none=>simp
 | some x=>exact h.s2 x (oN e)
theorem Ok3.add{E:List Tb}{u:Tb}{row:List Str}(h:Ok3 E f)(hu:Rch E u)(hr:row.length<=f.1.length+1):Ok3 E (zba f u row):=by
 obtain⟨h1,_⟩:=zdO (E:=E) (f:=f) (t:=u) (row:=row) (λ_=>hu);refine⟨h1.nd h.nd,h1.rc h.rc,?_,?_⟩
 . unfold zba;split
   . exact h.s1
   . have:=h.s1;simp;omega
 . unfold zba;split
   . exact h.s2
   . intro x hx
     rcases tZ.mp hx with hx | hx
     . have:=h.s2 x hx;simp;omega
     . simp at hx;subst hx;simpa using hr
theorem Ok3.vp{E:List Tb}{tt:Tb}{x:Str×Tb}(h:Ok3 E f)(ht:tt∈ky f.1)(hx:x.2∈E):Ok3 E (vp tt f x):=by
 unfold PC.vp;split
 . rename_i e;exact h.add (.more (h.rc tt ht) hx e.symm) (by have:=zie h tt;simp;omega)
 . exact h
variable{p0:D}{nm:Str}{u tt:Tb}{t6 t7 t8:Option D}
theorem zrV{E L:List Tb}{K:Nat}(hK:K<=100000)(hL:FewN K E L)(h:Tb3 base B d1 fo lo la o1 ol f t)(ok:Ok3 E f)(hQ:∀ t2,Tb3 base B d1 fo lo la o1 ol (zba f u [nm]) t2->P.nx [some p0,some (.ref d1),some (.str nm),some (.ref fo),some (.ref lo),some (tD u),t6,t7,t8] t2) :
    wC (cIf (tB (e2 xJ (zf 5) (zf 3)))
 (zE (uY (zf 3) (zf 5) (eN yr (za (zf 2) zj)))
 (zR (eM zU (zf 4) (za (zf 5) zj))))
 yh [some p0,some (.ref d1),some (.str nm),some (.ref fo),some (.ref lo),some (tD u),t6,t7,t8] t) P:=by
  obtain⟨kvs,k1,k2⟩:=h.g4;have hk:=zaU (t:=u) k2.keys;have hle:=ok.le hL;have hs1:=ok.s1;simp;rw[zko k1 (zaf u)];simp only[zK];unfold zba at hQ;by_cases hu:u∈ky f.1
  . rw[if_pos hu]at hQ;have:wD kvs (kT u)≠none:=λz=>(hk.mp z) hu;obtain⟨d,hd⟩:=Option.ne_none_iff_exists'.mp this;rw[hd];simp;exact hQ t h
  . rw[if_neg hu]at hQ;rw[hk.mpr hu];simp;have p1:Pf t (t++[O.lst [.str nm]]):=Pf.app;have g1:=zH (s:=t) (o:=O.lst [.str nm]);have h1:=h.pf p1;have k1':=p1 _ _ k1
    have k2':FdA (t++[O.lst [.str nm]]) B lo f.1 kvs:=k2.mono λa ds _ h4 h3=>⟨p1 _ _ h3,h4⟩
    have hB:B<=t.length:=by have:=zq k1;have:=h.a2;omega
    have hlo:=zq h.g2;generalize t.length=n at *;generalize t++[O.lst [.str nm]]=t1 at *
    have kl:kvs.length=f.1.length:=by have:=congrArg List.length k2.keys;simpa[ky]using this
    rw[zen k1' (zaf u) (by omega),zaw (hk.mpr hu)];simp
    have gl:(t1.set fo (O.dN (kvs++[(tD u,D.ref n)])))[lo]?=some (.lst (f.2.map tD)):=by rw[zJ h.a4];exact h1.g2
    have hll:(f.2.map tD).length<16777216:=by simp;omega
    rw[isl gl,yI,zV gl,zK,decide_eq_true hll,yI];exact hQ _ (h1.put (row:=[nm]) k1' k2' g1 hB (by omega))
theorem zrW{E L:List Tb}{K:Nat}(hK:K<=100000)(hL:FewN K E L)(h:Tb3 base B d1 fo lo la o1 ol f t)(ok:Ok3 E f)(ht:tt∈ky f.1)(ct:Cn tt)(cu:Cn u)(hQ:∀ t2 b8,Tb3 base B d1 fo lo la o1 ol (vp tt f (nm,u)) t2->P.nx [some p0,some (.ref d1),some (.str nm),some (.ref fo),some (.ref la),some (tD tt),some (.ref lo),some (tD u),b8] t2) :
    wC (cIf (tB (e2 oEq (e2 oAt (zf 5) (eC (.int 1))) (e2 oAt (zf 7) (eC (.int 0)))))
 (zE (zQ (zB P1.d_joined [] (za (zf 5) (za (zf 7) zj))) (gName 8))
 (cIf (tB (e2 xJ (zf 8) (zf 3)))
 (zE (uY (zf 3) (zf 8) (e2 xH (e2 zlC (zf 3) (zf 5)) (eN yr (za (zf 2) zj))))
 (zR (eM zU (zf 6) (za (zf 8) zj))))
 yh))
 yh [some p0,some (.ref d1),some (.str nm),some (.ref fo),some (.ref la),some (tD tt),some (.ref lo),some (tD u),t8] t) P:=by
  simp[at0,at1,vf (xT.mpr ct.2.2) (xT.mpr cu.2.1)];unfold vp at hQ;refine xX (λz=>?_) λz=>?_
  . have z:tt.e=u.b:=by simpa using z
    rw[if_pos z]at hQ
    have ej:∀ s':S,Pf t s'->∀(Q:D->S->Prop) (X:Xc),(∀ s2,Pf s' s2->Q (tD (yW tt u)) s2)->wE (P1.d_joined [tD tt,tD u] s') Q X:=λs' _ Q X hq=>by
      obtain⟨M,hM,et⟩:=ct.mk;obtain⟨N,hN,eu⟩:=cu.mk;rw[et,eu]at hq ⊢;exact zfy hq
    refine ej t Pf.refl _ _ λs2 p2=>?_;have h2:=h.pf p2
    clear h
    obtain⟨kvs,k1,k2⟩:=h2.g4;have hk:=zaU (t:=yW tt u) k2.keys;have hle:=ok.le hL;have hs1:=ok.s1;rw[zko k1 (zaf _)];simp only[zK];unfold zba at hQ;by_cases hu:yW tt u∈ky f.1
    . rw[if_pos hu]at hQ;have:wD kvs (kT (yW tt u))≠none:=λz=>(hk.mp z) hu;obtain⟨d,hd⟩:=Option.ne_none_iff_exists'.mp this;rw[hd];simp;exact hQ s2 _ h2
    . rw[if_neg hu]at hQ;rw[hk.mpr hu];obtain⟨ra,r1,r2⟩:=k2.get ht;simp;rw[zko k1 (zaf tt),r1];simp;have hrl:=zie ok tt;have p3:Pf s2 (s2++[O.lst [.str nm]]):=Pf.app;have g3:=zH (s:=s2) (o:=O.lst [.str nm]);have r3:=p3 _ _ r2
      have l3:(s2++[O.lst [.str nm]]).length=s2.length+1:=by simp
      have hB:B<=s2.length:=by have:=zq k1;have:=h2.a2;omega
      have hlo:=zq h2.g2;generalize s2++[O.lst [.str nm]]=s3 at *;rw[P85.zco r3 g3 (by simp;omega)];have p4:Pf s3 (s3++[O.lst ((rowOf f.1 tt).map .str++[.str nm])]):=Pf.app
      have g4:(s3++[O.lst ((rowOf f.1 tt).map .str++[.str nm])])[s3.length]?=some (.lst ((rowOf f.1 tt++[nm]).map .str)):=by rw[zH];simp
      have h4:=h2.pf (p3.trans p4);have k1':=p4 _ _ (p3 _ _ k1)
      have k2':FdA (s3++[O.lst ((rowOf f.1 tt).map .str++[.str nm])]) B lo f.1 kvs:=k2.mono λa ds _ h4 h3=>⟨p4 _ _ (p3 _ _ h3),h4⟩
      generalize hn:s3.length=n at *;generalize s3++[O.lst ((rowOf f.1 tt).map .str++[.str nm])]=s4 at *
      have kl:kvs.length=f.1.length:=by have:=congrArg List.length k2.keys;simpa[ky]using this
      rw[zen k1' (zaf _) (by omega),zaw (hk.mpr hu)];simp
      have gl:(s4.set fo (O.dN (kvs++[(tD (yW tt u),D.ref n)])))[lo]?=some (.lst (f.2.map tD)):=by rw[zJ h4.a4];exact h4.g2
      have hll:(f.2.map tD).length<16777216:=by simp;omega
      rw[isl gl,yI,zV gl,zK,decide_eq_true hll,yI];exact hQ _ _ (h4.put (row:=rowOf f.1 tt++[nm]) k1' k2' g4 (by omega) (by omega))
  . have z:¬ tt.e=u.b:=by simpa using z
    rw[if_neg z]at hQ;exact hQ t _ h
end
section
variable{base t s:S}{B d1 fo lo la:Nat}{o1 ol:O}{f:Fd×List Tb}
theorem Tb3.relock{o2:O}(h:Tb3 base B d1 fo lo la o1 ol f t)(hla:la≠d1):Tb3 base B d1 fo lo la o2 ol f (t.set d1 o2):=by
 have a1:=h.a1;have a2:=h.a2;have a3:=h.a3;obtain⟨kvs,k1,k2⟩:=h.g4;refine⟨a1,a2,a3,h.a4,h.a5,h.a6,yM (zq h.g1),⟨kvs,by rw[zJ (by omega)];exact k1,k2.mono λa ds hB h4 h3=>⟨by rw[zJ (by omega)];exact h3,h4⟩⟩,by rw[zJ (by omega)];exact h.g2,by rw[zJ (tY hla)];exact h.g3,λn h1 h2 o e=>by rw[zJ (tY h2)];exact h.keep n h1 h2 o e⟩
structure TOf(s:S)(n:Nat)(l:List Rw)(r:Fd):Prop where
 at_:∃ kvs B lo,s[n]?=some (.dN kvs)/\FdA s B lo r kvs
 fu:∃ N,zfP (sgl l) N (zad (sgl l)).1 (zad (sgl l)).2=some r
 nd:(ky r).Nodup
 mem:∀ u,u∈ky r↔Rch (l.map tbR) u
 lob:∃ kvs lo,s[n]?=some (.dN kvs)/\FdA s n lo r kvs
theorem zoB{l:List Rw}{L:List Tb}{K:Nat}(nd:(l.map (·.nm)).Nodup)(h:FewN K (l.map tbR) L):FewN K ((sgl l).map (·.2)) L :=
 ⟨h.1,h.2.1,λt=>⟨λr=>(h.2.2 t).mp (r.mono λu hu=>(zaX nd).mp hu),λm=>((h.2.2 t).mpr m).mono λu hu=>(zaX nd).mpr hu⟩⟩
theorem zjp{hs:List (Str×Nat)}{l:List Rw}(g:Gd hs l):∀ t∈l.map tbR,Cn t:=λt ht=>by
 obtain⟨r,hr,rfl⟩:=tM.mp ht;obtain⟨_,_,h1,h2,_⟩:=g.wd.ln r hr;exact zqp (zaj _) (g.wd.hn _ h1).1.okS (g.wd.hn _ h2).1.okS
theorem zfC{p m k:Nat}{hs:List (Str×Nat)}{l:List Rw}{L:List Tb}{K:Nat}{X:Xc}{Q:D->S->Prop}(h:PA s p m k hs l)(g:Gd hs l)(hL:FewN K (l.map tbR) L)(hQ:∀ s' n r,Pf s s'->TOf s' n l r->s.length<=n->Q (.ref n) s')(hK:K<=100000:=by omega):wE (PK.d_tables_of [.ref p] s) Q X:=by
 unfold PK.d_tables_of;refine(yD (by rfl)).mpr ?_;unfold PK.b_tables_of;have hL':=zoB g.nl hL;have cnL:=zjp g;have cnG:∀ x∈sgl l,Cn x.2:=λx hx=>cnL _ ((zaX g.nl).mp (tM.mpr ⟨x,hx,rfl⟩));have hE:∀ x∈sgl l,x.2∈(sgl l).map (·.2):=λx hx=>tM.mpr ⟨x,hx,rfl⟩;have cnE:∀ t,Rch ((sgl l).map (·.2)) t->Cn t:=λt r=>r.cn λu hu=>cnL u ((zaX g.nl).mp hu);rw[xm,zoM];refine zlf h g rfl (by simp) λs1 p1 h1=>?_
 have lg:(sgl l).length<=40:=by
   unfold sgl;rw[rA,(wy (ks:=l.map (·.nm))).length_eq,rA];exact g.wd.ll
 generalize hG:sgl l=G at *;generalize hd1:s.length+1=d1 at *;have ld1:=zq h1;simp only[gName,zK];generalize hW:vq _ _=W;generalize hB1:cIf (tB (e2 xJ (zf 5) (zf 3))) _ _=B1;generalize hR:ye _=R;simp
 have e0:(s1++[O.dN [],O.lst []])[s1.length]?=some (.dN []):=by rw[wA (s:=s1) 0 (by omega)];rfl
 have e1:(s1++[O.dN [],O.lst []])[s1.length+1]?=some (.lst []):=by rw[wA (s:=s1) 1 (by omega)];rfl
 have p2:Pf s1 (s1++[O.dN [],O.lst []]):=Pf.app;have h2:=p2 _ _ h1;generalize s1++[O.dN [],O.lst []]=s2 at *;generalize hB:s1.length=B at *
 have T0:Tb3 s1 B d1 B (B+1) d1 (.dK (kvS G)) (.dK (kvS G)) ([],[]) s2:=⟨ld1,tX _,by omega,by omega,by omega,by omega,h2,⟨[],e0,trivial⟩,e1,h2,λn _ _ o e=>p2 _ _ e⟩
 simp[srcOf,h2,zgb,unl];refine zgY h2 (λ_=>by simp) ?_
 have T0':Tb3 s1 B d1 B (B+1) d1 (.lck (.dK (kvS G))) (.lck (.dK (kvS G))) ([],[]) (s2.set d1 (.lck (.dK (kvS G)))):=by
   have l2:=zq h2;refine⟨ld1,tX _,by omega,by omega,by omega,by omega,yM l2,⟨[],by rw[zJ (by omega)];exact e0,trivial⟩,by rw[zJ (by omega)];exact e1,yM l2,λn _ hn o e=>by rw[zJ (tY hn)];exact p2 _ _ e⟩
 have ok0:Ok3 (G.map (·.2)) ([],[]):=⟨by simp[ky],λt h=>by simp[ky]at h,by simp,λx h=>by cases h⟩
 refine yP (λ(r:List D) (σ:Fc.Env) (s':S)=>∃(pre post:Sg) (t2 t5:Option D),G=pre++post/\r=(kvS post).map pairD/\σ=[some (.ref p),some (.ref d1),t2,some (.ref B),some (.ref (B+1)),t5,none,none,none]/\Tb3 s1 B d1 B (B+1) d1 (.lck (.dK (kvS G))) (.lck (.dK (kvS G))) (zad pre) s'/\Ok3 (G.map (·.2)) (zad pre))
   _ ⟨[],G,none,none,rfl,rfl,rfl,T0',ok0⟩ ?_ ?_
 . rintro d r σ s' ⟨pre,post,t2,t5,eG,er,rfl,T,ok⟩
   match post,er with
   | x::post,er =>
    rw[kvS,tK,tK,List.cons.injEq]at er;obtain⟨rfl,rfl⟩:=er;refine⟨_,rfl,?_⟩;rw[← hB1];have hx:x.2∈G.map (·.2):=hE x (by rw[eG];simp)
    have ei:zad (pre++[x])=zba (zad pre) x.2 [x.1]:=by unfold zad;rw[qw];rfl
    refine zrV (u:=x.2) (nm:=x.1) hK hL' T ok λs3 T3=>?_;refine⟨pre++[x],post,_,_,by simp[eG],rfl,rfl,by rw[ei];exact T3,by rw[ei];exact ok.add (.one hx) (by simp)⟩
 . rintro σ s' ⟨pre,post,t2,t5,eG,er,rfl,T,ok⟩
   have:post=[]:=by
    match post,er with
    | [],_=>rfl
   subst this;rw[sJ]at eG;subst eG;obtain⟨r,er1,er2,er3⟩:=zhh (g:=G) (L:=L) (λt h=>(hL'.2.2 t).mp h) (L.length+1) (zhL G) (by omega)
   have hla0:B+1≠d1:=by omega
   obtain⟨kv0,kk1,kk2⟩:=T.g4;have l3:=zq T.g1;have lB:=zq kk1;have lB1:=zq T.g2;rw[← hW]
   refine zbH (λn σ s'=>∃(la:Nat) (f:Fd) (lay:List Tb) (kvs:List (D×D)) (t2 t5 t6 t7 t8:Option D),σ=[some (.ref p),some (.ref d1),t2,some (.ref B),some (.ref la),t5,t6,t7,t8]/\s'[d1]?=some (.dK (kvS G))/\s'[B]?=some (.dN kvs)/\FdA s' B la f kvs/\s'[la]?=some (.lst (lay.map tD))/\B<la/\(∀ n,n<B->n≠d1->∀ o,s1[n]?=some o->s'[n]?=some o)/\Mid G f lay/\Ok3 (G.map (·.2)) (f,lay)/\zfP G n f lay=some r) (L.length+1)
    ⟨B+1,(zad G).1,(zad G).2,kv0,t2,t5,none,none,none,rfl,yM l3,by rw[zJ (by omega)];exact kk1,kk2.mono λa ds hB' h4 h3=>⟨by rw[zJ (by omega)];exact h3,h4⟩,by rw[zJ (by omega)];exact T.g2,by omega,λn h1 h2 o e=>by rw[zJ (tY h2)];exact T.keep n h1 h2 o e,zhL G,ok,er1⟩ ?_
   rintro n σ s4 ⟨la,f,lay,kvs,t2,t5,t6,t7,t8,rfl,w1,w2,w3,w4,w5,w6,mid,ok,eb⟩;simp;have cl:∀ t∈lay,Cn t:=λt ht=>cnE t (mid.rc t (mid.ly t ht));have en:=zht cl (Pf.app (t:=[O.lst []]) _ _ w4) (zH (s:=s4));rw[en]
   cases lay with
   | nil =>
    simp
    have er:r=f:=by
      have:zfP G n f []=some f:=by cases n <;> simp[zfP]
      rw[this]at eb;exact(Option.some.inj eb).symm
    subst er;rw[← hR];simp;have q5:Pf s4 (s4++[O.lst []]):=Pf.app;refine hQ _ B r (λn o e=>?_) ⟨⟨kvs,B,la,q5 _ _ w2,w3.mono λa ds _ h4 h3=>⟨q5 _ _ h3,h4⟩⟩,⟨L.length+1,by rw[hG];exact er1⟩,er2,λu=>(er3 u).trans ⟨λr=>r.mono λv hv=>by rw[← hG]at hv;exact(zaX g.nl).mp hv,λr=>r.mono λv hv=>by rw[← hG];exact(zaX g.nl).mpr hv⟩,⟨kvs,la,q5 _ _ w2,w3.mono λa ds hB h4 h3=>⟨q5 _ _ h3,h4⟩⟩⟩ (by omega);have:=zq e;exact q5 _ _ (w6 n (by omega) (by omega) o (p1 _ _ e))
   | cons t0 lay0 =>
    generalize hlay:t0::lay0=lay at *
    have hne:lay.isEmpty=false:=by rw[← hlay];rfl
    have hne2:lay≠[]:=by rw[← hlay];simp
    rw[hne];simp
    obtain⟨n',rfl⟩:∃ n',n=n'+1:=by
      cases n with
      | zero=>simp[zfP,hne2]at eb
      | succ n=>exact⟨n,rfl⟩
    refine⟨n',rfl,?_⟩
    have eb':zfP G n' (layerB G f lay).1 (layerB G f lay).2=some r:=by simpa[zfP,hne2]using eb
    have q5:Pf s4 (s4++[O.lst [],O.lst []]):=Pf.app
    have g5:(s4++[O.lst [],O.lst []])[s4.length+1]?=some (.lst []):=by rw[wA (s:=s4) 1 (by omega)];rfl
    have lla:=zq w4
    have T5:Tb3 s1 B d1 B (s4.length+1) la (.dK (kvS G)) (.lst (lay.map tD)) (f,[]) (s4++[O.lst [],O.lst []]):=by
      refine⟨ld1,tX _,by omega,by omega,by omega,by omega,q5 _ _ w1,⟨kvs,q5 _ _ w2,w3.mono λa ds _ h4 h3=>⟨q5 _ _ h3,?_⟩⟩,g5,q5 _ _ w4,λn h1 h2 o e=>q5 _ _ (w6 n h1 h2 o e)⟩;have:=zq h3;omega
    have sla:srcOf .seq (.ref la) (s4++[O.lst [],O.lst []])=some (.list la lay.length):=by simp[srcOf,q5 _ _ w4]
    rw[sla];simp only[zK];generalize hlo:s4.length+1=lo at *;generalize s4++[O.lst [],O.lst []]=s5 at *
    have ok5:Ok3 (G.map (·.2)) (f,[]):=⟨ok.nd,ok.rc,by simp,ok.s2⟩
    rw[show lay.length=(lay.map tD).length by simp]
    refine vP (n:=la) (ds:=lay.map tD) (λrr σ s'=>∃(pre post:List Tb) (c2 c5 c7 c8:Option D),lay=pre++post/\rr=post.map tD/\σ=[some (.ref p),some (.ref d1),c2,some (.ref B),some (.ref la),c5,some (.ref lo),c7,c8]/\Tb3 s1 B d1 B lo la (.dK (kvS G)) (.lst (lay.map tD)) (pre.foldl (stepT G) (f,[])) s'/\Ok3 (G.map (·.2)) (pre.foldl (stepT G) (f,[])))
      (λrr σ s' ⟨_,_,_,_,_,_,_,_,_,T,_⟩=>T.g3) ?_ ?_ _ 0 (by simp) ⟨[],lay,t2,t5,t7,t8,rfl,rfl,rfl,T5,ok5⟩
    . rintro d rr σ s6 ⟨pre,post,c2,c5,c7,c8,el,er,rfl,T6,ok6⟩
      match post,er with
      | tt::post,er =>
       rw[tK,List.cons.injEq]at er;obtain⟨rfl,rfl⟩:=er;refine⟨_,rfl,?_⟩
       have httl:tt∈lay:=by rw[el];simp
       have ht0:tt∈ky (f,([]:List Tb)).1:=mid.ly tt httl;have hx6:=(zcb (E:=G.map (·.2)) hE pre (f:=(f,[])) (λu hu=>mid.ly u (by rw[el];simp[hu]))).1;have htt:tt∈ky (pre.foldl (stepT G) (f,[])).1:=hx6.sub ht0;have ct:=cl tt httl
       have estep:(pre++[tt]).foldl (stepT G) (f,[])=stepT G (pre.foldl (stepT G) (f,[])) tt:=by rw[qw];rfl
       generalize hfc:pre.foldl (stepT G) (f,[])=fc at *
       have sd1:srcOf .items (.ref d1) s6=some (.dict d1 ((kvS G).map pairD)):=by simp[srcOf,T6.g1,zgb,unl]
       simp;rw[sd1];simp only[zK];refine zgY T6.g1 (λ_=>by simp) ?_
       have hlad:la≠d1:=by omega
       refine yP (λ(rr:List D) (σ:Fc.Env) (s':S)=>∃(gp gq:Sg) (c2 c7 c8:Option D),G=gp++gq/\rr=(kvS gq).map pairD/\σ=[some (.ref p),some (.ref d1),c2,some (.ref B),some (.ref la),some (tD tt),some (.ref lo),c7,c8]/\Tb3 s1 B d1 B lo la (.lck (.dK (kvS G))) (.lst (lay.map tD)) (gp.foldl (vp tt) fc) s'/\Ok3 (G.map (·.2)) (gp.foldl (vp tt) fc)/\tt∈ky (gp.foldl (vp tt) fc).1)
         _ ⟨[],G,c2,c7,c8,rfl,rfl,rfl,T6.relock hlad,ok6,htt⟩ ?_ ?_
       . rintro d rr σ s7 ⟨gp,gq,c2,c7,c8,eG,er,rfl,T7,ok7,ht7⟩
         match gq,er with
         | x::gq,er =>
          rw[kvS,tK,tK,List.cons.injEq]at er;obtain⟨rfl,rfl⟩:=er;refine⟨_,rfl,?_⟩
          have hxG:x∈G:=by rw[eG];simp
          have e8:(gp++[x]).foldl (vp tt) fc=vp tt (gp.foldl (vp tt) fc) x:=by rw[qw];rfl
          refine zrW (u:=x.2) (nm:=x.1) hK hL' T7 ok7 ht7 ct (cnG x hxG) λs8 b8 T8=>?_;refine⟨gp++[x],gq,_,_,_,by simp[eG],rfl,rfl,by rw[e8];exact T8,by rw[e8];exact ok7.vp ht7 (hE x hxG),?_⟩;rw[e8];exact(zfF ht7 (hE x hxG)).1.sub ht7
       . rintro σ s7 ⟨gp,gq,c2,c7,c8,eG,er,rfl,T7,ok7,ht7⟩
         have:gq=[]:=by
          match gq,er with
          | [],_=>rfl
         subst this;rw[sJ]at eG;subst eG;exact⟨pre++[tt],post,by simp[el],rfl,⟨_,_,_,_,rfl⟩,by rw[estep];exact T7.relock hlad,by rw[estep];exact ok7⟩
    . rintro σ s6 ⟨pre,post,c2,c5,c7,c8,el,er,rfl,T6,ok6⟩
      have:post=[]:=by
       match post,er with
       | [],_=>rfl
      subst this;rw[sJ]at el;subst el;obtain⟨kv6,k61,k62⟩:=T6.g4;simp;have:=T6.a3;exact⟨T6.g1,_,_,_,k61,k62,T6.g2,by have:=T6.a4;omega,T6.keep,mid.step.1,ok6,eb'⟩
end
end PC
namespace PC
open PySem Fc P1
open PW (Gd mOf kZ)
open P85 (Rw rwD RwOk wA isl PA)
section
variable{s:S}{X:Xc}{Q:D->S->Prop}
theorem ziW{t:Tb}(h:Cn t)(hQ:∀ s',Pf s s'->Q (.bl (goes t)) s'):wE (PK.d_goes_on [tD t] s) Q X:=by
 unfold PK.d_goes_on;refine(yD (by rfl)).mpr ?_;unfold PK.b_goes_on;obtain⟨M,hM,et⟩:=h.mk;simp[at0,at1,vf (xT.mpr h.2.1) (xT.mpr h.2.2)]
 have eg:goes t=(decide (t.b=t.e)&&!hf M):=by
   have:=zgh (b:=t.b) (e:=t.e) hM;rw[← et]at this;exact this
 refine xX (λz=>?_) λz=>?_
 . have z:t.b=t.e:=by simpa using z
   have go:∀(Q:D->S->Prop) (X:Xc),(∀ s',Pf s s'->Q (.bl (hf M)) s')->wE (P1.d_falls_around [tD t] s) Q X:=λQ X hq=>by
    rw[et,ztH];exact zmF hM hq
   refine go _ _ λs1 p1=>?_;simp;have:=hQ s1 p1;rw[eg,z]at this;simpa using this
 . have z:¬ t.b=t.e:=by simpa using z
   have:=hQ s Pf.refl;rw[eg]at this
   have zb:(t.b == t.e)=false:=by simpa using z
   rw[zb];simpa[z]using this
end
end PC
namespace PB
open PySem Fc P1 P85
open PW (Gd Arcs)
section
variable{s:S}
def De(s:S)(d:D):Prop:=∃ x:PyData,(∀ s',Pf s s'->∀ n,dat s' (n+4) d=some x)/\x.canLay0=true/\x.depth<=10
theorem zsJ{d:D}(h:Te d):De s d:=by
 obtain⟨_,x,h1,h2,h3⟩:=h;exact⟨x,λs' _ n=>h1 s' (n+2),h2,by omega⟩
theorem zqu{x:Str}(h:okS x):De s (.str x):=zsJ (znW h)
end
end PB
namespace P20
open PySem Fc P1 P85 PB
section
variable{s:S}
def Fz(P:S->D->Prop)(E:Nat->Prop)(s:S)(d:D):Prop:=(∀ s',P s' d)\/∃ w o,E w/\s[w]?=some o/\∀ s',s'[w]?=some o->P s' d
def names(w:Nat):List D:=[.non,.int 5,.str "",.str "F",.str "f1",.str "abcdefghijklm",.ref w,.str "f ",.str "f\n",.bl true]
end
section
variable{s:S}{n:Nat}{ds:List D}
theorem yt{n:Nat}{ds:List D}(h:s[n]?=some (.lst ds)):srcOf Src.seq (.ref n) s=some (.list n ds.length):=by simp[srcOf,h]
end
end P20
namespace PB
open PySem Fc P1 P85 PC
open PW (Gd Arcs kZ)
def gOf(E:List Tb):Sg:=E.map λt=>(("":Str),t)
def chk(E:List Tb)(n:Nat)(b:Bool):Bool:=match zfP (gOf E) n (zad (gOf E)).1 (zad (gOf E)).2 with
 | some r=>decide (r.length<=400)&&(b == ((ky r).filter goes).isEmpty)
 | none=>false
def tb(b e:Str)(A:List Arc):Tb:=mk b e (PW.mOf A)
theorem c1:chk [tb "f" "g" [(0,1,true),(1,0,true)],tb "g" "f" [(0,0,false),(1,1,false)],tb "f" "g" [(0,0,true)]] 60 false=true:=by decide +kernel
theorem c2:chk [tb "f" "g" [(0,1,true),(1,0,true)],tb "g" "f" [(0,0,false),(1,1,false)],tb "f" "g" [(0,1,true),(1,0,true)]] 60 true=true:=by decide +kernel
theorem c3:chk (List.replicate 11 (tb "f" "f" [(0,0,true)])) 60 true=true:=by decide +kernel
end PB
namespace PB
open PySem Fc P1 P85 PC
open PW (Gd Arcs kZ ct)
def zug(x:Str):Bool:=x.cps.toList.all λc=>decide (97<=c)&&decide (c<123)
def gdB(hs:List (Str×Nat))(l:List Rw):Bool :=
 (hs.all λx=>zug x.1&&(decide (1<=x.1.length)&&(decide (x.1.length<=12)&&decide (x.2<4))))&&(decide (hs.length<=40) &&
 ((l.all λr=>zug r.nm&&(decide (1<=r.nm.length)&&(decide (r.nm.length<=12)&&(decide (r.src∈hs)&&(decide (r.tgt∈hs)&&((r.A.all λa=>decide (a.1<r.src.2/\a.2.1<r.tgt.2))&&decide (r.A.length<=40))))))) &&
 (decide (l.length<=40)&&(decide ((hs.map (·.1)).Nodup)&&decide ((l.map (·.nm)).Nodup)))))
def rw0(nm:Str)(x y:Str×Nat)(A:List Arc):Rw:=⟨nm,x,y,A,0⟩
section
def A1:List Arc:=[(0,1,true),(1,0,true)]
def A3:List Arc:=[(0,1,true),(1,2,true),(2,0,true)]
end
end PB
namespace PB
open PySem Fc P1 P85 PC
open PW (Gd Arcs kZ ct zsr)
section
theorem g6:gdB [("f",3)] ([rw0 "b" ("f",3) ("f",3) A3]++[rw0 "a" ("f",3) ("f",3) A1])=true:=by decide +kernel
end
end PB
namespace P1
open PySem Fc
namespace K22
noncomputable section
end
end K22
open K22
structure GX(s:S)(L:Nat)(s':S)(F:Mt):Prop where
 g:GridAt s' (L+3) L (L+1) (L+2) F
 lo:∀(n:Nat) (o:O),n<L->s[n]?=some o->s'[n]?=some o
theorem GX.pf{s s' s2:S}{L:Nat}{F:Mt}(h:GX s L s' F)(p:Pf s' s2):GX s L s2 F:=⟨h.g.pf p,λn o hn e=>p _ _ (h.lo n o hn e)⟩
theorem GX.row{s s':S}{L:Nat}{F:Mt}(h:GX s L s' F){i:Nat}(hi:i<3):atD s' (.ref (L+3)) (.int i)=some (.ref (L+i))/\s'[L+i]?=some (.lst (rw3 (F i))):=by
 refine⟨?_,?_⟩
 . rw[yO h.g.at_,atI_nat]
   match i,hi with
   | 0,_=>rfl
   | 1,_=>rfl
   | 2,_=>rfl
 . match i,hi with
   | 0,_=>exact h.g.h0
   | 1,_=>exact h.g.h1
   | 2,_=>exact h.g.h2
theorem GX.get{s s':S}{L:Nat}{F:Mt}(h:GX s L s' F){i j:Nat}(hi:i<3)(hj:j<3):atD s' (.ref (L+i)) (.int j)=some (.int (F i j)):=by
 rw[yO (h.row hi).2,atI_nat,znJ hj]
theorem GX.put{s s':S}{L:Nat}{F:Mt}(h:GX s L s' F){i j v:Nat}(hi:i<3)(hj:j<3):∃ s2,Fc.putAt s' (.ref (L+i)) (.int j) (.int v)=some s2/\GX s L s2 (wZ F i j v):=by
 have hr:=(h.row hi).2;refine⟨s'.set (L+i) (.lst ((rw3 (F i)).set j (.int v))),?_,⟨?_,λn o hn e=>?_⟩⟩
 . unfold Fc.putAt;dsimp only;rw[hr];dsimp only
   have:L2.ixN (rw3 (F i)).length (j:Int)=some j:=by
    unfold L2.ixN;rw[if_pos (by omega),if_pos (by simp[rw3];omega)];simp
   rw[this];rfl
 . have hl:=zq hr
   have ok:∀ k,k<3->(s'.set (L+i) (.lst ((rw3 (F i)).set j (.int v))))[L+k]?=some (.lst (rw3 (wZ F i j v k))):=λk hk=>by
    by_cases e:k=i
    . subst e;rw[yM hl]
      have:(rw3 (F k)).set j (.int v)=rw3 (wZ F k j v k):=by
       match j,hj with
       | 0,_=>simp[rw3,wZ]
       | 1,_=>simp[rw3,wZ]
       | 2,_=>simp[rw3,wZ]
      rw[this]
    . rw[zJ (by omega),(h.row hk).2]
      have:F k=wZ F i j v k:=by
       funext x;simp[wZ,e]
      rw[this]
   refine⟨?_,ok 0 (by omega),ok 1 (by omega),ok 2 (by omega)⟩;rw[zJ (by omega)];exact h.g.at_
 . rw[zJ (by omega)];exact h.lo n o hn e
def intOf:D->Option D
 | .int i=>some (.int i)
 | _=>none
theorem zfm{n:Nat}{a b:Int}{s:S}{X:Xc}{Q:D->S->Prop}(h:s[n]?=some (.lst [.int a,.int b])):wE (zcT [.ref n] s) Q X↔Q (.int (min a b)) s:=by
 have e:ziM a [b]=min a b:=by
  simp only[ziM];split <;> omega
 unfold zcT mm;simp[yu,h,zgk,e]
theorem zkt{n:Nat}{a b:Int}{s:S}{X:Xc}{Q:D->S->Prop}(h:s[n]?=some (.lst [.int a,.int b])):wE (zbE [.ref n] s) Q X↔Q (.int (max a b)) s:=by
 have e:ziL a [b]=max a b:=by
  simp only[ziL];split <;> omega
 unfold zbE mm;simp[yu,h,zgk,e]
theorem zob{s:S}{n:Nat}{a b:Int}{σ:Fc.Env}{X:Xc}{Q:D->S->Prop}(h:s[n]?=some (.lst [.int a,.int b]))(hl:σ.length=8)(hQ:∀ s',Pf s s'->s'[s.length]?=some (.lst [.int a,.int b])->Q (.ref s.length) s') :
  wE (uf s λD0 s2=>lcL D0 n [7] (gName 7) tYes (eN yS (za (zf 7) zj)) 2 0 σ s2) Q X:=by
 refine uG (n:=n) (ds:=[.int a,.int b]) intOf h (by simp) (λd hd s' pf=>⟨_,rfl,?_⟩) λs' pf h'=>hQ s' pf h'
 have hd:∃ i:Int,d=.int i:=by
  simp at hd
  rcases hd with rfl | rfl
  . exact⟨a,rfl⟩
  . exact⟨b,rfl⟩
 obtain⟨i,rfl⟩:=hd;simp[Fc.wipe,hl,intOf,Pf.refl]
theorem zeA{s:S}{n m q0 q1 q2 u0 u1 u2 i j k L:Nat}{M N F:Mt}{s':S}{t6 t7:Option D}{P:Pst}(hM:GridAt s n q0 q1 q2 M)(hN:GridAt s m u0 u1 u2 N)(hL:L=s.length)(h:GX s L s' F)(hi:i<3)(hj:j<3)(hk:k<3)
    (hP:∀ s2 d6 d7,GX s L s2 (wZ F i j (max (F i j) (tm (M i k) (N k j))))->P.nx [some (.ref n),some (.ref m),some (.ref (L+3)),some (.int i),some (.int j),some (.int k),d6,d7] s2) :
    wC (zE (zQ (eN yr (za (eN yS (za (e2 oAt (e2 oAt (zf 0) (zf 3)) (zf 5)) zj)) (za (eN yS (za (e2 oAt (e2 oAt (zf 1) (zf 5)) (zf 4)) zj)) zj))) (gName 6))
 (cIf (tB (e2 oGt (eN zcT (za (eLc [7] (yG .seq (zf 6)) (gName 7) tYes (eN yS (za (zf 7) zj))) zj)) (eC (.int 0))))
 (jE (e2 oAt (zf 2) (zf 3)) (zf 4) (eN zbE (za (eN yS (za (e2 oAt (e2 oAt (zf 2) (zf 3)) (zf 4)) zj)) (za (eN zbE (za (eLc [7] (yG .seq (zf 6)) (gName 7) tYes (eN yS (za (zf 7) zj))) zj)) zj))))
 yh) [some (.ref n),some (.ref m),some (.ref (L+3)),some (.int i),some (.int j),some (.int k),t6,t7] s') P:=by
  have gM:GridAt s' n q0 q1 q2 M:=by
    have lo:∀{n o},s[n]?=some o->s'[n]?=some o:=λ{n o} e=>h.lo n o (by rw[hL];exact zq e) e;exact⟨lo hM.at_,lo hM.h0,lo hM.h1,lo hM.h2⟩
  have gN:GridAt s' m u0 u1 u2 N:=by
    have lo:∀{n o},s[n]?=some o->s'[n]?=some o:=λ{n o} e=>h.lo n o (by rw[hL];exact zq e) e;exact⟨lo hN.at_,lo hN.h0,lo hN.h1,lo hN.h2⟩
  obtain⟨r,a1,a2⟩:=gM.get hi hk;obtain⟨u,b1,b2⟩:=gN.get hk hj;simp[a1,a2,b1,b2,srcOf];refine zob zH rfl λs3 p3 e3=>?_;have p3':Pf s' s3:=Pf.app.trans p3;rw[zfm e3];simp
  have z:wZ F i j (F i j)=F:=by
    funext a b;unfold wZ;split
    . rename_i h;rw[h.1,h.2]
    . rfl
  have h3:=h.pf p3'
  have nop:tm (M i k) (N k j)=0->P.nx [some (.ref n),some (.ref m),some (.ref (L+3)),some (.int i),some (.int j),some (.int k),some (.ref s'.length),t7] s3:=λe=>by
    refine hP _ _ _ ?_;rw[e,Nat.max_eq_left (rJ _),z];exact h3
  refine xX (λc=>?_) λc=>?_
  . have c:0<M i k/\0<N k j:=by
      have:=of_decide_eq_true c;omega
    have ht:tm (M i k) (N k j)=max (M i k) (N k j):=if_pos c;rw[(h3.row hi).1];simp;rw[h3.get hi hj];simp;have e5:=p3 _ _ (zH (s:=s') (o:=.lst [.int (M i k),.int (N k j)]));simp[srcOf,e5];refine zob e5 rfl λs4 p4 e4=>?_;rw[zkt e4];simp;have h4:=h3.pf p4;rw[(h4.row hi).1];simp
    have ev:max (F i j:Int) (max (M i k:Int) (N k j:Int))=((max (F i j) (tm (M i k) (N k j)):Nat):Int):=by
      rw[ht];omega
    rw[ev];obtain⟨s5,q1,q2⟩:=h4.put (v:=max (F i j) (tm (M i k) (N k j))) hi hj;rw[q1];exact hP _ _ _ q2
  . have c:¬ (0<M i k/\0<N k j):=by
      have:=of_decide_eq_false c;omega
    exact nop (if_neg c)
end P1
namespace P1
open PySem Fc
open K22
def upk(F:Mt)(i j v:Nat):Mt:=wZ F i j (max (F i j) v)
theorem zur{F:Mt}{i j a b:Nat}:upk (upk F i j a) i j b=upk F i j (max a b):=by
 funext x y;unfold upk wZ;by_cases h:x=i/\y=j
 . simp[h]
 . simp[h]
theorem zoD{s:S}{n r0 r1 r2:Nat}{M N:Mt}(h:GridAt s n r0 r1 r2 M)(e:∀ i j,i<3->j<3->M i j=N i j):GridAt s n r0 r1 r2 N:=by
 have rw':∀(r i:Nat),i<3->Row s r (M i)->Row s r (N i):=λr i hi h=>by
  unfold Row at h ⊢;rw[h,e i 0 hi (by omega),e i 1 hi (by omega),e i 2 hi (by omega)]
 exact⟨h.at_,rw' _ 0 (by omega) h.h0,rw' _ 1 (by omega) h.h1,rw' _ 2 (by omega) h.h2⟩
theorem zmM{s:S}{n m q0 q1 q2 u0 u1 u2:Nat}{M N:Mt}{X:Xc}{Q:D->S->Prop}(hM:GridAt s n q0 q1 q2 M)(hN:GridAt s m u0 u1 u2 N)
    (hQ:∀ s' n' r0 r1 r2,Pf s s'->GridAt s' n' r0 r1 r2 (xO M N)->Q (.ref n') s'):wE (d_law_times [.ref n,.ref m] s) Q X:=by
  unfold d_law_times;refine(yD (by rfl)).mpr ?_;unfold b_law_times;simp;have e0:s++[O.lst [.int 0,.int 0,.int 0],.lst [.int 0,.int 0,.int 0],.lst [.int 0,.int 0,.int 0],.lst [.ref s.length,.ref (s.length+1),.ref (s.length+2)]]=s++xR s.length (λ_ _=>0):=rfl;rw[e0]
  have g0:GX s s.length (s++xR s.length (λ_ _=>0)) (λ_ _=>0):=⟨zav,λ_ _ _ e=>Pf.app _ _ e⟩
  generalize s++xR s.length (λ_ _=>0)=s0 at g0
  have kloop:∀(i j:Nat) (hi:i<3) (hj:j<3) (F:Mt) (s':S) (t5 t6 t7:Option D) (P:Pst),GX s s.length s' F ->
      (∀ s2 d5 d6 d7,GX s s.length s2 (upk F i j (xO M N i j))->P.nx [some (.ref n),some (.ref m),some (.ref (s.length+3)),some (.int i),some (.int j),d5,d6,d7] s2) ->
      wC (zdt (gName 5) (zE (zQ (eN yr (za (eN yS (za (e2 oAt (e2 oAt (zf 0) (zf 3)) (zf 5)) zj)) (za (eN yS (za (e2 oAt (e2 oAt (zf 1) (zf 5)) (zf 4)) zj)) zj))) (gName 6))
 (cIf (tB (e2 oGt (eN zcT (za (eLc [7] (yG .seq (zf 6)) (gName 7) tYes (eN yS (za (zf 7) zj))) zj)) (eC (.int 0))))
 (jE (e2 oAt (zf 2) (zf 3)) (zf 4) (eN zbE (za (eN yS (za (e2 oAt (e2 oAt (zf 2) (zf 3)) (zf 4)) zj)) (za (eN zbE (za (eLc [7] (yG .seq (zf 6)) (gName 7) tYes (eN yS (za (zf 7) zj))) zj)) zj))))
 yh)) [.int (0:Nat),.int (1:Nat),.int (2:Nat)] [some (.ref n),some (.ref m),some (.ref (s.length+3)),some (.int i),some (.int j),t5,t6,t7] s') P:=by
    intro i j hi hj F s' t5 t6 t7 P h hP;refine zX.mpr ⟨_,rfl,?_⟩;refine zeA hM hN rfl h hi hj (k:=0) (by omega) λs2 d6 d7 h2=>?_;refine zX.mpr ⟨_,rfl,?_⟩;refine zeA hM hN rfl h2 hi hj (k:=1) (by omega) λs3 d6 d7 h3=>?_;refine zX.mpr ⟨_,rfl,?_⟩;refine zeA hM hN rfl h3 hi hj (k:=2) (by omega) λs4 d6 d7 h4=>?_;refine vg.mpr ?_;refine hP s4 _ d6 d7 ?_
    have e:upk (upk (upk F i j (tm (M i 0) (N 0 j))) i j (tm (M i 1) (N 1 j))) i j (tm (M i 2) (N 2 j))=upk F i j (xO M N i j):=by
      rw[zur,zur,uP hi hj]
    rw[← e];exact h4
  have jloop:∀(i:Nat) (hi:i<3) (F:Mt) (s':S) (t4 t5 t6 t7:Option D) (P:Pst),GX s s.length s' F ->
      (∀ s2 d4 d5 d6 d7,GX s s.length s2 (upk (upk (upk F i 0 (xO M N i 0)) i 1 (xO M N i 1)) i 2 (xO M N i 2))->P.nx [some (.ref n),some (.ref m),some (.ref (s.length+3)),some (.int i),d4,d5,d6,d7] s2) ->
      wC (xg (yf (eC (.int 0)) (eC (.int 3))) (gName 4) (xg (yf (eC (.int 0)) (eC (.int 3))) (gName 5) (zE (zQ (eN yr (za (eN yS (za (e2 oAt (e2 oAt (zf 0) (zf 3)) (zf 5)) zj)) (za (eN yS (za (e2 oAt (e2 oAt (zf 1) (zf 5)) (zf 4)) zj)) zj))) (gName 6))
 (cIf (tB (e2 oGt (eN zcT (za (eLc [7] (yG .seq (zf 6)) (gName 7) tYes (eN yS (za (zf 7) zj))) zj)) (eC (.int 0))))
 (jE (e2 oAt (zf 2) (zf 3)) (zf 4) (eN zbE (za (eN yS (za (e2 oAt (e2 oAt (zf 2) (zf 3)) (zf 4)) zj)) (za (eN zbE (za (eLc [7] (yG .seq (zf 6)) (gName 7) tYes (eN yS (za (zf 7) zj))) zj)) zj))))
 yh))) [some (.ref n),some (.ref m),some (.ref (s.length+3)),some (.int i),t4,t5,t6,t7] s') P:=by
    intro i hi F s' t4 t5 t6 t7 P h hP
    have one:∀(j:Nat) (hj:j<3) (F:Mt) (s':S) (t5 t6 t7:Option D) (P:Pst),GX s s.length s' F ->
      (∀ s2 d5 d6 d7,GX s s.length s2 (upk F i j (xO M N i j))->P.nx [some (.ref n),some (.ref m),some (.ref (s.length+3)),some (.int i),some (.int j),d5,d6,d7] s2)->wC (xg (yf (eC (.int 0)) (eC (.int 3))) (gName 5) (zE (zQ (eN yr (za (eN yS (za (e2 oAt (e2 oAt (zf 0) (zf 3)) (zf 5)) zj)) (za (eN yS (za (e2 oAt (e2 oAt (zf 1) (zf 5)) (zf 4)) zj)) zj))) (gName 6))
 (cIf (tB (e2 oGt (eN zcT (za (eLc [7] (yG .seq (zf 6)) (gName 7) tYes (eN yS (za (zf 7) zj))) zj)) (eC (.int 0))))
 (jE (e2 oAt (zf 2) (zf 3)) (zf 4) (eN zbE (za (eN yS (za (e2 oAt (e2 oAt (zf 2) (zf 3)) (zf 4)) zj)) (za (eN zbE (za (eLc [7] (yG .seq (zf 6)) (gName 7) tYes (eN yS (za (zf 7) zj))) zj)) zj))))
 yh)) [some (.ref n),some (.ref m),some (.ref (s.length+3)),some (.int i),some (.int j),t5,t6,t7] s') P:=by
      intro j hj F s' t5 t6 t7 P h hP;rw[zmX,zis];simp only[v_c,zkB,znN,znO,rC,yI];exact kloop i j hi hj F s' t5 t6 t7 P h hP
    rw[zmX,zis];simp only[v_c,zkB,znN,znO,rC,yI];refine zX.mpr ⟨_,rfl,?_⟩;refine one 0 (by omega) F s' _ _ _ _ h λs2 d5 d6 d7 h2=>?_;refine zX.mpr ⟨_,rfl,?_⟩;refine one 1 (by omega) _ _ _ _ _ _ h2 λs3 d5 d6 d7 h3=>?_;refine zX.mpr ⟨_,rfl,?_⟩;refine one 2 (by omega) _ _ _ _ _ _ h3 λs4 d5 d6 d7 h4=>?_;refine vg.mpr ?_;exact hP _ _ _ _ _ h4
  refine zX.mpr ⟨_,rfl,?_⟩;refine jloop 0 (by omega) _ _ _ _ _ _ _ g0 λs2 d4 d5 d6 d7 h2=>?_;refine zX.mpr ⟨_,rfl,?_⟩;refine jloop 1 (by omega) _ _ _ _ _ _ _ h2 λs3 d4 d5 d6 d7 h3=>?_;refine zX.mpr ⟨_,rfl,?_⟩;refine jloop 2 (by omega) _ _ _ _ _ _ _ h3 λs4 d4 d5 d6 d7 h4=>?_;refine vg.mpr ?_;simp;refine hQ s4 _ _ _ _ (λk o e=>h4.lo k o (zq e) e) (zoD h4.g λi j hi hj=>?_)
  match i,hi,j,hj with
  | 0,_,0,_=>simp[upk,wZ]
  | 0,_,1,_=>simp[upk,wZ]
  | 0,_,2,_=>simp[upk,wZ]
  | 1,_,0,_=>simp[upk,wZ]
  | 1,_,1,_=>simp[upk,wZ]
  | 1,_,2,_=>simp[upk,wZ]
  | 2,_,0,_=>simp[upk,wZ]
  | 2,_,1,_=>simp[upk,wZ]
  | 2,_,2,_=>simp[upk,wZ]
end P1
namespace PL
open PySem Fc P1 P85 PB
open PW (Gd Arcs Wd)
instance decQ:DecidableEq (Str×Str×Str×List Arc):=λa b=>inferInstance
def q4(r:Rw):Str×Str×Str×List Arc:=(r.nm,r.src.1,r.tgt.1,r.A)
def hdP(x:Str×Nat):PyData:=.tuple [.str x.1,.int x.2]
section
variable{s:S}{k:Nat}{hs hs':List (Str×Nat)}{l:List Rw}
theorem zaQ(n:Nat):∀ hs:List (Str×Nat),dats s (n+4) ((mvH hs).map pairD)=some (hs.map hdP)
 | []=>by simp only[mvH,qu,dats]
 | x::hs=>by
  have ih:=zaQ n hs;have e:(mvH (x::hs)).map pairD=.tup [.str x.1,.int x.2]::(mvH hs).map pairD:=rfl;rw[e];refine zP ?_ ih;rw[ue,zP xZ (zP vZ yQ)];rfl
theorem zmw(g:Gd hs l):SeqAt.shaped (.list (hs.map hdP))=true:=by
 have key:∀ h':List (Str×Nat),h'⊆hs->PyData.canLayAll0 (h'.map hdP)=true/\PyData.depthAll (h'.map hdP)<=10:=by
  intro h'
  induction h' with
  | nil=>intro _;exact⟨rfl,by decide⟩
  | cons x h' ih =>
   intro hs';obtain⟨k1,k2⟩:=ih λx hx=>hs' (tV _ hx);have n1:=(g.wd.hn _ (hs' (tH))).1;refine⟨?_,?_⟩
   . simp only[tK,PyData.canLayAll0,hdP,PyData.canLay0,xT.mpr n1.okS,k1,rC]
   . simp only[tK,PyData.depthAll,PyData.depth,hdP];omega
 have k:=key hs (List.Subset.refl _);refine rE.mpr ⟨by simp only[PyData.canLay0,k.1],decide_eq_true ?_⟩;simp only[PyData.depth];have:=k.2;omega
end
end PL
namespace PL
open PySem Fc P1 P85 PB
open PW (Gd Arcs Wd ct vm jL zle zbY zal wJ Arcs.pf)
def Ds(s:S)(ds:List D):Prop:=∃ ps,(∀ s',Pf s s'->dats s' 59 ds=some ps)/\PyData.canLayAll0 ps=true/\PyData.depthAll ps<=20
end PL
namespace PL
open PySem Fc P1 P85 PB
open PW (zcL Gd Arcs Wd ct vm jL zle zbY zal wJ Arcs.pf)
section
variable{s s':S}{ds:List D}{d:D}{x:Str×Nat}
theorem zqv:∀{ds:List D},(∀ d∈ds,De s d)->∃ ps,(∀ s',Pf s s'->dats s' 59 ds=some ps)/\PyData.canLayAll0 ps=true/\PyData.depthAll ps<=10
 | [],_=>⟨[],λ_ _=>yQ,rfl,by decide⟩
 | d::ds,h=>by
  obtain⟨x,h1,h2,h3⟩:=h d (tH);obtain⟨xs,k1,k2,k3⟩:=zqv λd hd=>h d (tV _ hd);refine⟨x::xs,λs' q=>zP (h1 s' q 55) (k1 s' q),?_,?_⟩
  . simp only[PyData.canLayAll0,h2,k2,rC]
  . simp only[PyData.depthAll];omega
theorem zuG(h:∀ d∈ds,De s d):Ds s ds:=by
 obtain⟨ps,h1,h2,h3⟩:=zqv h;exact⟨ps,h1,h2,by omega⟩
end
end PL
namespace Fc
open PySem
section
variable{s:S}{Q:D->S->Prop}{X:Xc}
theorem zpj{n:Nat}{a:List D}{k:Nat}(h:s[n]?=some (.lst a))(hk:k<1000)(hl:a.length<=1000):wE (jN (.ref n) (.int k) s) Q X↔Q (.ref s.length) (s++[.lst (List.replicate k a).flatten]):=by
 have hz:sz (a.length*k)=true:=zbv (by
  have:=Nat.mul_le_mul hl (Nat.le_of_lt hk)
  omega)
 with_unfolding_all
  unfold jN;simp only[h,Int.toNat_natCast,hz];have h1:decide (-1000000<(k:Int))=true:=decide_eq_true (by omega);have h2:decide ((k:Int)<1000000)=true:=decide_eq_true (by omega);simp only[h1,h2,rC,if_true];exact Iff.rfl
end
end Fc
namespace P84
open PySem Fc
noncomputable section
def b_Run_call:C :=
 (zE (zR (zB d_check_call_name [] (za (e1 (xr "base") (zf 0)) (za (zf 1) zj))))
 (zE (zQ (e2 oAt (e1 (xr "known") (e1 (xr "base") (zf 0))) (zf 1)) (gTup 3 (gCons (gName 3) (gCons (gName 4) (gCons (gName 5) gNil)))))
 (zE (cIf (tB (e2 oNe (zf 3) (zY "Run" "function" d_Run_function [] (zf 0) zj)))
 (xj "CannotCall" "name" (zf 1))
 yh)
 (zE (zR (zB P85.d_check_values [] (za (zf 2) (za (e2 oAt (e1 (xr "many") (e1 (xr "base") (zf 0))) (zf 4)) zj))))
 (zE (cIf (tNot (tE (zB d_keeps [] (za (zf 5) (za (zY "Run" "held" d_Run_held [] (zf 0) zj) (za (zf 2) zj))))))
 (xj "CannotCall" "name" (zf 1))
 yh)
 (zR (eM zU (e1 (xr "places") (zf 0)) (za (eN wg (za (zf 1) (za (zf 4) (za (zf 2) zj)))) zj))))))))
def d_Run_call:F:=yg 3 6 b_Run_call
end
end P84
namespace P31
open PySem Fc
noncomputable section
def b_law_tamed:C :=
 (zE (zfT 3 4 (za (eN jh (za (zf 1) zj)) (za (eN yr zj) zj)))
 (zE (xg (yG .seq (zf 2)) (gTup 4 (gCons (gName 5) (gCons (gName 6) (gCons (gName 7) (gCons (gName 8) gNil)))))
 (zE (zQ (eN zab (za (zf 8) zj)) (gName 9))
 (zE (cIf (tAnd (tB (e2 oGt (eN zcT (za (eN yr (za (eN yS (za (e2 oAt (zf 3) (zf 6)) zj)) (za (eN yS (za (e2 oAt (zf 3) (zf 7)) zj)) zj))) zj)) (eC (.int 0)))) (tB (e2 oGt (zB P1.d_law_random [] (za (zf 0) (za (eC (.int 4)) zj))) (eC (.int 0)))))
 (zQ (e2 xH (zf 9) (eN yr (za (eN wg (za (eC (.int 0)) (za (eC (.int 0)) (za (e2 oGt (zB P1.d_law_random [] (za (zf 0) (za (eC (.int 3)) zj))) (eC (.int 0))) zj)))) zj))) (gName 9))
 yh)
 (zR (eM zU (zf 4) (za (eN wg (za (zf 5) (za (zf 6) (za (zf 7) (za (zf 9) zj))))) zj))))))
 (ye (zf 4))))
def d_law_tamed:F:=yg 3 10 b_law_tamed
def b_law_reached:C :=
 (zE (zfT 1 2 (za (eN (λ_=>mDN) zj) (za (eN yr zj) zj)))
 (zE (xg (yG .seq (eN yX (za (zf 0) zj))) (gTup 4 (gCons (gName 3) (gCons (gName 4) (gCons (gName 5) (gCons (gName 6) gNil)))))
 (zE (zQ (eN wg (za (zf 4) (za (zf 5) (za (zB P1.d_law_listed [] (za (zB P1.d_law_grid [] (za (zf 6) zj)) zj)) zj)))) (gName 7))
 (cIf (tB (e2 xJ (zf 7) (zf 1)))
 (zE (uY (zf 1) (zf 7) (eN yr (za (zf 3) zj)))
 (zR (eM zU (zf 2) (za (zf 7) zj))))
 yh)))
 (zE (vq (tAnd (tB (e2 oNe (zf 2) (eN yr zj))) (tB (e2 oLt (eN ziy (za (zf 1) zj)) (eC (.int 150)))))
 (zE (zQ (eN yr zj) (gName 8))
 (zE (xg (yG .seq (zf 2)) (gName 7)
 (xg (yG .seq (eN yX (za (zf 0) zj))) (gTup 4 (gCons (gName 3) (gCons (gName 4) (gCons (gName 5) (gCons (gName 6) gNil)))))
 (cIf (tB (e2 oEq (e2 oAt (zf 7) (eC (.int 1))) (zf 4)))
 (zE (zQ (zB d_law_times [] (za (zB P1.d_law_grid [] (za (e2 oAt (zf 7) (eC (.int 2))) zj)) (za (zB P1.d_law_grid [] (za (zf 6) zj)) zj))) (gName 9))
 (zE (zQ (eN wg (za (e2 oAt (zf 7) (eC (.int 0))) (za (zf 5) (za (zB P1.d_law_listed [] (za (zf 9) zj)) zj)))) (gName 10))
 (cIf (tB (e2 xJ (zf 10) (zf 1)))
 (zE (uY (zf 1) (zf 10) (e2 xH (e2 zlC (zf 1) (zf 7)) (eN yr (za (zf 3) zj))))
 (zR (eM zU (zf 8) (za (zf 10) zj))))
 yh)))
 yh)))
 (zQ (zf 8) (gName 2)))))
 (ye (eIf (tB (e2 oEq (zf 2) (eN yr zj))) (zf 1) (eC .non))))))
def d_law_reached:F:=yg 1 11 b_law_reached
def b_law_sized:C :=
 (zE (zQ (zB P85.d_law_drawn [] (za (zf 0) (za (zf 1) (za (zf 2) zj)))) (gTup 2 (gCons (gName 3) (gCons (gName 4) gNil))))
 (zE (cIf (tB (e2 oGt (zB P1.d_law_random [] (za (zf 0) (za (eC (.int 3)) zj))) (eC (.int 0))))
 (zQ (zB d_law_tamed [] (za (zf 0) (za (zf 3) (za (zf 4) zj)))) (gName 4))
 yh)
 (zE (vq (tB (e1 zei (zB d_law_reached [] (za (zf 4) zj))))
 (zQ (zdU (zf 4) (zej (eC (.int 1))) pNo) (gName 4)))
 (ye (eN yr (za (zf 3) (za (zf 4) zj)))))))
def d_law_sized:F:=yg 3 5 b_law_sized
end
end P31
namespace P31
open PySem Fc P1 P85 PB PC
open P20 (yt)
section
variable{A:List Arc}{t:Tb}
theorem zqJ(h:Cn t):In3 t.A:=by
 obtain⟨⟨M,_,e⟩,_⟩:=h;rw[e];exact zeb
theorem ziG{r:Rw}(h:Cn t):D.tup [.str t.b,.str r.tgt.1,.tup ((yH (xO (wH (λ_ _=>0) t.A) (wH (λ_ _=>0) r.A))).map aD)]=PC.tD (yW t (tbR r)):=by
 obtain⟨M,hM,et⟩:=h.mk
 have eA:t.A=yH M:=by rw[et];rfl
 have e1:yW t (tbR r)=PC.mk t.b r.tgt.1 (zrb M (PW.mOf r.A)):=by
  have:=zjR (b1:=t.b) (e1:=t.e) (b2:=r.src.1) (e2:=r.tgt.1) (M:=M) (N:=PW.mOf r.A);rw[← et]at this;exact this
 rw[e1,jk hM (zaj r.A),eA]
 have e2:yH (xO (wH (λ_ _=>0) (yH M)) (wH (λ_ _=>0) r.A))=yH (xO M (PW.mOf r.A)):=by
  refine zof λi j hi hj=>?_;unfold xO;rw[if_pos ⟨hi,hj⟩,if_pos ⟨hi,hj⟩,zau hM hi (show 0<3 by omega),zau hM hi (show 1<3 by omega),zau hM hi (show 2<3 by omega)];rfl
 rw[e2];rfl
end
section
theorem map_nil{α:Type}{f:α->D}{post:List α}(er:([]:List D)=post.map f):post=[]:=by
 cases post with
 | nil=>rfl
 | cons _ _=>cases er
end
open PW (Gd)
section
variable{s:S}{B:Nat}{t:Tb}{us:List Tb}
theorem znu{kvs:List (D×D)}(h:kvs.map (·.1)=us.map PC.tD)(ha:zgq s B=some kvs):∃ o,jm s (.ref B) (PC.tD t)=some o/\o.isSome=decide (t∈us):=by
 refine⟨wD kvs (kT t),?_,?_⟩
 . unfold jm;dsimp only;rw[ha];dsimp only;rw[zaf];rfl
 . have:=zaU (t:=t) h;by_cases hin:t∈us
   . rw[decide_eq_true hin]
     cases e:wD kvs (kT t)with
     | none=>exact absurd hin (this.mp e)
     | some _=>rfl
   . rw[decide_eq_false hin,this.mpr hin];rfl
theorem zjK{kvs:List (D×D)}(h:kvs.map (·.1)=us.map PC.tD)(ha:zgq s B=some kvs)(hin:t∈us):∃ v,jm s (.ref B) (PC.tD t)=some (some v):=by
 obtain⟨o,o1,o2⟩:=znu (t:=t) h ha;rw[decide_eq_true hin]at o2;obtain⟨v,rfl⟩:=Option.isSome_iff_exists.mp o2;exact⟨v,o1⟩
theorem znv{kvs:List (D×D)}(h:kvs.map (·.1)=us.map PC.tD)(ha:zgq s B=some kvs)(hin:t∉us):jm s (.ref B) (PC.tD t)=some none:=by
 obtain⟨o,o1,o2⟩:=znu (t:=t) h ha;rw[decide_eq_false hin]at o2
 cases o with
 | none=>exact o1
 | some _=>cases o2
end
section
variable{B:Nat}
theorem zdc:∀(A B:List Arc),PySem.W.alikeAll (A.map zcU) (B.map zcU)=true
 | [],_=>by simp[PySem.W.alikeAll]
 | _::_,[]=>by simp[PySem.W.alikeAll]
 | a::A,b::B=>by
  have:=zdc A B;simp only[tK,PySem.W.alikeAll,this,Bool.and_true];simp[zcU,PySem.W.alike,PySem.W.alikeAll]
end
section
variable{s s':S}{X:Xc}{Q:D->S->Prop}{n m k:Nat}{t:Tb}{l:List Rw}
def rP(q:Rw):PyData:=.tuple [.str q.nm,.str q.src.1,.str q.tgt.1,.list (q.A.map zcU)]
theorem znm{q:Rw}{k:Nat}(h:s[q.a]?=some (.lst (q.A.map aD))):dat s (k+4) (rwD q)=some (rP q):=by
 unfold rwD;rw[ue,zP xZ (zP xZ (zP xZ (zP (x:=.list (q.A.map zcU)) (xs:=[]) (by rw[xF h,zam zcU (λa=>zdR a)];rfl) yQ)))];rfl
theorem zjt{k:Nat}:∀{l:List Rw},(∀ q∈l,s[q.a]?=some (.lst (q.A.map aD)))->dats s (k+4) (l.map rwD)=some (l.map rP)
 | [],_=>by simp
 | q::l,h=>zP (znm (h q (tH))) (zjt λx hx=>h x (tV _ hx))
theorem zlF{q q':Rw}:PySem.W.alike (rP q) (rP q')=true:=by
 simp[rP,PySem.W.alike,PySem.W.alikeAll,zdc]
theorem zkZ(h:∀ q∈l,s[q.a]?=some (.lst (q.A.map aD)))(hl:l.length<100000):zbt s (l.map rwD)=true:=by
 unfold zbt
 have e:(l.map rwD).map (enc s)=l.map rP:=by
  rw[sO];refine qM λq hq=>?_;show enc s (rwD q)=rP q;unfold enc;rw[znm (k:=56) (h q hq)];rfl
 rw[zjt (k:=56) h,e];have h1:sz (l.map rwD).length=true:=zbv (by simp;omega);rw[h1];simp[List.all_map,zaK,rP];exact λx _ y _=>zlF (q:=x) (q':=y)
theorem zmA:∃ G:List Rw,zbB s (l.map rwD)=G.map rwD/\(∀ v∈G,v∈l)/\(∀ w∈l,∃ v∈G,rwD v=rwD w)/\G.length=l.length:=by
 have pm:(zbB s (l.map rwD)).Perm (l.map rwD):=oh _ _
 have all:∀ d∈zbB s (l.map rwD),∃ t∈l,d=rwD t:=λd hd=>by
  obtain⟨t,ht,e⟩:=tM.mp (pm.mem_iff.mp hd);exact⟨t,ht,e.symm⟩
 generalize zbB s (l.map rwD)=M at *
 obtain⟨G,rfl,hG⟩:∃ G:List Rw,M=G.map rwD/\∀ v∈G,v∈l:=by
  clear pm
  induction M with
  | nil=>exact⟨[],rfl,λv h=>by cases h⟩
  | cons d M ih =>
   obtain⟨t,ht,rfl⟩:=all d (tH);obtain⟨G,rfl,hG⟩:=ih λx hx=>all x (tV _ hx);refine⟨t::G,rfl,λv hv=>?_⟩
   rcases tR.mp hv with rfl | hv
   . exact ht
   . exact hG v hv
 refine⟨G,rfl,hG,λw hw=>?_,by simpa using pm.length_eq⟩;obtain⟨v,hv,e⟩:=tM.mp (pm.mem_iff.mpr (tM.mpr ⟨w,hw,rfl⟩));exact⟨v,hv,e⟩
theorem zfn(hn:s[n]?=some (.lst (l.map rwD)))(h:∀ q∈l,s[q.a]?=some (.lst (q.A.map aD)))(hl:l.length<100000)(hQ:∀(s':S) (m:Nat) (G:List Rw),Pf s s'->s'[m]?=some (.lst (G.map rwD))->(∀ v∈G,v∈l)->(∀ w∈l,∃ v∈G,rwD v=rwD w)->G.length=l.length->s.length<=m->Q (.ref m) s'):wE (yX [.ref n] s) Q X:=by
 obtain⟨G,e1,e2,e3,e4⟩:=zmA (s:=s) (l:=l)
 have eS:yX [.ref n] s=new (.lst (G.map rwD)) s:=by
  unfold yX;simp only[hn,zkZ h hl,if_true,e1]
 rw[eS,zna];exact hQ _ _ _ Pf.app zH e2 e3 e4 (tX _)
end
section
variable{s s':S}{P:Pst}{B g z fo h e:Nat}{hs:List (Str×Nat)}
def TB:C:=(zE (zQ (eN zab (za (zf 8) zj)) (gName 9))
 (zE (cIf (tAnd (tB (e2 oGt (eN zcT (za (eN yr (za (eN yS (za (e2 oAt (zf 3) (zf 6)) zj)) (za (eN yS (za (e2 oAt (zf 3) (zf 7)) zj)) zj))) zj)) (eC (.int 0)))) (tB (e2 oGt (zB P1.d_law_random [] (za (zf 0) (za (eC (.int 4)) zj))) (eC (.int 0)))))
 (zQ (e2 xH (zf 9) (eN yr (za (eN wg (za (eC (.int 0)) (za (eC (.int 0)) (za (e2 oGt (zB P1.d_law_random [] (za (zf 0) (za (eC (.int 3)) zj))) (eC (.int 0))) zj)))) zj))) (gName 9))
 yh)
 (zR (eM zU (zf 4) (za (eN wg (za (zf 5) (za (zf 6) (za (zf 7) (za (zf 9) zj))))) zj)))))
theorem ztF{q:Rw}{ds:List D}{t9:Option D}(hfg:fo≠g)(hg:Gen s g (B+80))(hq:RwOk s hs q)(nd:(hs.map (·.1)).Nodup)(hz:s[z]?=some (.dK (mvH hs)))(hf:s[fo]?=some (.lst ds))(hl:ds.length<100)(hA:q.A.length<=30)
   (hQ:∀ s' q',Fr g s s'->Gen s' g B->q'.nm=q.nm/\q'.src=q.src/\q'.tgt=q.tgt->(∀ a∈q'.A,a.1<q.src.2/\a.2.1<q.tgt.2)->q'.A.length<=q.A.length+1->s'[q'.a]?=some (.lst (q'.A.map aD))->s.length<=q'.a->P.nx [some (.ref g),some (.ref h),some (.ref e),some (.ref z),some (.ref fo),some (.str q.nm),some (.str q.src.1),some (.str q.tgt.1),some (.ref q.a),some (.ref q'.a)] (s'.set fo (.lst (ds++[rwD q'])))) :
   wC (TB [some (.ref g),some (.ref h),some (.ref e),some (.ref z),some (.ref fo),some (.str q.nm),some (.str q.src.1),some (.str q.tgt.1),some (.ref q.a),t9] s) P:=by
 unfold TB;obtain⟨i1,_⟩:=zaA (Pf.app (t:=[O.lst (q.A.map aD)]) _ _ hz) nd hq.src;obtain⟨i2,_⟩:=zaA (Pf.app (t:=[O.lst (q.A.map aD)]) _ _ hz) nd hq.tgt;generalize hR:zR _=R
 have fin:∀(s2:S) (w:Nat) (A':List Arc),Fr g s s2->Gen s2 g B->s2[w]?=some (.lst (A'.map aD))->s2[fo]?=some (.lst ds)->(∀ a∈A',a.1<q.src.2/\a.2.1<q.tgt.2)->A'.length<=q.A.length+1->s.length<=w->wC (R [some (.ref g),some (.ref h),some (.ref e),some (.ref z),some (.ref fo),some (.str q.nm),some (.str q.src.1),some (.str q.tgt.1),some (.ref q.a),some (.ref w)] s2) P:=by
   intro s2 w A' f2 g2 hw hf2 hA' hl' hle;rw[← hR];have hd:decide (ds.length<16777216)=true:=decide_eq_true (by omega);simp[isl hf2,zV hf2];rw[hd,yI];exact hQ s2 ⟨q.nm,q.src,q.tgt,A',w⟩ f2 g2 ⟨rfl,rfl,rfl⟩ hA' hl' hw hle
 clear hQ
 simp;rw[zmZ hq.at_];have p1:Pf s (s++[O.lst (q.A.map aD)]):=Pf.app;have hw1:=zH (s:=s) (o:=O.lst (q.A.map aD));have hf1:=p1 _ _ hf;have g1:=p1.gen hg;have lg:=kh hg
 have hwg:s.length≠g:=by omega
 generalize hw:s.length=w at *;generalize s++[O.lst (q.A.map aD)]=s1 at *;simp[i1,i2];rw[zfm zH];have q2:Pf s1 (s1++[O.lst [.int (q.src.2:Int),.int (q.tgt.2:Int)]]):=Pf.app;have p2:=p1.trans q2;have hw2:=q2 _ _ hw1;have hf2:=q2 _ _ hf1;have g2:=q2.gen g1;generalize s1++[O.lst [.int (q.src.2:Int),.int (q.tgt.2:Int)]]=s2 at *;simp
 have same:∀ s3,Fr g s2 s3->Gen s3 g B->wC (R [some (.ref g),some (.ref h),some (.ref e),some (.ref z),some (.ref fo),some (.str q.nm),some (.str q.src.1),some (.str q.tgt.1),some (.ref q.a),some (.ref w)] s3) P:=λs3 f3 g3 =>
   fin s3 w q.A (p2.fr.trans f3) g3 (f3.2 _ hwg _ hw2) (f3.2 _ hfg _ hf2) hq.arcs (by omega) (tX _)
 by_cases hpos:0<q.src.2/\0<q.tgt.2
 . have e1:decide (0<min (q.src.2:Int) (q.tgt.2:Int))=true:=decide_eq_true (by omega);rw[e1,yI];refine yo (B:=B+40) (by exact g2) (by omega) (by decide) λz1 o1 u1 u2 g3=>?_;simp;by_cases hz1:0<z1
   . simp[hz1];refine yo (B:=B) (by exact g3) (by omega) (by decide) λz2 o2 v1 v2 g4=>?_;simp;have f4:Fr g s2 ((s2.set g o1).set g o2):=Fr.set.trans Fr.set;have g4':Gen ((s2.set g o1).set g o2) g B:=g4;rw[List.set_set]at f4 g4'
     have el:s2.length=(s2.set g o2).length:=by simp
     rw[el]
     clear el
     generalize s2.set g o2=s3 at *;have q5:Pf s3 (s3++[O.lst [.tup [.int 0,.int 0,.bl (decide (0<z2))]]]):=Pf.app;rw[zco (q5 _ _ (f4.2 _ hwg _ hw2)) zH (by simp;omega)];have q6:Pf s3 ((s3++[O.lst [.tup [.int 0,.int 0,.bl (decide (0<z2))]]])++[O.lst (q.A.map aD++[.tup [.int 0,.int 0,.bl (decide (0<z2))]])]):=q5.trans Pf.app;refine fin _ _ (q.A++[(0,0,decide (0<z2))]) (p2.fr.trans (f4.trans q6.fr)) (q6.gen g4') (by rw[zH];simp[aD]) (q6 _ _ (f4.2 _ hfg _ hf2)) (λa ha=>?_) (by simp) (by have:=zq (f4.2 _ hwg _ hw2);simp;omega)
     rcases tZ.mp ha with ha | ha
     . exact hq.arcs a ha
     . simp at ha;subst ha;exact hpos
   . simp[hz1];exact same _ Fr.set (g3.mono (by omega))
 . have hn:¬ (0<q.src.2/\0<q.tgt.2):=hpos;have e1:decide (0<min (q.src.2:Int) (q.tgt.2:Int))=false:=decide_eq_false (by omega);rw[e1,zgC];exact same _ Pf.refl.fr (g2.mono (by omega))
end
section
variable{s s':S}{X:Xc}{Q:D->S->Prop}{n B k g z h e:Nat}{hs:List (Str×Nat)}{l:List Rw}
theorem zek:∀ hs:List (Str×Nat),uW (hs.map hD)=some (mvH hs)
 | []=>rfl
 | x::hs=>by
  show(match keyOf (.str x.1),uW (hs.map hD)with
   | some k,some kvs=>some ((k,D.int x.2)::kvs)
   | _,_=>none)=_
  rw[zek hs];rfl
theorem zlh{N:Nat}(hN:N<=30)(hg:Gen s g (B+80*l.length))(hh:s[h]?=some (.lst (hs.map hD)))(he:s[e]?=some (.lst (l.map rwD)))(hk:∀ q∈l,RwOk s hs q)(nd:(hs.map (·.1)).Nodup)(hA:∀ q∈l,q.A.length<=N)(hl:l.length<=50)
   (hQ:∀(s':S) (n:Nat) (l':List Rw),Fr g s s'->Gen s' g B->s'[n]?=some (.lst (l'.map rwD))->l'.map (·.nm)=l.map (·.nm)->(∀ q∈l',RwOk s' hs q/\q.A.length<=N+1)->s.length<=n->Q (.ref n) s'):wE (d_law_tamed [.ref g,.ref h,.ref e] s) Q X:=by
 unfold d_law_tamed;refine(yD (by rfl)).mpr ?_;unfold b_law_tamed;have eT:(zE (zQ (eN zab (za (zf 8) zj)) (gName 9)) _)=TB:=rfl;rw[eT];generalize hB:TB=Bd;simp[zV hh];rw[zek];simp only[zK];rw[zaR nd];have q0:Pf s (s++[O.dK (mvH hs),O.lst []]):=Pf.app
 have hz:(s++[O.dK (mvH hs),O.lst []])[s.length]?=some (.dK (mvH hs)):=by rw[wA (s:=s) 0 (by omega)];rfl
 have hf:(s++[O.dK (mvH hs),O.lst []])[s.length+1]?=some (.lst (([]:List Rw).map rwD)):=by rw[wA (s:=s) 1 (by omega)];rfl
 have lg:=kh hg;have lst_ne:∀{w:Nat}{ds:List D},s[w]?=some (.lst ds)->(∀ d∈ds,∀ i,d≠.int i)->w≠g:=λh1 h2=>zdv hg h1 h2
 have heg:e≠g:=lst_ne he λd hd i z=>by
   obtain⟨q,_,rfl⟩:=tM.mp hd;cases z
 have hqg:∀ q∈l,q.a≠g:=λq hq=>lst_ne (hk q hq).at_ λd hd i z=>by
   obtain⟨a,_,rfl⟩:=tM.mp hd;cases z
 rw[yt (q0 _ _ he),zK];dsimp only;have g0:=q0.gen hg;generalize s++[O.dK (mvH hs),O.lst []]=s1 at *
 refine vP (n:=e) (ds:=l.map rwD) (λr σ s'=>∃(pre post l':List Rw) (t5 t6 t7 t8 t9:Option D),l=pre++post/\r=post.map rwD/\σ=[some (.ref g),some (.ref h),some (.ref e),some (.ref s.length),some (.ref (s.length+1)),t5,t6,t7,t8,t9]/\Fr g s s'/\Gen s' g (B+80*post.length) /\
    s'[s.length]?=some (.dK (mvH hs))/\s'[s.length+1]?=some (.lst (l'.map rwD))/\l'.map (·.nm)=pre.map (·.nm)/\∀ q∈l',RwOk s' hs q/\q.A.length<=N+1/\q.a≠s.length+1/\q.a≠g)
   (λr σ s' ⟨_,_,_,_,_,_,_,_,_,_,_,f,_⟩=>f.2 _ heg _ he) ?_ ?_ _ 0 (by simp) ⟨[],l,[],none,none,none,none,none,rfl,rfl,rfl,q0.fr,g0,hz,hf,rfl,λq hq=>by cases hq⟩
 . rintro d r σ s' ⟨pre,post,l',t5,t6,t7,t8,t9,el,er,rfl,fr,gn,hz',hf',en,hq'⟩
   match post,er with
   | q::post,er =>
    rw[tK,List.cons.injEq]at er;obtain⟨rfl,rfl⟩:=er
    have hq:q∈l:=by rw[el];simp
    have kq:=hk q hq
    have hlen:l'.length<=50:=by have:=congrArg List.length en;simp at this;rw[el]at hl;simp at hl;omega
    refine⟨[some (.ref g),some (.ref h),some (.ref e),some (.ref s.length),some (.ref (s.length+1)),some (.str q.nm),some (.str q.src.1),some (.str q.tgt.1),some (.ref q.a),t9],rfl,?_⟩;rw[← hB]
    have kq':RwOk s' hs q:=⟨kq.nm,kq.src,kq.tgt,kq.arcs,kq.len,fr.2 _ (hqg q hq) _ kq.at_⟩
    refine ztF (B:=B+80*post.length) (by omega) (gn.mono (by simp;omega)) kq' nd hz' hf' (by simp;omega) (rN (hA q hq) hN) λs2 q' f2 g2 e2 ha hla hat hge=>?_;obtain⟨n1,n2,n3⟩:=e2;have lfo:=zq hf';have hfo2:=f2.2 _ (show s.length+1≠g by omega) _ hf';have lq:=hA q hq
    have st:∀ w o,w≠s.length+1->s2[w]?=some o->(s2.set (s.length+1) (.lst (l'.map rwD++[rwD q'])))[w]?=some o:=λw o hw z=>by rw[zJ (tY hw)];exact z
    refine⟨pre++[q],post,l'++[q'],_,_,_,_,_,by rw[el];simp,rfl,rfl,?_,?_,st _ _ (by omega) (f2.2 _ (by omega) _ hz'),?_,by simp[en,n1],λx hx=>?_⟩
    . exact⟨by rw[oA];exact(fr.trans f2).1,λw hw o z=>st _ _ (by have:=zq z;omega) ((fr.trans f2).2 _ hw _ z)⟩
    . obtain⟨a1,a2,a3,a4,a5⟩:=g2;exact⟨a1,a2,a3,st _ _ (by omega) a4,a5⟩
    . rw[yM (zq hfo2)];simp
    . rcases tZ.mp hx with hx | hx
      . obtain⟨r1,r2,r3,r4⟩:=hq' x hx;exact⟨⟨r1.nm,r1.src,r1.tgt,r1.arcs,r1.len,st _ _ r3 (f2.2 _ r4 _ r1.at_)⟩,r2,r3,r4⟩
      . simp at hx;subst hx;refine⟨⟨by rw[n1];exact kq.nm,by rw[n2];exact kq.src,by rw[n3];exact kq.tgt,by rw[n2,n3];exact ha,by omega,st _ _ (by omega) hat⟩,by omega,by omega,by omega⟩
 . rintro σ s' ⟨pre,post,l',t5,t6,t7,t8,t9,el,er,rfl,fr,gn,hz',hf',en,hq'⟩;have:=map_nil er;subst this;rw[sJ]at el;subst el;simp;exact hQ _ _ l' fr (gn.mono (by simp)) hf' en (λq hq=>⟨(hq' q hq).1,(hq' q hq).2.1⟩) (by omega)
end
structure Sr(s0:S)(fo lo:Nat)(us W:List Tb)(s:S):Prop where
 st:∀ w o,w≠fo->w≠lo->s0[w]?=some o->s[w]?=some o
 len:s0.length<=s.length
 dn:∃ kvs,s[fo]?=some (.dN kvs)/\kvs.map (·.1)=us.map PC.tD/\∀ kv∈kvs,∃ a ds,kv.2=.ref a/\s[a]?=some (.lst ds)/\ds.length<=us.length/\a≠lo/\a≠fo
 ly:s[lo]?=some (.lst (W.map PC.tD))
 ne:fo≠lo
section
variable{s0 s s':S}{P:Pst}{fo lo:Nat}{us W:List Tb}{t:Tb}
theorem Sr.pf(h:Sr s0 fo lo us W s)(p:Pf s s'):Sr s0 fo lo us W s':=by
 obtain⟨kvs,h1,h2,h3⟩:=h.dn;exact⟨λw o a b e=>p _ _ (h.st w o a b e),rN h.len p.len,⟨kvs,p _ _ h1,h2,λkv hk=>let ⟨a,ds,e1,e2,e3⟩:=h3 kv hk;⟨a,ds,e1,p _ _ e2,e3⟩⟩,p _ _ h.ly,h.ne⟩
theorem Sr.put{kvs:List (D×D)}{a:Nat}{ds:List D}(h:Sr s0 fo lo us W s)(h1:s[fo]?=some (.dN kvs))(hk:kvs.map (·.1)=us.map PC.tD)(h3:∀ kv∈kvs,∃ a ds,kv.2=.ref a/\s[a]?=some (.lst ds)/\ds.length<=us.length/\a≠lo/\a≠fo)
   (ha:s[a]?=some (.lst ds)) (hd:ds.length<=us.length+1) (n1:a≠lo) (n2:a≠fo):Sr s0 fo lo (us++[t]) (W++[t]) ((s.set fo (.dN (kvs++[(PC.tD t,.ref a)]))).set lo (.lst (W.map PC.tD++[PC.tD t]))):=by
 have ne:=h.ne
 have st:∀ w o,w≠fo->w≠lo->s[w]?=some o->((s.set fo (.dN (kvs++[(PC.tD t,.ref a)]))).set lo (.lst (W.map PC.tD++[PC.tD t])))[w]?=some o:=λw o x y e=>by
   rw[zJ (tY y),zJ (tY x)];exact e
 refine⟨λw o x y e=>st w o x y (h.st w o x y e),by simpa using h.len,⟨kvs++[(PC.tD t,.ref a)],?_,by simp[hk],λkv hkv=>?_⟩,?_,ne⟩
 . rw[zJ (tY ne)];exact yM (zq h1)
 . rcases tZ.mp hkv with z | z
   . obtain⟨b,es,e1,e2,e3,e4,e5⟩:=h3 kv z;exact⟨b,es,e1,st _ _ e5 e4 e2,by simp;omega,e4,e5⟩
   . simp at z;subst z;exact⟨a,ds,rfl,st _ _ n2 n1 ha,by simpa using hd,n1,n2⟩
 . rw[yM (by rw[oA];exact zq h.ly)];simp
open Classical in
noncomputable def zeI(us:List Tb)(t:Tb):List Tb:=if t∈us then us else us++[t]
open Classical in
noncomputable def addW(us W:List Tb)(t:Tb):List Tb:=if t∈us then W else W++[t]
theorem zpL{nm:Str}{c x4 x5 x6 x8 x9 x10:Option D}(h:Sr s0 fo lo us W s)(hu:us.length<=5000)(hw:W.length<=5000)(hQ:∀ s',Sr s0 fo lo (zeI us t) (addW us W t) s'->P.nx [c,some (.ref fo),some (.ref lo),some (.str nm),x4,x5,x6,some (PC.tD t),x8,x9,x10] s') :
    wC (cIf (tB (e2 xJ (zf 7) (zf 1)))
 (zE (uY (zf 1) (zf 7) (eN yr (za (zf 3) zj)))
 (zR (eM zU (zf 2) (za (zf 7) zj))))
 yh [c,some (.ref fo),some (.ref lo),some (.str nm),x4,x5,x6,some (PC.tD t),x8,x9,x10] s) P:=by
  obtain⟨kvs,h1,hk,h3⟩:=h.dn;simp;by_cases hin:t∈us
  . obtain⟨v,o1⟩:=zjK hk (zbi h1) hin;simp[o1];have e1:zeI us t=us:=if_pos hin;have e2:addW us W t=W:=if_pos hin;rw[e1,e2]at hQ;exact hQ s h
  . have o1:=znv hk (zbi h1) hin;simp[o1];have e1:zeI us t=us++[t]:=if_neg hin;have e2:addW us W t=W++[t]:=if_neg hin;rw[e1,e2]at hQ;have q:Pf s (s++[O.lst [.str nm]]):=Pf.app;have ga:=zH (s:=s) (o:=O.lst [.str nm]);have hq:=h.pf q;have l1:=zq h1;have l2:=zq h.ly
    have kl:kvs.length=us.length:=by have:=congrArg List.length hk;simpa using this
    have kn:wD kvs (kT t)=none:=(zaU (t:=t) hk).mpr hin
    have h3':∀ kv∈kvs,∃ a ds,kv.2=.ref a/\(s++[O.lst [.str nm]])[a]?=some (.lst ds)/\ds.length<=us.length/\a≠lo/\a≠fo:=λkv z=>let ⟨a,ds,e1,e2,e3⟩:=h3 kv z;⟨a,ds,e1,q _ _ e2,e3⟩
    have pt:=hq.put (t:=t) (q _ _ h1) hk h3' ga (by simp) (by omega) (by omega);generalize s.length=n at *;generalize s++[O.lst [.str nm]]=s1 at *;rw[zen (q _ _ h1) (zaf t) (by omega),zaw kn];simp
    have gl:(s1.set fo (O.dN (kvs++[(PC.tD t,D.ref n)])))[lo]?=some (.lst (W.map PC.tD)):=by rw[zJ h.ne];exact hq.ly
    rw[isl gl,yI,zV gl,zK,decide_eq_true (by simp;omega),yI];exact hQ _ pt
theorem zqL{kvs:List (D×D)}{B:Nat}{w:Tb}(h:kvs.map (·.1)=us.map PC.tD)(ha:zgq s B=some kvs)(hin:w∈us):∃ kv∈kvs,jm s (.ref B) (PC.tD w)=some (some kv.2):=by
 obtain⟨v,o1⟩:=zjK h ha hin
 have e:jm s (.ref B) (PC.tD w)=some (wD kvs (kT w)):=by
  unfold jm;dsimp only;rw[ha];dsimp only;rw[zaf];rfl
 rw[e]at o1 ⊢
 have o1:wD kvs (kT w)=some v:=by simpa using o1
 have o2:=o1;unfold wD at o1;obtain⟨kv,k1,k2⟩:=tW.mp o1;exact⟨kv,oN k1,by rw[o2,k2]⟩
theorem zpM{nm:Str}{c x2 x4 x5 x6 x9:Option D}{w:Tb}(h:Sr s0 fo lo us W s)(hwu:w∈us)(hu:us.length<=5000)(hw:W.length<=5000)(hQ:∀ s',Sr s0 fo lo (zeI us t) (addW us W t) s'->P.nx [c,some (.ref fo),x2,some (.str nm),x4,x5,x6,some (PC.tD w),some (.ref lo),x9,some (PC.tD t)] s') :
    wC (cIf (tB (e2 xJ (zf 10) (zf 1)))
 (zE (uY (zf 1) (zf 10) (e2 xH (e2 zlC (zf 1) (zf 7)) (eN yr (za (zf 3) zj))))
 (zR (eM zU (zf 8) (za (zf 10) zj))))
 yh [c,some (.ref fo),x2,some (.str nm),x4,x5,x6,some (PC.tD w),some (.ref lo),x9,some (PC.tD t)] s) P:=by
  obtain⟨kvs,h1,hk,h3⟩:=h.dn;simp;by_cases hin:t∈us
  . obtain⟨v,o1⟩:=zjK hk (zbi h1) hin;simp[o1];have e1:zeI us t=us:=if_pos hin;have e2:addW us W t=W:=if_pos hin;rw[e1,e2]at hQ;exact hQ s h
  . have o1:=znv hk (zbi h1) hin;obtain⟨kv,k1,o2⟩:=zqL hk (zbi h1) hwu;obtain⟨b,es,eb,gb,lb,n1,n2⟩:=h3 kv k1;rw[eb]at o2;simp[o1,o2];have e1:zeI us t=us++[t]:=if_neg hin;have e2:addW us W t=W++[t]:=if_neg hin;rw[e1,e2]at hQ;have q1:Pf s (s++[O.lst [.str nm]]):=Pf.app;rw[zco (q1 _ _ gb) zH (by simp;omega)];have q:Pf s ((s++[O.lst [.str nm]])++[O.lst (es++[.str nm])]):=q1.trans Pf.app;have ga:=zH (s:=s++[O.lst [.str nm]]) (o:=O.lst (es++[.str nm]));have hq:=h.pf q;have l1:=zq (q1 _ _ h1);have l2:=zq (q1 _ _ h.ly)
    have kl:kvs.length=us.length:=by have:=congrArg List.length hk;simpa using this
    have kn:wD kvs (kT t)=none:=(zaU (t:=t) hk).mpr hin
    have h3':∀ kv∈kvs,∃ a ds,kv.2=.ref a/\((s++[O.lst [.str nm]])++[O.lst (es++[.str nm])])[a]?=some (.lst ds)/\ds.length<=us.length/\a≠lo/\a≠fo:=λkv z=>let ⟨a,ds,e1,e2,e3⟩:=h3 kv z;⟨a,ds,e1,q _ _ e2,e3⟩
    have pt:=hq.put (t:=t) (q _ _ h1) hk h3' ga (by simp;omega) (by omega) (by omega);generalize (s++[O.lst [.str nm]]).length=n at *;generalize (s++[O.lst [.str nm]])++[O.lst (es++[.str nm])]=s1 at *;rw[zen (q _ _ h1) (zaf t) (by omega),zaw kn];simp
    have gl:(s1.set fo (O.dN (kvs++[(PC.tD t,D.ref n)])))[lo]?=some (.lst (W.map PC.tD)):=by rw[zJ h.ne];exact hq.ly
    rw[isl gl,yI,zV gl,zK,decide_eq_true (by simp;omega),yI];exact hQ _ pt
end
end P31
namespace P31
open PySem Fc P1 P85 PB PC
variable{E us A post:List Tb}{t w:Tb}
theorem ww{v:Tb}:v∈zeI us t↔v∈us\/v=t:=by
 unfold zeI;split
 . rename_i h;exact⟨.inl,λz=>z.elim id λz=>by rw[z];exact h⟩
 . simp
theorem zef{v:Tb}:v∈addW us A t↔v∈A\/(t∉us/\v=t):=by
 unfold addW;split
 . rename_i h;exact⟨.inl,λz=>z.elim id λz=>absurd h z.1⟩
 . rename_i h;simp[h]
theorem zpc(h:us.Nodup):(zeI us t).Nodup:=by
 unfold zeI;split
 . exact h
 . rename_i hn;refine rY.mpr ⟨h,by simp,λa ha b hb z=>?_⟩;simp at hb;rw[← hb,← z]at hn;exact hn ha
theorem zhH:(zeI us t).length<=us.length+1:=by
 unfold zeI;split
 . omega
 . simp
theorem zfh:(zeI us t).length+A.length=us.length+(addW us A t).length:=by
 unfold zeI addW;split
 . rfl
 . simp;omega
structure SM(E us P:List Tb):Prop where
 nd:us.Nodup
 rch:∀ t∈us,Rch E t
 cl:∀ t∈us,t∉P->∀ u∈E,u.b=t.e->yW t u∈us
theorem SM.nil:SM E [] []:=⟨pA,(λt h=>by cases h),(λt h=>by cases h)⟩
theorem SM.add(h:SM E us (post++A))(ht:Rch E t):SM E (zeI us t) (post++addW us A t):=by
 refine⟨zpc h.nd,λv hv=>?_,λv hv hp u hu e=>?_⟩
 . rcases ww.mp hv with z | rfl
   . exact h.rch v z
   . exact ht
 . rw[tZ,zef]at hp;have hp1:v∉post:=λz=>hp (.inl z);have hp2:v∉A:=λz=>hp (.inr (.inl z));refine ww.mpr (.inl ?_)
   rcases ww.mp hv with z | rfl
   . exact h.cl v z (by simp[hp1,hp2]) u hu e
   . by_cases hin:v∈us
     . exact h.cl v hin (by simp[hp1,hp2]) u hu e
     . exact absurd (.inr (.inr ⟨hin,rfl⟩)) hp
theorem SM.looked(h:SM E us (w::post++A))(hc:∀ u∈E,u.b=w.e->yW w u∈us):SM E us (post++A):=by
 refine⟨h.nd,h.rch,λv hv hp u hu e=>?_⟩;by_cases hw:v=w
 . rw[hw]at e ⊢;exact hc u hu e
 . refine h.cl v hv (λz=>?_) u hu e;rw[qQ]at z
   rcases tR.mp z with z | z
   . exact hw z
   . exact hp z
theorem SM.few(h:SM E us [])(h1:∀ u∈E,u∈us)(hl:us.length<=400):Few E us :=
 ⟨h.nd,hl,λt=>⟨λr=>r.closed h1 λv hv u hu e=>h.cl v hv (by simp) u hu e,h.rch t⟩⟩
end P31
namespace P31
open PySem Fc P1 P85 PB PC
open P20 (yt)
section
variable{s0 s s':S}{P:Pst}{fo lo c m:Nat}{us W:List Tb}{t:Tb}{G:List Rw}
noncomputable def RB1:C:=(zE (zQ (eN wg (za (zf 4) (za (zf 5) (za (zB P1.d_law_listed [] (za (zB P1.d_law_grid [] (za (zf 6) zj)) zj)) zj)))) (gName 7))
 (cIf (tB (e2 xJ (zf 7) (zf 1)))
 (zE (uY (zf 1) (zf 7) (eN yr (za (zf 3) zj)))
 (zR (eM zU (zf 2) (za (zf 7) zj))))
 yh))
theorem ztB{q:Rw}{x7 x8 x9 x10:Option D}(h:Sr s0 fo lo us W s)(hq:s[q.a]?=some (.lst (q.A.map aD)))(hA:In3 q.A)(hu:us.length<=5000)(hw:W.length<=5000)
  (hQ:∀ s',Sr s0 fo lo (zeI us (tbR q)) (addW us W (tbR q)) s'->P.nx [some (.ref c),some (.ref fo),some (.ref lo),some (.str q.nm),some (.str q.src.1),some (.str q.tgt.1),some (.ref q.a),some (PC.tD (tbR q)),x8,x9,x10] s') :
  wC (RB1 [some (.ref c),some (.ref fo),some (.ref lo),some (.str q.nm),some (.str q.src.1),some (.str q.tgt.1),some (.ref q.a),x7,x8,x9,x10] s) P:=by
 unfold RB1;generalize hR:cIf _ _ _=R;simp;refine zgL (A:=q.A) (.inr ⟨_,rfl,hq⟩) hA ?_;have p1:Pf s (s++xR s.length (wH (λ_ _=>0) q.A)):=Pf.app;have g1:=zav (s:=s) (M:=wH (λ_ _=>0) q.A);generalize s++xR s.length (wH (λ_ _=>0) q.A)=s1 at *;refine zfz g1 λo=>?_;have p2:Pf s1 (s1++[o]):=Pf.app;have et:D.tup [.str q.src.1,.str q.tgt.1,.tup ((yH (wH (λ_ _=>0) q.A)).map aD)]=PC.tD (tbR q):=rfl;rw[et,← hR];exact zpL (h.pf (p1.trans p2)) hu hw hQ
theorem zrY{x3 x4 x5 x6 x7 x8 x9 x10:Option D}{E:List Tb}(h:Sr s0 fo lo [] [] s0)(hm:s0[m]?=some (.lst (G.map rwD)))(n1:m≠fo)(n2:m≠lo)(hq:∀ q∈G,s0[q.a]?=some (.lst (q.A.map aD))/\q.a≠fo/\q.a≠lo/\In3 q.A/\tbR q∈E)(hl:G.length<=100)
   (hQ:∀ s' us W x3 x4 x5 x6 x7,Sr s0 fo lo us W s'->SM E us W->(∀ v∈W,v∈us)->(∀ q∈G,tbR q∈us)->us.length<=G.length->W.length=us.length->P.nx [some (.ref c),some (.ref fo),some (.ref lo),x3,x4,x5,x6,x7,x8,x9,x10] s') :
   wC (forL m (gTup 4 (gCons (gName 3) (gCons (gName 4) (gCons (gName 5) (gCons (gName 6) gNil))))) RB1 G.length 0 [some (.ref c),some (.ref fo),some (.ref lo),x3,x4,x5,x6,x7,x8,x9,x10] s0) P:=by
 generalize hB:RB1=Bd;rw[show G.length=(G.map rwD).length by simp]
 refine vP (n:=m) (ds:=G.map rwD) (λr σ s'=>∃(pre post:List Rw) (us W:List Tb) (x3 x4 x5 x6 x7:Option D),G=pre++post/\r=post.map rwD/\σ=[some (.ref c),some (.ref fo),some (.ref lo),x3,x4,x5,x6,x7,x8,x9,x10]/\Sr s0 fo lo us W s'/\SM E us W/\(∀ v∈W,v∈us)/\(∀ q∈pre,tbR q∈us)/\us.length<=pre.length/\W.length=us.length)
   (λr σ s' ⟨_,_,_,_,_,_,_,_,_,_,_,_,sr,_⟩=>sr.st _ _ n1 n2 hm) ?_ ?_ _ 0 (by simp) ⟨[],G,[],[],_,_,_,_,_,rfl,rfl,rfl,h,SM.nil,(λv h=>by cases h),(λv h=>by cases h),by simp,by simp⟩
 . rintro d r σ s' ⟨pre,post,us,W,x3,x4,x5,x6,x7,eg,er,rfl,sr,sm,hw,hp,l1,l2⟩
   match post,er with
   | q::post,er =>
    rw[tK,List.cons.injEq]at er;obtain⟨rfl,rfl⟩:=er
    have hqG:q∈G:=by rw[eg];simp
    obtain⟨a1,a2,a3,a4,a5⟩:=hq q hqG
    have lp:pre.length+1<=100:=by rw[eg]at hl;simp at hl;omega
    refine⟨[some (.ref c),some (.ref fo),some (.ref lo),some (.str q.nm),some (.str q.src.1),some (.str q.tgt.1),some (.ref q.a),x7,x8,x9,x10],rfl,?_⟩;rw[← hB];refine ztB sr (sr.st _ _ a2 a3 a1) a4 (by omega) (by omega) λs2 sr2=>?_;have m1:=zhH (us:=us) (t:=tbR q);have m2:=zfh (us:=us) (A:=W) (t:=tbR q);refine⟨pre++[q],post,_,_,_,_,_,_,_,by rw[eg];simp,rfl,rfl,sr2,SM.add (post:=[]) sm (.one a5),λv hv=>?_,λv hv=>?_,by simp;omega,by omega⟩
    . rcases zef.mp hv with z | ⟨_,rfl⟩
      . exact ww.mpr (.inl (hw v z))
      . exact ww.mpr (.inr rfl)
    . rcases tZ.mp hv with z | z
      . exact ww.mpr (.inl (hp v z))
      . simp at z;subst z;exact ww.mpr (.inr rfl)
 . rintro σ s' ⟨pre,post,us,W,x3,x4,x5,x6,x7,eg,er,rfl,sr,sm,hw,hp,l1,l2⟩;have:=map_nil er;subst this;rw[sJ]at eg;subst eg;exact hQ _ us W _ _ _ _ _ sr sm hw hp l1 l2
end
section
variable{s0 s s':S}{P:Pst}{fo lo c m:Nat}{us W:List Tb}{w:Tb}
noncomputable def RB2:C:=(cIf (tB (e2 oEq (e2 oAt (zf 7) (eC (.int 1))) (zf 4)))
 (zE (zQ (zB d_law_times [] (za (zB P1.d_law_grid [] (za (e2 oAt (zf 7) (eC (.int 2))) zj)) (za (zB P1.d_law_grid [] (za (zf 6) zj)) zj))) (gName 9))
 (zE (zQ (eN wg (za (e2 oAt (zf 7) (eC (.int 0))) (za (zf 5) (za (zB P1.d_law_listed [] (za (zf 9) zj)) zj)))) (gName 10))
 (cIf (tB (e2 xJ (zf 10) (zf 1)))
 (zE (uY (zf 1) (zf 10) (e2 xH (e2 zlC (zf 1) (zf 7)) (eN yr (za (zf 3) zj))))
 (zR (eM zU (zf 8) (za (zf 10) zj))))
 yh)))
 yh)
theorem ztC{q:Rw}{x2 x9 x10:Option D}(h:Sr s0 fo lo us W s)(hwu:w∈us)(cw:Cn w)(hq:s[q.a]?=some (.lst (q.A.map aD)))(hA:In3 q.A)(hs:okS q.src.1)(hu:us.length<=5000)(hw:W.length<=5000)
   (h1:¬ q.src.1=w.e->∀ s' x9 x10,Sr s0 fo lo us W s'->P.nx [some (.ref c),some (.ref fo),x2,some (.str q.nm),some (.str q.src.1),some (.str q.tgt.1),some (.ref q.a),some (PC.tD w),some (.ref lo),x9,x10] s')
   (h2:q.src.1=w.e->∀ s' x9 x10,Sr s0 fo lo (zeI us (yW w (tbR q))) (addW us W (yW w (tbR q))) s'->P.nx [some (.ref c),some (.ref fo),x2,some (.str q.nm),some (.str q.src.1),some (.str q.tgt.1),some (.ref q.a),some (PC.tD w),some (.ref lo),x9,x10] s') :
   wC (RB2 [some (.ref c),some (.ref fo),x2,some (.str q.nm),some (.str q.src.1),some (.str q.tgt.1),some (.ref q.a),some (PC.tD w),some (.ref lo),x9,x10] s) P:=by
 unfold RB2;generalize hR:cIf (tB (e2 xJ _ _)) _ _=R;have a0:∀ s,atD s (PC.tD w) (.int 0)=some (.str w.b):=λs=>rfl;have a1:∀ s,atD s (PC.tD w) (.int 1)=some (.str w.e):=λs=>rfl;have a2:∀ s,atD s (PC.tD w) (.int 2)=some (.tup (w.A.map aD)):=λs=>rfl;have e:=P85.vf (s:=s) cw.2.2 hs;by_cases he:w.e=q.src.1
 . have e':eqD s (.str w.e) (.str q.src.1)=some true:=by rw[e,decide_eq_true he]
   generalize hT:PC.tD w=T at *;simp[a1,e',a2];refine zgL (A:=w.A) (.inl rfl) (zqJ cw) ?_;have p1:Pf s (s++xR s.length (wH (λ_ _=>0) w.A)):=Pf.app;have g1:=zav (s:=s) (M:=wH (λ_ _=>0) w.A);generalize s++xR s.length (wH (λ_ _=>0) w.A)=s1 at *;refine zgL (A:=q.A) (.inr ⟨_,rfl,p1 _ _ hq⟩) hA ?_;have p2:Pf s1 (s1++xR s1.length (wH (λ_ _=>0) q.A)):=Pf.app;have g2:=zav (s:=s1) (M:=wH (λ_ _=>0) q.A);generalize s1++xR s1.length (wH (λ_ _=>0) q.A)=s2 at *;refine zmM (g1.pf p2) g2 λs3 m b0 b1 b2 p3 g3=>?_;simp[a0];refine zfz g3 λo=>?_;have p4:Pf s3 (s3++[o]):=Pf.app;rw[ziG cw,← hR,← hT]
   exact zpM (h.pf (p1.trans (p2.trans (p3.trans p4)))) hwu hu hw λs' sr=>by rw[hT];exact h2 he.symm _ _ _ sr
 . have e':eqD s (.str w.e) (.str q.src.1)=some false:=by rw[e,decide_eq_false he]
   simp[a1,e'];exact h1 (λz=>he z.symm) _ _ _ h
end
section
variable{s0 s s':S}{P:Pst}{fo lo c m:Nat}{us W us' W' post:List Tb}{t w:Tb}{G:List Rw}{E:List Tb}
theorem Sr.base(h:Sr s0 fo lo us W s):Sr s fo lo us W s:=⟨λ_ _ _ _ e=>e,tX _,h.dn,h.ly,h.ne⟩
theorem Sr.tr(h:Sr s0 fo lo us W s)(k:Sr s fo lo us' W' s'):Sr s0 fo lo us' W' s':=⟨λw o a b e=>k.st w o a b (h.st w o a b e),rN h.len k.len,k.dn,k.ly,k.ne⟩
theorem zrZ{x2 x3 x4 x5 x6 x9 x10:Option D}(h:Sr s0 fo lo us W s0)(hm:s0[m]?=some (.lst (G.map rwD)))(n1:m≠fo)(n2:m≠lo)(hwu:w∈us)(cw:Cn w)(sm:SM E us (w::post++W))(hws:∀ v∈W,v∈us)
   (hq:∀ q∈G,s0[q.a]?=some (.lst (q.A.map aD))/\q.a≠fo/\q.a≠lo/\In3 q.A/\tbR q∈E/\okS q.src.1) (hl:G.length<=20) (hu:us.length<=4000) (hw:W.length<=4000)
   (hQ:∀ s' us' W' x3 x4 x5 x6 x9 x10,Sr s0 fo lo us' W' s'->SM E us' (w::post++W')->(∀ v∈us,v∈us')->(∀ v∈W',v∈us')->(∀ q∈G,q.src.1=w.e->yW w (tbR q)∈us')->us'.length<=us.length+G.length->us'.length+W.length=us.length+W'.length->P.nx [some (.ref c),some (.ref fo),x2,x3,x4,x5,x6,some (PC.tD w),some (.ref lo),x9,x10] s') :
   wC (forL m (gTup 4 (gCons (gName 3) (gCons (gName 4) (gCons (gName 5) (gCons (gName 6) gNil))))) RB2 G.length 0 [some (.ref c),some (.ref fo),x2,x3,x4,x5,x6,some (PC.tD w),some (.ref lo),x9,x10] s0) P:=by
 generalize hB:RB2=Bd;rw[show G.length=(G.map rwD).length by simp]
 refine vP (n:=m) (ds:=G.map rwD) (λr σ s'=>∃(pre pst:List Rw) (us' W':List Tb) (x3 x4 x5 x6 x9 x10:Option D),G=pre++pst/\r=pst.map rwD/\σ=[some (.ref c),some (.ref fo),x2,x3,x4,x5,x6,some (PC.tD w),some (.ref lo),x9,x10]/\Sr s0 fo lo us' W' s'/\SM E us' (w::post++W')/\(∀ v∈us,v∈us')/\(∀ v∈W',v∈us')/\(∀ q∈pre,q.src.1=w.e->yW w (tbR q)∈us')/\us'.length<=us.length+pre.length/\us'.length+W.length=us.length+W'.length)
   (λr σ s' ⟨_,_,_,_,_,_,_,_,_,_,_,_,_,sr,_⟩=>sr.st _ _ n1 n2 hm) ?_ ?_ _ 0 (by simp) ⟨[],G,us,W,_,_,_,_,_,_,rfl,rfl,rfl,h,sm,(λv hv=>hv),hws,(λv hv=>by cases hv),by simp,by simp⟩
 . rintro d r σ s' ⟨pre,pst,us',W',x3,x4,x5,x6,x9,x10,eg,er,rfl,sr,sm',hsu,hw',hp,l1,l2⟩
   match pst,er with
   | q::pst,er =>
    rw[tK,List.cons.injEq]at er;obtain⟨rfl,rfl⟩:=er
    have hqG:q∈G:=by rw[eg];simp
    obtain⟨a1,a2,a3,a4,a5,a6⟩:=hq q hqG
    have lp:pre.length+1<=20:=by rw[eg]at hl;simp at hl;omega
    refine⟨[some (.ref c),some (.ref fo),x2,some (.str q.nm),some (.str q.src.1),some (.str q.tgt.1),some (.ref q.a),some (PC.tD w),some (.ref lo),x9,x10],rfl,?_⟩;rw[← hB];refine ztC sr (hsu w hwu) cw (sr.st _ _ a2 a3 a1) a4 a6 (by omega) (by omega) (λne s2 y9 y10 sr2=>?_) λeq s2 y9 y10 sr2=>?_
    . refine⟨pre++[q],pst,us',W',_,_,_,_,_,_,by rw[eg];simp,rfl,rfl,sr2,sm',hsu,hw',λx hx e=>?_,by simp;omega,l2⟩
      rcases tZ.mp hx with z | z
      . exact hp x z e
      . simp at z;subst z;exact absurd e ne
    . have m1:=zhH (us:=us') (t:=yW w (tbR q));have m2:=zfh (us:=us') (A:=W') (t:=yW w (tbR q));have rj:Rch E (yW w (tbR q)):=.more (sm'.rch w (hsu w hwu)) a5 eq;refine⟨pre++[q],pst,_,_,_,_,_,_,_,_,by rw[eg];simp,rfl,rfl,sr2,SM.add (post:=w::post) sm' rj,λv hv=>ww.mpr (.inl (hsu v hv)),λv hv=>?_,λx hx e=>?_,by simp;omega,by omega⟩
      . rcases zef.mp hv with z | ⟨_,rfl⟩
        . exact ww.mpr (.inl (hw' v z))
        . exact ww.mpr (.inr rfl)
      . rcases tZ.mp hx with z | z
        . exact ww.mpr (.inl (hp x z e))
        . simp at z;subst z;exact ww.mpr (.inr rfl)
 . rintro σ s' ⟨pre,pst,us',W',x3,x4,x5,x6,x9,x10,eg,er,rfl,sr,sm',hsu,hw',hp,l1,l2⟩;have:=map_nil er;subst this;rw[sJ]at eg;subst eg;exact hQ _ us' W' _ _ _ _ _ _ sr sm' hsu hw' hp l1 l2
end
section
variable{s0 s s':S}{P:Pst}{fo lo c m la:Nat}{us W us' W' post W0:List Tb}{t w:Tb}{l G:List Rw}{E:List Tb}
noncomputable def RB3:C:=(xg (yG .seq (eN yX (za (zf 0) zj))) (gTup 4 (gCons (gName 3) (gCons (gName 4) (gCons (gName 5) (gCons (gName 6) gNil))))) RB2)
theorem Sr.rows(h:Sr s0 fo lo us W s)(hr:∀ q∈l,s0[q.a]?=some (.lst (q.A.map aD))/\q.a≠fo/\q.a≠lo):∀ q∈l,s[q.a]?=some (.lst (q.A.map aD))/\q.a≠fo/\q.a≠lo:=λq hq=>⟨h.st _ _ (hr q hq).2.1 (hr q hq).2.2 (hr q hq).1,(hr q hq).2⟩
theorem ztD{x2 x3 x4 x5 x6 x9 x10:Option D}(h:Sr s0 fo lo us W s)(hc:s[c]?=some (.lst (l.map rwD)))(hr:∀ q∈l,s[q.a]?=some (.lst (q.A.map aD))/\q.a≠fo/\q.a≠lo)(hk:∀ q∈l,In3 q.A/\okS q.src.1)(hl:l.length<=7)
  (hwu:w∈us) (cw:Cn w) (sm:SM (l.map tbR) us (w::post++W)) (hws:∀ v∈W,v∈us) (hu:us.length<=3000) (hw:W.length<=3000)
  (hQ:∀ s' us' W' x3 x4 x5 x6 x9 x10,Sr s0 fo lo us' W' s'->SM (l.map tbR) us' (post++W')->(∀ v∈us,v∈us')->(∀ v∈W',v∈us')->us'.length<=us.length+7->us'.length+W.length=us.length+W'.length->P.nx [some (.ref c),some (.ref fo),x2,x3,x4,x5,x6,some (PC.tD w),some (.ref lo),x9,x10] s') :
  wC (RB3 [some (.ref c),some (.ref fo),x2,x3,x4,x5,x6,some (PC.tD w),some (.ref lo),x9,x10] s) P:=by
 unfold RB3;generalize hB:RB2=Bd;simp;refine zfn hc (λq hq=>(hr q hq).1) (by omega) λs1 m G p1 hm hG hG2 hl2 hle=>?_;rw[yt hm,zK];dsimp only;have h1:=h.pf p1;have l1:=zq hm;obtain⟨kvs,d1,_⟩:=h.dn;have lf:=zq d1;have ll:=zq h.ly
 have hne:m≠fo/\m≠lo:=⟨by omega,by omega⟩
 rw[show(G.map rwD).length=G.length by simp,← hB];refine zrZ (E:=l.map tbR) (h1.base) hm hne.1 hne.2 hwu cw sm hws (λq hq=>⟨p1 _ _ (hr q (hG q hq)).1,(hr q (hG q hq)).2.1,(hr q (hG q hq)).2.2,(hk q (hG q hq)).1,tM.mpr ⟨q,hG q hq,rfl⟩,(hk q (hG q hq)).2⟩) (by omega) (by omega) (by omega) λs' us' W' y3 y4 y5 y6 y9 y10 k1 k2 k3 k4 k5 k6 k7=>?_;refine hQ s' us' W' _ _ _ _ _ _ (h1.tr k1) (k2.looked λu hu e=>?_) k3 k4 (by omega) k7;obtain⟨q,hq,rfl⟩:=tM.mp hu;obtain⟨q',hq',e'⟩:=hG2 q hq
 have e2:q'.src.1=q.src.1:=by simp[rwD]at e';exact e'.2.1
 have e3:tbR q'=tbR q:=by
  have b1:=(hr q' (hG q' hq')).1;have b2:=(hr q hq).1;simp[rwD]at e';rw[e'.2.2.2,b2]at b1
  have b3:q.A.map aD=q'.A.map aD:=by simpa using b1
  have b4:=PC.znT (t:=⟨"","",q.A⟩) (u:=⟨"","",q'.A⟩) (by unfold PC.tD;simp only[b3])
  have b5:q.A=q'.A:=by injection b4
  unfold tbR;rw[e'.2.1,e'.2.2.1,b5]
 rw[← e3];exact k5 q' hq' (by rw[e2];exact e)
theorem ztE{x2 x3 x4 x5 x6 x7 x9 x10:Option D}(h:Sr s0 fo lo us [] s0)(hla:s0[la]?=some (.lst (W0.map PC.tD)))(n1:la≠fo)(n2:la≠lo)(hc:s0[c]?=some (.lst (l.map rwD)))(c1:c≠fo)(c2:c≠lo)
   (hr:∀ q∈l,s0[q.a]?=some (.lst (q.A.map aD))/\q.a≠fo/\q.a≠lo) (hk:∀ q∈l,In3 q.A/\okS q.src.1) (hl:l.length<=7) (cn:∀ t,Rch (l.map tbR) t->Cn t)
   (sm:SM (l.map tbR) us W0) (hws:∀ v∈W0,v∈us) (hu:us.length<=150) (hw:W0.length<=us.length)
   (hQ:∀ s' us' W' x3 x4 x5 x6 x7 x9 x10,Sr s0 fo lo us' W' s'->SM (l.map tbR) us' W'->(∀ v∈us,v∈us')->(∀ v∈W',v∈us')->us'.length=us.length+W'.length->us'.length<=1300->P.nx [some (.ref c),some (.ref fo),x2,x3,x4,x5,x6,x7,some (.ref lo),x9,x10] s') :
   wC (forL la (gName 7) RB3 W0.length 0 [some (.ref c),some (.ref fo),x2,x3,x4,x5,x6,x7,some (.ref lo),x9,x10] s0) P:=by
 generalize hB:RB3=Bd;rw[show W0.length=(W0.map PC.tD).length by simp]
 refine vP (n:=la) (ds:=W0.map PC.tD) (λr σ s'=>∃(pre pst us' W':List Tb) (x3 x4 x5 x6 x7 x9 x10:Option D),W0=pre++pst/\r=pst.map PC.tD/\σ=[some (.ref c),some (.ref fo),x2,x3,x4,x5,x6,x7,some (.ref lo),x9,x10]/\Sr s0 fo lo us' W' s'/\SM (l.map tbR) us' (pst++W')/\(∀ v∈us,v∈us')/\(∀ v∈W',v∈us')/\us'.length<=us.length+7*pre.length/\us'.length=us.length+W'.length)
   (λr σ s' ⟨_,_,_,_,_,_,_,_,_,_,_,_,_,_,sr,_⟩=>sr.st _ _ n1 n2 hla) ?_ ?_ _ 0 (by simp) ⟨[],W0,us,[],_,_,_,_,_,_,_,rfl,rfl,rfl,h,by simpa using sm,(λv hv=>hv),(λv hv=>by cases hv),by simp,by simp⟩
 . rintro d r σ s' ⟨pre,pst,us',W',x3,x4,x5,x6,x7,x9,x10,eg,er,rfl,sr,sm',hsu,hw',l1,l2⟩
   match pst,er with
   | w::pst,er =>
    rw[tK,List.cons.injEq]at er;obtain⟨rfl,rfl⟩:=er
    have hwG:w∈W0:=by rw[eg];simp
    have lp:pre.length+1<=150:=by have:=congrArg List.length eg;simp at this;omega
    refine⟨[some (.ref c),some (.ref fo),x2,x3,x4,x5,x6,some (PC.tD w),some (.ref lo),x9,x10],rfl,?_⟩;have hr':=sr.rows hr;rw[← hB];refine ztD sr.base (sr.st _ _ c1 c2 hc) hr' hk hl (hsu w (hws w hwG)) (cn w (sm.rch w (hws w hwG))) sm' hw' (by omega) (by omega) λs2 us2 W2 y3 y4 y5 y6 y9 y10 k1 k2 k3 k4 k5 k6=>?_;exact⟨pre++[w],pst,us2,W2,_,_,_,_,_,_,_,by rw[eg];simp,rfl,rfl,sr.tr k1,k2,λv hv=>k3 v (hsu v hv),k4,by simp;omega,by omega⟩
 . rintro σ s' ⟨pre,pst,us',W',x3,x4,x5,x6,x7,x9,x10,eg,er,rfl,sr,sm',hsu,hw',l1,l2⟩;have:=map_nil er;subst this;rw[sJ]at eg;subst eg;exact hQ _ us' W' _ _ _ _ _ _ _ sr (by simpa using sm') hsu hw' l2 (by omega)
end
section
variable{s s':S}{X:Xc}{Q:D->S->Prop}{fo lo c m la:Nat}{us W us' W':List Tb}{t w:Tb}{l G:List Rw}{E:List Tb}
theorem zjC{n m:Nat}(cn:∀ t∈W,Cn t)(h:s[n]?=some (.lst (W.map PC.tD)))(h2:s[m]?=some (.lst [])):eqD s (.ref n) (.ref m)=some (decide (W=[])):=by
 rw[zht cn h h2];cases W <;> simp
structure Hd(s0:S)(l:List Rw)(s:S)(fo lo:Nat)(us W:List Tb):Prop where
 st:Pf s0 s
 fl:s0.length<=fo
 ll:s0.length<=lo
 ne:fo≠lo
 dn:∃ kvs,s[fo]?=some (.dN kvs)/\kvs.map (·.1)=us.map PC.tD/\∀ kv∈kvs,∃ a ds,kv.2=.ref a/\s[a]?=some (.lst ds)/\ds.length<=us.length/\a≠lo/\a≠fo
 ly:s[lo]?=some (.lst (W.map PC.tD))
 sm:SM (l.map tbR) us W
 sub:∀ v∈W,v∈us
 row:∀ q∈l,tbR q∈us
 le:W.length<=us.length
 lt:W=[]->us.length<150
 l8:us.length<=1300
 el:l=[]->W=[]
theorem ziZ(hc:s[c]?=some (.lst (l.map rwD)))(hr:∀ q∈l,s[q.a]?=some (.lst (q.A.map aD)))(hk:∀ q∈l,In3 q.A/\okS q.src.1/\okS q.tgt.1)(hl:l.length<=7)
   (h1:∀ s' n (L:List Tb) (kvs:List (D×D)),Pf s s'->Few (l.map tbR) L->L.length<150->s'[n]?=some (.dN kvs)->kvs.map (·.1)=L.map PC.tD->Q (.ref n) s') (h2:∀ s' (us:List Tb),Pf s s'->l≠[]->us.Nodup->(∀ t∈us,Rch (l.map tbR) t)->150<=us.length->Q .non s'):wE (d_law_reached [.ref c] s) Q X:=by
 unfold d_law_reached;refine(yD (by rfl)).mpr ?_;unfold b_law_reached
 have cn:∀ t,Rch (l.map tbR) t->Cn t:=λt h=>h.cn λt ht=>by
   obtain⟨q,hq,rfl⟩:=tM.mp ht;exact zqp (zaj _) (hk q hq).2.1 (hk q hq).2.2
 have e1:(zE (zQ (eN wg (za (zf 4) _)) (gName 7)) (cIf _ _ _))=RB1:=rfl;have e2:(xg (yG .seq (eN yX (za (zf 0) zj))) (gTup 4 (gCons (gName 3) (gCons (gName 4) (gCons (gName 5) (gCons (gName 6) gNil))))) (cIf _ _ _))=RB3:=rfl;rw[e1,e2];generalize hB1:RB1=B1;generalize hB3:RB3=B3;generalize hBd:zE (zQ (eN yr zj) (gName 8)) _=Bd;generalize hW:vq _ _=Wh;generalize hR:ye _=R;simp;have q0:Pf s (s++[O.dN [],O.lst []]):=Pf.app
 have hfo:(s++[O.dN [],O.lst []])[s.length]?=some (.dN []):=by rw[wA (s:=s) 0 (by omega)];rfl
 have hlo:(s++[O.dN [],O.lst []])[s.length+1]?=some (.lst []):=by rw[wA (s:=s) 1 (by omega)];rfl
 have lc:=zq hc;have la:∀ q∈l,q.a<s.length:=λq hq=>zq (hr q hq)
 have el:(s++[O.dN [],O.lst []]).length=s.length+2:=by simp
 generalize s++[O.dN [],O.lst []]=s1 at *;refine zfn (q0 _ _ hc) (λq hq=>q0 _ _ (hr q hq)) (by omega) λs2 m G p1 hm hG hG2 hl2 hle=>?_;rw[yt hm,zK];dsimp only;rw[show(G.map rwD).length=G.length by simp,← hB1]
 have sr0:Sr s2 s.length (s.length+1) [] [] s2:=⟨λw o _ _ e=>e,tX _,⟨[],p1 _ _ hfo,rfl,λkv h=>by cases h⟩,p1 _ _ hlo,by omega⟩
 have tb_eq:∀ q∈l,∃ q'∈G,tbR q'=tbR q:=λq hq=>by
   obtain⟨q',hq',e'⟩:=hG2 q hq;have b1:=hr q' (hG q' hq');have b2:=hr q hq;simp[rwD]at e';rw[e'.2.2.2,b2]at b1
   have b3:q.A.map aD=q'.A.map aD:=by simpa using b1
   have b4:=PC.znT (t:=⟨"","",q.A⟩) (u:=⟨"","",q'.A⟩) (by unfold PC.tD;simp only[b3])
   have b5:q.A=q'.A:=by injection b4
   refine⟨q',hq',?_⟩;unfold tbR;rw[e'.2.1,e'.2.2.1,b5]
 refine zrY (E:=l.map tbR) sr0 hm (by omega) (by omega) (λq hq=>?_) (by omega) λs3 us W x3 x4 x5 x6 x7 k1 k2 k3 k4 k5 k6=>?_
 . have hq':=hG q hq;have:=la q hq';exact⟨p1 _ _ (q0 _ _ (hr q hq')),by omega,by omega,(hk q hq').1,tM.mpr ⟨q,hq',rfl⟩⟩
 have hd0:Hd s l s3 s.length (s.length+1) us W:=⟨λw o e=>k1.st w o (by have:=zq e;omega) (by have:=zq e;omega) (p1 _ _ (q0 _ _ e)),by omega,by omega,by omega,k1.dn,k1.ly,k2,k3,λq hq=>by
     obtain⟨q',hq',e⟩:=tb_eq q hq;rw[← e]
     exact k4 q' hq',by omega,λ_=>by omega,by omega,λe=>by
     have:us.length=0:=by rw[e]at hl2;simp at hl2;rw[hl2]at k5;simpa using k5
     exact qZ (by omega)⟩
 clear k1 k2 k3 k4 k5 k6 sr0
 rw[← hW];refine zbH (λn σ s'=>∃(lo:Nat) (us W:List Tb) (x3 x4 x5 x6 x7 x8 x9 x10:Option D),σ=[some (.ref c),some (.ref s.length),some (.ref lo),x3,x4,x5,x6,x7,x8,x9,x10]/\Hd s l s' s.length lo us W/\(W≠[]->1+(150 - us.length)<=n)) (1+(150 - us.length)) ⟨_,us,W,_,_,_,_,_,_,_,_,rfl,hd0,λ_=>tX _⟩ ?_
 clear hd0
 rintro n σ s' ⟨lo,us,W,x3,x4,x5,x6,x7,x8,x9,x10,rfl,hd,hn⟩;obtain⟨kvs,d1,d2,d3⟩:=hd.dn;have cnW:∀ t∈W,Cn t:=λt ht=>cn t (hd.sm.rch t (hd.sub t ht))
 have kl:kvs.length=us.length:=by have:=congrArg List.length d2;simpa using this
 simp;rw[zjC cnW (Pf.app (t:=[O.lst []]) _ _ hd.ly) (zH (s:=s'))]
 have few:W=[]->Few (l.map tbR) us:=λe=>by
   subst e
   exact hd.sm.few (λu hu=>by
     obtain⟨q,hq,rfl⟩:=tM.mp hu
     exact hd.row q hq) (by have:=hd.lt rfl;omega)
 have q4:Pf s' (s'++[O.lst []]):=Pf.app;generalize s'++[O.lst []]=s5 at *;have st5:=hd.st.trans q4;have ly5:=q4 _ _ hd.ly
 have fin:W=[]\/¬ us.length<150->wC (R [some (.ref c),some (.ref s.length),some (.ref lo),x3,x4,x5,x6,x7,x8,x9,x10] s5) { nx:=λ_ s'=>Q .non s',ct:=λ_ _=>False,bk:=λ_ _=>False,rt:=Q,xc:=X }:=λhor=>by
   rw[← hR];simp;rw[zjC cnW (Pf.app (t:=[O.lst []]) _ _ ly5) (zH (s:=s5))]
   by_cases hW0:W=[]
   . rw[decide_eq_true hW0];simp;exact h1 _ _ us kvs (st5.trans Pf.app) (few hW0) (hd.lt hW0) (Pf.app _ _ (q4 _ _ d1)) d2
   . rw[decide_eq_false hW0];simp;exact h2 _ us (st5.trans Pf.app) (λe=>hW0 (hd.el e)) hd.sm.nd hd.sm.rch (by rcases hor with z | z;exact absurd z hW0;omega)
 by_cases hW0:W=[]
 . rw[decide_eq_true hW0];simp;exact fin (.inl hW0)
 . rw[decide_eq_false hW0];simp[zbi (q4 _ _ d1),kl];split
   . rename_i hlt
     have hlt:us.length<150:=by omega
     refine⟨n - 1,by have:=hn hW0;omega,?_⟩;rw[← hBd];simp;have q6:Pf s5 (s5++[O.lst []]):=Pf.app;have gl:=zH (s:=s5) (o:=O.lst []);rw[yt (q6 _ _ ly5),zK];dsimp only;have ll5:=zq ly5;have lf5:=zq (q4 _ _ d1);have lc5:=zq (st5 _ _ hc);have lst5:=st5.len
     have e6:(s5++[O.lst []]).length=s5.length+1:=by simp
     generalize s5++[O.lst []]=s6 at *
     have sr6:Sr s6 s.length s5.length us [] s6:=⟨λw o _ _ e=>e,tX _,⟨kvs,q6 _ _ (q4 _ _ d1),d2,λkv hkv=>by
       obtain⟨a,ds,z1,z2,z3,z4,z5⟩:=d3 kv hkv;have:=zq (q4 _ _ z2)
       exact⟨a,ds,z1,q6 _ _ (q4 _ _ z2),z3,by omega,z5⟩⟩,gl,by omega⟩
     rw[← hB3];rw[show(W.map PC.tD).length=W.length by simp];refine ztE sr6 (q6 _ _ ly5) (λz=>hd.ne z.symm) (by omega) (q6 _ _ (st5 _ _ hc)) (by omega) (by omega) (λq hq=>?_) (λq hq=>⟨(hk q hq).1,(hk q hq).2.1⟩) hl cn hd.sm hd.sub (by omega) hd.le λs7 us' W' y3 y4 y5 y6 y7 y9 y10 k1 k2 k3 k4 k5 k6=>?_
     . have z1:=hr q hq;have:=la q hq;exact⟨q6 _ _ (st5 _ _ z1),by omega,by omega⟩
     . simp;refine⟨us',W',⟨λw o e=>?_,by omega,by omega,by omega,k1.dn,k1.ly,k2,k4,λq hq=>k3 _ (hd.row q hq),by omega,λe=>by rw[e]at k5;simp at k5;omega,k6,λe=>absurd (hd.el e) hW0⟩,λhW'=>?_⟩
       . have:=zq e;exact k1.st w o (by omega) (by omega) (q6 _ _ (st5 _ _ e))
       . have:W'.length≠0:=λz=>hW' (qZ z);have:=hn hW0;omega
   . rename_i hlt;exact fin (.inr (by omega))
end
end P31
namespace PX
open PySem Fc P1 P85 PB
open PW (zcL Gd Arcs Wd ct vm jL zle zbY zal wJ Arcs.pf)
section
variable{s s':S}{d:D}{ds:List D}
def Nd(j:Nat)(s:S)(d:D):Prop:=∀ s',Pf s s'->(∀ n,dat s' n d=none)/\∀ n,eqZ s' (n+j) d d=some true
def Zo(j:Nat)(s:S)(d:D):Prop:=De s d\/Nd j s d
variable{j k:Nat}
theorem zkX{x:PyData}(h2:x.canLay0=true)(h3:x.depth<=20):SeqAt.shaped x=true:=rE.mpr ⟨h2,decide_eq_true (by omega)⟩
theorem zop{n:Nat}{d d':D}{x:PyData}(e:dat s 60 d=some x)(e':dat s 60 d'=some x)(h:SeqAt.shaped x=true):eqZ s (n+1) d d'=some true:=by
 unfold eqZ;simp only[e,e',h,rC,if_true,SeqAt.eqv_refl x (SeqAt.canLay_of_shaped h)]
theorem zqt(h:De s d)(n:Nat):eqZ s (n+1) d d=some true:=by
 obtain⟨x,h1,h2,h3⟩:=h;have e:dat s 60 d=some x:=h1 s Pf.refl 56;exact zop e e (zkX h2 (by omega))
theorem Zo.eqZ(h:Zo j s d)(n:Nat)(hj:1<=j):Fc.eqZ s (n+j) d d=some true:=by
 rcases h with h | h
 . have:=zqt h (n+(j - 1))
   rwa [show n+(j - 1)+1=n+j by omega]at this
 . exact(h s Pf.refl).2 n
theorem zeJ{f:D->D->Option Bool}:∀{ds:List D},(∀ d∈ds,f d d=some true)->ziu f ds ds=true
 | [],_=>rfl
 | d::ds,h=>by
  simp only[ziu,h d (tH),zeJ λd hd=>h d (tV _ hd)];rfl
theorem zeS{n:Nat}:∀{ds:List D},(∃ d∈ds,dat s n d=none)->dats s n ds=none
 | d::ds,⟨x,hx,h⟩=>by
  rw[dats]
  rcases tR.mp hx with rfl | hx
  . rw[h]
  . rw[zeS ⟨x,hx,h⟩];split <;> simp_all
theorem zos(h:∀ d∈ds,Zo j s d):(∀ d∈ds,De s d)\/∃ d∈ds,Nd j s d:=by
 by_cases hh:∀ d∈ds,De s d
 . exact .inl hh
 . refine .inr (Classical.byContradiction λhn=>hh λd hd=>?_)
   rcases h d hd with h | h
   . exact h
   . exact absurd ⟨d,hd,h⟩ hn
theorem zlK{n:Nat}(hn:s[n]?=some (.lst ds))(h:∃ d∈ds,∀ n,dat s n d=none):∀ k,dat s k (.ref n)=none:=λk=>by
 obtain⟨x,hx,h⟩:=h
 cases k with
 | zero=>rw[dat]
 | succ k=>rw[dat,zV hn];dsimp only;rw[zeS ⟨x,hx,h k⟩];rfl
theorem zoq{a b:Nat}(ha:s[a]?=some (.lst ds))(hb:s[b]?=some (.lst ds))(h:∀ d∈ds,Zo 3 s d):eqD s (.ref a) (.ref b)=some true:=by
 rcases zos h with h1 | ⟨x,hx,h1⟩
 . obtain⟨ps,k1,k2,k3⟩:=PL.zuG h1;exact zqy ha hb (k1 s Pf.refl) k2 k3
 . have d0:=zlK ha ⟨x,hx,(h1 s Pf.refl).1⟩;unfold eqD eqT;simp only[d0,zV ha,zV hb,if_true,zeJ λd hd=>(h d hd).eqZ 5 (by omega)]
end
end PX
namespace PX
open PySem Fc P1 P85 PB
open PW (zcL Gd Arcs Wd ct vm jL zle zbY zal wJ Arcs.pf kZ)
section
variable{s:S}{e:D}{hs:List (Str×Nat)}{l:List Rw}{k:Nat}{x:Str×Nat}
theorem zuJ(hok:∀ i x,hs[i]?=some x->HOk i x)(hl:hs.length<=5)(rows:∀ q∈l,RwOk s hs q)(nm:l.map (·.nm)=nms.take l.length)(ll:l.length<=10):Gd hs l:=by
 have hle:Hl hs:=zqG hok hl
 have hinn:∀ q∈l,q.nm∈nms:=λq hq=>by
   have:q.nm∈l.map (·.nm):=tM.mpr ⟨q,hq,rfl⟩;rw[nm]at this;exact List.mem_of_mem_take this
 refine⟨⟨λx hx=>?_,by omega,λr hr=>?_,by omega⟩,λx hx=>?_,λr hr=>(rows r hr).nm.1,zac hok hl,?_⟩
 . obtain⟨_,k2,k3,k4⟩:=hle x hx;exact⟨k2,by omega,k4⟩
 . have k:=rows r hr;have n:=zeh _ (hinn r hr);exact⟨n.1,n.2.2,k.src,k.tgt,k.arcs,k.len⟩
 . obtain⟨i,hi,e⟩:=qd.mp hx;have k:=hok i x (by rw[← e];exact tQ hi);exact k.name.1
 . rw[nm];exact List.Pairwise.sublist (List.take_sublist ..) zks
end
end PX
namespace P31
open PySem Fc P1 P85 PB PC
open P20 (yt)
open PW (Gd Arcs)
section
variable{s s':S}{X:Xc}{Q:D->S->Prop}{g B n:Nat}
theorem zlg(hg:Gen s g (B+40000))(hn1:1<=n)(hn:n<=5){M:Nat}(hM:M<=7)
   (hQ:∀(s':S) (p h e:Nat) (hs:List (Str×Nat)) (l:List Rw) (L:List Tb),Fr g s s'->Gen s' g B->s'[p]?=some (.lst [.ref h,.ref e])->s'[h]?=some (.lst (hs.map hD))->s'[e]?=some (.lst (l.map rwD))->hs.length=n->(∀ q∈l,RwOk s' hs q/\q.A.length<=11)->Gd hs l->l.length<=M->Few (l.map tbR) L->L.length<150->(∀ i x,hs[i]?=some x->HOk i x)->(∀ q∈l,q.nm∈nms.take M)->Q (.ref p) s'):wE (d_law_sized [.ref g,.int n,.int M] s) Q X:=by
 unfold d_law_sized;refine(yD (by rfl)).mpr ?_;unfold b_law_sized;generalize hW:vq _ _=Wh;generalize hR:ye _=R;simp (maxSteps:=1000000) [-Fc.zK];refine zmE (M:=M) (B:=B+10000) (hg.mono (by omega)) hn1 hn (by omega) λs1 p h e hs l f1 g1 hp hh he hl hok rows nm ll hle hle2 hA=>?_
 have et:∀ σ:Fc.Env,gTup 2 (gCons (gName 3) (gCons (gName 4) gNil)) (.ref p) σ s1=some ((σ.set 3 (some (.ref h))).set 4 (some (.ref e))):=by
   intro σ;unfold gTup;simp only[hp];rfl
 rw[et,zK];simp only[oM,oK,oJ,qU,jK];have nd:(hs.map (·.1)).Nodup:=zac hok (by omega)
 have main:∀(s2:S) (e2:Nat) (l2:List Rw),Fr g s s2->Gen s2 g B->s2[h]?=some (.lst (hs.map hD))->s2[e2]?=some (.lst (l2.map rwD))->(∀ q∈l2,RwOk s2 hs q/\q.A.length<=11)->l2.map (·.nm)=nms.take l2.length->l2.length<=M ->
     wC (zE Wh R [some (.ref g),some (.int n),some (.int M),some (.ref h),some (.ref e2)] s2) { nx:=λ_ s'=>Q .non s',rt:=Q,xc:=X }:=by
   intro s2 e2 l2 f2 g2 hh2 he2 rows2 nm2 ll2;have gd:Gd hs l2:=PX.zuJ hok (by omega) (λq hq=>(rows2 q hq).1) nm2 (by omega);simp;rw[← hW];refine zbH (λn' σ s'=>∃(e':Nat) (l':List Rw),σ=[some (.ref g),some (.int n),some (.int M),some (.ref h),some (.ref e')]/\Pf s2 s'/\s'[e']?=some (.lst (l'.map rwD))/\l'.Sublist l2/\l'.length<=n') l2.length ⟨e2,l2,rfl,Pf.refl,he2,List.Sublist.refl _,tX _⟩ ?_;rintro n' σ s3 ⟨e',l',rfl,p3,he',sub,hn'⟩
   have rows':∀ q∈l',RwOk s3 hs q/\q.A.length<=11:=λq hq=>by
     obtain⟨r1,r2⟩:=rows2 q (sub.subset hq);exact⟨r1.mono λo e=>p3 _ _ e,r2⟩
   have gd':Gd hs l':=gd.sub sub;have ll':l'.length<=M:=rN sub.length_le ll2;simp;refine ziZ he' (λq hq=>(rows' q hq).1.at_) (λq hq=>?_) (by omega) (λs4 m L kvs p4 few lL _ _=>?_) λs4 us p4 hne _ _ _=>?_
   . have r:=(rows' q hq).1
     have i3:In3 q.A:=λa ha=>by
      have h1:=(gd'.wd.hn _ r.src).2.2;have h2:=(gd'.wd.hn _ r.tgt).2.2;have:=r.arcs a ha;omega
     exact⟨i3,(gd'.wd.hn _ r.src).1.okS,(gd'.wd.hn _ r.tgt).1.okS⟩
   . have e0:isNon (.ref m)=false:=rfl;rw[e0];simp only[rR,if_false];rw[← hR];simp;have q5:Pf s4 (s4++[O.lst [.ref h,.ref e']]):=Pf.app;have p5:=p3.trans (p4.trans q5)
     exact hQ _ _ h e' hs l' L (f2.trans p5.fr) (p5.gen g2) zH (p5 _ _ hh2) (q5 _ _ (p4 _ _ he')) hl (λq hq=>⟨(rows' q hq).1.mono λo z=>q5 _ _ (p4 _ _ z),(rows' q hq).2⟩) gd' ll' few lL hok λq hq=>by
      have hm:q.nm∈l2.map (·.nm):=tM.mpr ⟨q,sub.subset hq,rfl⟩;rw[nm2]at hm;obtain⟨i,hi⟩:=oG.mp hm;have li:=(su.mp hi).1;simp at li
      have hi':(nms.take M)[i]?=some q.nm:=by
       rw[List.getElem?_take]at hi ⊢;rw[if_pos (by omega)]at hi;rw[if_pos (show i<M by omega)];exact hi
      exact rH hi'
   . have e0:isNon .non=true:=rfl;rw[e0];simp only[if_true];have hlen:l'.length≠0:=λz=>hne (qZ z);refine⟨n' - 1,by omega,?_⟩;rw[zcp (p4 _ _ he'),show(1:Int)=((1:Nat):Int) by rfl,PW.wJ,← List.map_drop];refine⟨_,rfl,p3.trans (p4.trans Pf.app),l'.drop 1,zH,(List.drop_sublist 1 l').trans sub,by simp;omega⟩
 refine yo (B:=B+9960) (g1.mono (by omega)) (by omega) (by omega) λz o z1 z2 g3=>?_;have g1':=kh g1;have fz:Fr g s1 (s1.set g o):=Fr.set;have neg:∀{w:Nat}{ds:List D},s1[w]?=some (.lst ds)->(∀ d∈ds,∀ i,d≠.int i)->w≠g:=λh1 h2=>zdv g1 h1 h2
 have nh:h≠g:=neg hh λd hd i z=>by
   obtain⟨q,_,rfl⟩:=tM.mp hd;cases z
 have nee:e≠g:=neg he λd hd i z=>by
   obtain⟨q,_,rfl⟩:=tM.mp hd;cases z
 have nq:∀ q∈l,q.a≠g:=λq hq=>neg (rows q hq).at_ λd hd i z=>by
   obtain⟨q,_,rfl⟩:=tM.mp hd;cases z
 have rows3:∀ q∈l,RwOk (s1.set g o) hs q:=λq hq=>(rows q hq).mono λo' e'=>by rw[zJ (tY (nq q hq))];exact e'
 have hh3:=fz.2 _ nh _ hh;have he3:=fz.2 _ nee _ he;simp only[zrg,znC];refine xX (λ_=>?_) λ_=>?_
 . refine zlh (N:=10) (by omega) (B:=B) (g3.mono (by omega)) hh3 he3 rows3 nd (λq hq=>by have:=hA q hq;omega) (by omega) λs4 m l4 f4 g4 he4 en4 rows4 _=>?_
   have ln4:l4.length=l.length:=by simpa using congrArg List.length en4
   have:=main s4 m l4 (f1.trans (fz.trans f4)) g4 (f4.2 _ nh _ hh3) he4 rows4 (by rw[en4,nm,ln4]) (by omega);rw[xm]at this;exact this
 . have:=main (s1.set g o) e l (f1.trans fz) (g3.mono (by omega)) hh3 he3 (λq hq=>⟨rows3 q hq,by have:=hA q hq;omega⟩) nm ll;rw[xm]at this;exact this
end
end P31
namespace P21
open PySem Fc P1 P85 PB PC P31
open P20 (yt)
open PW (Gd Arcs)
def chn:List Rw->Bool
 | q::r::R=>decide (q.tgt.1=r.src.1)&&chn (r::R)
 | _=>true
section
variable{s:S}{p m k:Nat}{hs:List (Str×Nat)}{l:List Rw}
theorem zlG(h:PA s p m k hs l)(g:Gd hs l){q:Rw}(hq:q∈l):atD s (.ref k) (.str q.nm)=some (.tup [.str q.src.1,.str q.tgt.1,.tup (q.A.map aD)]):=by
 simp only[atD,h.known,unl,dget,keyOf,sE,wM g.nl hq];rfl
end
def zpU:List Rw->Tb
 | []=>⟨"","",[]⟩
 | q::R=>(R.map tbR).foldl yW (tbR q)
section
variable{hs:List (Str×Nat)}{l R:List Rw}
theorem zfa(gd:Gd hs l){q:Rw}(hq:q∈l):okS q.nm/\okS q.src.1/\okS q.tgt.1:=by
 obtain⟨w1,_,w3,w4,_⟩:=gd.wd.ln q hq;exact⟨w1.okS,(gd.wd.hn _ w3).1.okS,(gd.wd.hn _ w4).1.okS⟩
theorem zjn:∀{R:List Rw}{q:Rw},chn R=true->(∀ y,R.getLast?=some y->q.src.1=y.tgt.1)->chn (R++[q])=true
 | [],q,_,_=>rfl
 | [y],q,_,h=>by
  have:=h y rfl;simp[chn,this]
 | y::z::R,q,h,hl=>by
  unfold chn at h;rw[sG]at h;have:=zjn (R:=z::R) (q:=q) h.2 λw hw=>hl w (by rw[List.getLast?_cons_cons];exact hw);simp only[qQ,chn,sG];exact⟨h.1,this⟩
end
open PyProof.Rows (itemOrd)
def stD:Option Str->D
 | none=>.non
 | some y=>.str y
end P21
namespace P21
open PySem Fc P1 P85 PB PC P31
open PW (mOf)
theorem ziF{t u v:Tb}(ht:Cn t)(hu:Cn u)(hv:Cn v):yW (yW t u) v=yW t (yW u v):=by
 obtain⟨M,hM,e1⟩:=ht.mk;obtain⟨N,hN,e2⟩:=hu.mk;obtain⟨O,hO,e3⟩:=hv.mk;rw[e1,e2,e3];simp only[zjR];rw[jk hM hN,jk hN hO,jk (vU hM hN) hO,jk hM (vU hN hO),mul_assoc]
theorem zeZ{t:Tb}(ht:Cn t):∀{L:List Tb}{u:Tb},Cn u->(∀ v∈L,Cn v)->L.foldl yW (yW t u)=yW t (L.foldl yW u)
 | [],u,hu,hL=>rfl
 | v::L,u,hu,hL=>by
  have hv:=hL v (tH);rw[sW,sW,ziF ht hu hv];exact zeZ ht (zfZ hu hv) λw hw=>hL w (tV _ hw)
theorem zjG:∀{L:List Tb}{u:Tb},Cn u->(∀ v∈L,Cn v)->Cn (L.foldl yW u)
 | [],u,hu,hL=>hu
 | v::L,u,hu,hL=>by
  rw[sW];exact zjG (zfZ hu (hL v (tH))) λw hw=>hL w (tV _ hw)
theorem zmS{R1 R2:List Rw}(h:∀ q∈R1++R2,Cn (tbR q))(h1:R1≠[])(h2:R2≠[]):zpU (R1++R2)=yW (zpU R1) (zpU R2):=by
 cases R1 with
 | nil=>exact absurd rfl h1
 | cons q R1 =>
  cases R2 with
  | nil=>exact absurd rfl h2
  | cons y R2 =>
   have cs:∀{K:List Rw},(∀ x∈K,x∈(q::R1)++y::R2)->∀ v∈K.map tbR,Cn v:=λhK v hv=>by
    obtain⟨x,hx,rfl⟩:=tM.mp hv;exact h x (hK x hx)
   have c1:Cn ((R1.map tbR).foldl yW (tbR q)):=zjG (h q (by simp)) (cs λx hx=>by simp[hx]);show((R1++y::R2).map tbR).foldl yW (tbR q)=yW ((R1.map tbR).foldl yW (tbR q)) ((R2.map tbR).foldl yW (tbR y));rw[sV,qw,tK,sW];exact zeZ c1 (h y (by simp)) (cs λx hx=>by simp[hx])
theorem fold_at{i j:Nat}:∀{A:List Arc}{M:Mt},Bd2 M->(wH M A i j=2↔M i j=2\/(i,j,true)∈A)/\(wH M A i j≠0↔M i j≠0\/∃ d,(i,j,d)∈A)
 | [],M,hM=>by simp[wH]
 | a::A,M,hM=>by
  have ih:=fold_at (i:=i) (j:=j) (A:=A) (M:=zhc M a) (znh hM);have e:wH M (a::A)=wH (zhc M a) A:=rfl;rw[e,ih.1,ih.2];obtain⟨x,y,d⟩:=a;have hb:=hM i j;by_cases h:i=x/\j=y
  . obtain⟨rfl,rfl⟩:=h
    have ea:zhc M (i,j,d) i j=max (M i j) (1+d.toNat):=by simp[zhc,wZ]
    rw[ea]
    cases d with
    | true =>
      have et:(true:Bool).toNat=1:=rfl;rw[et];constructor
      . constructor
        . intro _;exact .inr (tH)
        . intro _;left;omega
      . constructor
        . intro _;exact .inr ⟨true,tH⟩
        . intro _;left;omega
    | false =>
      have et:(false:Bool).toNat=0:=rfl;rw[et];constructor
      . constructor
        . rintro(h | h)
          . left;omega
          . right;exact tV _ h
        . rintro(h | h)
          . left;omega
          . rcases tR.mp h with h | h
            . simp at h
            . right;exact h
      . constructor
        . intro _;exact .inr ⟨false,tH⟩
        . intro _;left;omega
  . have ea:zhc M (x,y,d) i j=M i j:=by
      simp only[zhc,wZ];rw[if_neg (by simpa using h)]
    rw[ea];have ne:∀ d',(i,j,d')≠(x,y,d):=λd' z=>h (by simp only[Prod.mk.injEq]at z;exact⟨z.1,z.2.1⟩);constructor
    . rw[tR];constructor
      . rintro(h | h)
        . exact .inl h
        . exact .inr (.inr h)
      . rintro(h | h | h)
        . exact .inl h
        . exact(ne _ h).elim
        . exact .inr h
    . constructor
      . rintro(h | ⟨d',h⟩)
        . exact .inl h
        . exact .inr ⟨d',tV _ h⟩
      . rintro(h | ⟨d',h⟩)
        . exact .inl h
        . rcases tR.mp h with h | h
          . exact(ne _ h).elim
          . exact .inr ⟨d',h⟩
theorem zqX{A:List Arc}{i j:Nat}:mOf A i j=2↔(i,j,true)∈A:=by
 have:=(fold_at (i:=i) (j:=j) (A:=A) (M:=λ_ _=>0) (λ_ _=>rJ 2)).1;simpa[mOf]using this
theorem zsW{A:List Arc}{i j:Nat}:mOf A i j≠0↔∃ d,(i,j,d)∈A:=by
 have:=(fold_at (i:=i) (j:=j) (A:=A) (M:=λ_ _=>0) (λ_ _=>rJ 2)).2;simpa[mOf]using this
def stepV(v:Nat->Nat)(G:Mt)(t:Nat):Nat:=if t<3 then max (tm (v 0) (G 0 t)) (max (tm (v 1) (G 1 t)) (tm (v 2) (G 2 t)))else 0
theorem zpb{M N:Mt}{i:Nat}(hi:i<3):xO M N i=stepV (M i) N:=by
 funext t;unfold xO stepV;by_cases ht:t<3
 . rw[if_pos ⟨hi,ht⟩,if_pos ht]
 . rw[if_neg (λz=>ht z.2),if_neg ht]
theorem zpQ{v:Nat->Nat}{G:Mt}{t:Nat}(hv:∀ p,v p<=2)(hG:Bd2 G)(ht:t<3):stepV v G t=2↔∃ p,p<3/\v p≠0/\G p t≠0/\(v p=2\/G p t=2):=by
 have one:∀ p,tm (v p) (G p t)=2↔v p≠0/\G p t≠0/\(v p=2\/G p t=2):=λp=>by
   have h1:=hv p;have h2:=hG p t;unfold tm;split <;> omega
 have b:∀ p,tm (v p) (G p t)<=2:=λp=>zmU (hv p) (hG p t);have b0:=b 0;have b1:=b 1;have b2:=b 2;unfold stepV;rw[if_pos ht];constructor
 . intro h
   have:tm (v 0) (G 0 t)=2\/tm (v 1) (G 1 t)=2\/tm (v 2) (G 2 t)=2:=by omega
   rcases this with h | h | h
   . exact⟨0,by omega,(one 0).mp h⟩
   . exact⟨1,by omega,(one 1).mp h⟩
   . exact⟨2,by omega,(one 2).mp h⟩
 . rintro⟨p,hp,h⟩;have:=(one p).mpr h
   rcases(show p=0\/p=1\/p=2 by omega)with rfl | rfl | rfl <;> omega
theorem zpP{v:Nat->Nat}{G:Mt}{t:Nat}(ht:t<3):stepV v G t≠0↔∃ p,p<3/\v p≠0/\G p t≠0:=by
 have one:∀ p,tm (v p) (G p t)≠0↔v p≠0/\G p t≠0:=λp=>by
   unfold tm;split <;> omega
 unfold stepV;rw[if_pos ht];constructor
 . intro h
   have:tm (v 0) (G 0 t)≠0\/tm (v 1) (G 1 t)≠0\/tm (v 2) (G 2 t)≠0:=by omega
   rcases this with h | h | h
   . exact⟨0,by omega,(one 0).mp h⟩
   . exact⟨1,by omega,(one 1).mp h⟩
   . exact⟨2,by omega,(one 2).mp h⟩
 . rintro⟨p,hp,h⟩;have:=(one p).mpr h
   rcases(show p=0\/p=1\/p=2 by omega)with rfl | rfl | rfl <;> omega
def mR:List Rw->Mt
 | []=>λ_ _=>0
 | q::R=>R.foldl (λM y=>xO M (mOf y.A)) (mOf q.A)
theorem zhy{b:Str}:∀(R:List Rw) {e:Str}{M:Mt},Bd2 M->∃ e',(R.map tbR).foldl yW (PC.mk b e M)=PC.mk b e' (R.foldl (λM y=>xO M (mOf y.A)) M)/\e'=((R.getLast?).map λy=>y.tgt.1).getD e
 | [],e,M,hM=>⟨e,rfl,rfl⟩
 | q::R,e,M,hM=>by
  rw[tK,sW,sW];obtain⟨e',h1,h2⟩:=zhy R (b:=b) (e:=q.tgt.1) (vU hM (zaj q.A));refine⟨e',?_,?_⟩
  . rw[← h1,← jk hM (zaj q.A)];rfl
  . rw[h2]
    cases R with
    | nil=>rfl
    | cons y R=>rw[List.getLast?_cons_cons];cases h:(y::R).getLast? with
     | none=>simp at h
     | some z=>rfl
theorem zgS{q:Rw}{R:List Rw}:zpU (q::R)=PC.mk q.src.1 (((q::R).getLast (by simp)).tgt.1) (mR (q::R)):=by
 obtain⟨e',h1,h2⟩:=zhy R (b:=q.src.1) (e:=q.tgt.1) (zaj q.A);show(R.map tbR).foldl yW (PC.mk q.src.1 q.tgt.1 (mOf q.A))=_;rw[h1,h2];unfold mR;congr 1
 cases R with
 | nil=>rfl
 | cons y R=>rw[List.getLast?_eq_getLast (by simp)];simp
end P21
namespace Fc
open PySem
section
variable{σ:Env}{s:S}
@[simp ↓] theorem zud{es:EL}{g:G}{b:C}{P:Pst}:wC (zeL es g b σ s) P↔wE (es σ s) (λds s1=>onO (zfD s1 ds) λp=>wC (zhz p.1 g b p.2 0 σ s1) P) P.xc:=by
 with_unfolding_all
  unfold zeL ex
  cases h:es σ s with
  | none=>rfl
  | some r =>
   cases r with
   | exc c fs s'=>rfl
   | ok ds s1 =>
    show wC (match zfD s1 ds with | some (n,k)=>zhz n g b k 0 σ s1 | none=>none) P↔onO (zfD s1 ds) λp=>wC (zhz p.1 g b p.2 0 σ s1) P
    cases zfD s1 ds with
    | none=>rfl
    | some p=>rfl
end
theorem zrG{s:S}{n:Nat}{ds:List D}(h:s[n]?=some (.lst ds)):zfD s [.ref n]=some (n,ds.length):=by
 simp[zfD,zV h]
theorem zgX{g:G}{b:C}{P:Pst}{n:Nat}{ds:List D}(I:Nat->Fc.Env->S->Prop)(hk:∀ i σ s,I i σ s->s[n]?=some (.lst ds))
  (hs:∀ i d σ s,ds[i]?=some d->I i σ s->∃ σ1,g (.tup [.int (i:Nat),d]) σ s=some σ1/\wC (b σ1 s) { P with nx:=λe s=>I (i+1) e s,ct:=λe s=>I (i+1) e s,bk:=P.nx }) (hd:∀ σ s,I ds.length σ s->P.nx σ s) :
  ∀(k i:Nat) {σ:Fc.Env}{s:S},ds.length=i+k->I i σ s->wC (zhz n g b k i σ s) P
 | 0,i,σ,s,hl,h=>by
  have l1:=zV (hk _ _ _ h)
  with_unfolding_all
   unfold zhz zsz;have hl':ds.length=i:=hl;simp only[pU,List.all_nil,l1,hl',decide_true,rC,if_true];rw[← hl']at h;exact hd σ s h
 | k+1,i,σ,s,hl,h=>by
  have l1:=zV (hk _ _ _ h)
  have hi:i<ds.length:=by omega
  obtain⟨σ1,h1,h2⟩:=hs i ds[i] σ s (tQ hi) h
  have it:zjP s i (i+(k+1)) n=some (.tup [.int (i:Nat),ds[i]]):=by
   unfold zjP;rw[l1];dsimp only;rw[if_pos hl,tQ hi];rfl
  with_unfolding_all
   unfold zhz;rw[it];dsimp only;rw[h1];dsimp only
   cases hb:b σ1 s with
   | none=>rw[hb]at h2;exact h2.elim
   | some r =>
    rw[hb]at h2
    cases r with
    | nx e2 s2=>exact zgX I hk hs hd k (i+1) (by omega) h2
    | ct e2 s2=>exact zgX I hk hs hd k (i+1) (by omega) h2
    | bk e2 s2=>exact h2
    | rt d2 s2=>exact h2
    | xc c fs e2 s2=>exact h2
theorem zss{s:S}{n:Nat}{ds:List D}{ks:List Nat}{d:D}{Q:D->S->Prop}{X:Xc}(hn:s[n]?=some (.lst ds))(hl:lens s ds=some ks)(hd:ds[zgn ks]?=some d)(hQ:Q d s):wE (zdY [.ref n] s) Q X:=by
 cases ds with
 | nil=>simp at hd
 | cons x r =>
  have e:zdY [.ref n] s=some (.ok d s):=by
   unfold zdY;simp only[zV hn,hl,hd,sE]
  rw[e]
  with_unfolding_all exact hQ
theorem jD{kf:Nat->Nat}:∀(k j:Nat),j<=k->kf (argBest (FZ.bt kf) k)<=kf j/\argBest (FZ.bt kf) k<=k
 | 0,j,h=>by
  have:j=0:=by omega
  subst this;exact⟨tX _,tX _⟩
 | k+1,j,h=>by
  unfold argBest;by_cases hb:FZ.bt kf (k+1) (argBest (FZ.bt kf) k)=true
  . rw[if_pos hb]
    have hlt:kf (k+1)<kf (argBest (FZ.bt kf) k):=by
      have:=of_decide_eq_true hb;omega
    refine⟨?_,tX _⟩;by_cases hj:j=k+1
    . subst hj;exact tX _
    . have:=(jD (kf:=kf) k j (by omega)).1;omega
  . rw[if_neg hb];have hle:¬ kf (k+1)<kf (argBest (FZ.bt kf) k):=λz=>hb (decide_eq_true (by omega));by_cases hj:j=k+1
    . subst hj;have:=(jD (kf:=kf) k k (tX _)).2;exact⟨by omega,by omega⟩
    . have:=jD (kf:=kf) k j (by omega);exact⟨this.1,by omega⟩
end Fc
namespace PR
open PySem Fc P1 P85 PB PC P31 P21
open PW (mOf)
def q0:Rw:=⟨"",("",0),("",0),[],0⟩
def rowAt(R:List Rw)(p:Nat):Rw:=(R[p%R.length]?).getD q0
def cyc(R:List Rw)(p:Nat):Nat->List Rw
 | 0=>[]
 | L+1=>rowAt R p::cyc R (p+1) L
theorem zdQ{R:List Rw}:∀(a b p:Nat),cyc R p (a+b)=cyc R p a++cyc R (p+a) b
 | 0,b,p=>by simp[cyc]
 | a+1,b,p=>by
  rw[show a+1+b=(a+b)+1 by omega]
  show rowAt R p::cyc R (p+1) (a+b)=rowAt R p::(cyc R (p+1) a++_)
  rw[zdQ a b (p+1),show p+1+a=p+(a+1) by omega]
theorem jy{R:List Rw}(p k:Nat):rowAt R (p+k*R.length)=rowAt R p:=by
 unfold rowAt;rw[Nat.add_mul_mod_self_right]
theorem zga{R:List Rw}:∀(L p k:Nat),cyc R (p+k*R.length) L=cyc R p L
 | 0,p,k=>rfl
 | L+1,p,k=>by
  show rowAt R (p+k*R.length)::cyc R (p+k*R.length+1) L=_;rw[jy,show p+k*R.length+1=(p+1)+k*R.length by omega,zga L (p+1) k];rfl
theorem zhn{R:List Rw}:∀(L p:Nat),p+L=R.length->cyc R p L=R.drop p
 | 0,p,h=>by rw[qL (by omega)];rfl
 | L+1,p,h=>by
  have hp:p<R.length:=by omega
  show rowAt R p::cyc R (p+1) L=_;rw[zhn L (p+1) (by omega),rO hp];unfold rowAt;rw[qj hp,tQ hp];rfl
theorem zjr{R:List Rw}:cyc R 0 R.length=R:=by rw[zhn R.length 0 (by omega)];rfl
theorem zjs{R:List Rw}:∀(L p:Nat),(cyc R p L).length=L
 | 0,p=>rfl
 | L+1,p=>by
  show(cyc R (p+1) L).length+1=L+1;rw[zjs L (p+1)]
theorem zhx:∀(X:List Rw) (M N:Mt),X.foldl (λM y=>xO M (mOf y.A)) (xO M N)=xO M (X.foldl (λM y=>xO M (mOf y.A)) N)
 | [],M,N=>rfl
 | q::X,M,N=>by
  rw[sW,sW,mul_assoc];exact zhx X M (xO N (mOf q.A))
theorem zhJ{X Y:List Rw}(hX:X≠[])(hY:Y≠[]):mR (X++Y)=xO (mR X) (mR Y):=by
 cases X with
 | nil=>exact absurd rfl hX
 | cons q X =>
  cases Y with
  | nil=>exact absurd rfl hY
  | cons y Y =>
   show(X++y::Y).foldl (λM y=>xO M (mOf y.A)) (mOf q.A)=xO (X.foldl (λM y=>xO M (mOf y.A)) (mOf q.A)) (Y.foldl (λM y=>xO M (mOf y.A)) (mOf y.A));rw[qw,sW,zhx]
theorem zjF:∀(X:List Rw) (M:Mt),Bd2 M->Bd2 (X.foldl (λM y=>xO M (mOf y.A)) M)
 | [],M,h=>h
 | q::X,M,h=>zjF X _ (vU h (zaj q.A))
theorem ziK{X:List Rw}:Bd2 (mR X):=by
 cases X with
 | nil=>exact λ_ _=>rJ 2
 | cons q X=>exact zjF X _ (zaj q.A)
theorem zbK{R:List Rw}{p L:Nat}(h:0<L):cyc R p L≠[]:=λz=>by
 have:=congrArg List.length z;rw[zjs]at this;simp at this;omega
theorem zfi{R:List Rw}(hn:0<R.length)(p:Nat):∀ k,mR (cyc R p ((k+1)*R.length))=pw (mR (cyc R p R.length)) k
 | 0=>by rw[show(0+1)*R.length=R.length by omega];rfl
 | k+1=>by
  have hk:0<(k+1)*R.length:=Nat.mul_pos (by omega) hn;rw[show(k+1+1)*R.length=(k+1)*R.length+R.length by rw[Nat.add_mul (k+1) 1,Nat.one_mul],zdQ,zhJ (zbK hk) (zbK hn),zfi hn p k,zga];rfl
theorem zqF{R:List Rw}(hn:0<R.length){p:Nat}(hp:p<R.length):hf (mR (cyc R p R.length))=hf (mR R):=by
 by_cases h0:p=0
 . subst h0;rw[zjr]
 . have e1:cyc R p R.length=cyc R p (R.length - p)++cyc R 0 p:=by
    have:=zdQ (R:=R) (R.length - p) p p;rw[show R.length - p+p=R.length by omega,show p+(R.length - p)=0+1*R.length by omega,zga]at this;exact this
   have e2:R=cyc R 0 p++cyc R p (R.length - p):=by
    have:=zdQ (R:=R) p (R.length - p) 0;rw[show p+(R.length - p)=R.length by omega,zjr,Nat.zero_add]at this;exact this
   rw[e1,zhJ (zbK (by omega)) (zbK (by omega)),zoE ziK ziK,← zhJ (zbK (by omega)) (zbK (by omega)),← e2]
inductive Wk(R:List Rw):Nat->Nat->Nat->Nat->Nat->Prop
 | nil {p i:Nat}:Wk R p i i 0 0
 | cons {p i j k w L:Nat}{d:Bool} (h:(i,j,d)∈(rowAt R p).A) (r:Wk R (p+1) j k w L):Wk R p i k (w+d.toNat) (L+1)
theorem zoU{q:Rw}{X:List Rw}(h:X≠[]):mR (q::X)=xO (mOf q.A) (mR X):=zhJ (X:=[q]) (by simp) h
theorem Wk.at{R:List Rw}(h3:∀ p,In3 (rowAt R p).A){p i j w L:Nat}(r:Wk R p i j w L):0<L->i<3/\j<3/\mR (cyc R p L) i j≠0/\(0<w->mR (cyc R p L) i j=2):=by
 induction r with
 | nil=>intro h;exact absurd h (pC 0)
 | @cons p i j k w L d h r ih =>
  intro _;have hij:=h3 p _ h;have g0:mOf (rowAt R p).A i j≠0:=zsW.mpr ⟨d,h⟩;by_cases hL:L=0
  . subst hL;cases r
    show i<3/\j<3/\mOf (rowAt R p).A i j≠0/\(0<0+d.toNat->mOf (rowAt R p).A i j=2)
    refine⟨hij.1,hij.2,g0,λhw=>?_⟩
    cases d with
    | true=>exact zqX.mpr h
    | false=>simp at hw
  . obtain⟨a1,a2,a3,a4⟩:=ih (by omega)
    have e:mR (cyc R p (L+1)) i k=stepV (mOf (rowAt R p).A i) (mR (cyc R (p+1) L)) k:=by
     show mR (rowAt R p::cyc R (p+1) L) i k=_;rw[zoU (zbK (by omega)),zpb hij.1]
    rw[e];refine⟨hij.1,a2,(zpP a2).mpr ⟨j,hij.2,g0,a3⟩,λhw=>?_⟩;refine(zpQ (λp'=>zaj _ i p') ziK a2).mpr ⟨j,hij.2,g0,a3,?_⟩
    cases d with
    | true=>exact .inl (zqX.mpr h)
    | false=>exact .inr (a4 (by simpa using hw))
theorem zpg{R:List Rw}(hn:0<R.length)(h3:∀ p,In3 (rowAt R p).A)(hM:hf (mR R)=false){p i w k:Nat}(hp:p<R.length)(r:Wk R p i i w (k*R.length)):w=0:=by
 refine Classical.byContradiction λhw=>?_
 have hk:k≠0:=λz=>by
  subst z;rw[Nat.zero_mul]at r;cases r;exact hw rfl
 obtain⟨k,rfl⟩:∃ k',k=k'+1:=⟨k - 1,by omega⟩
 obtain⟨a1,_,_,a4⟩:=r.at h3 (Nat.mul_pos (by omega) hn);have e:=a4 (by omega);rw[zfi hn]at e;have:=(zfc ziK).mpr ⟨k,i,a1,e⟩;rw[zqF hn hp,hM]at this;cases this
theorem Wk.per{R:List Rw}{p i j w L:Nat}(r:Wk R p i j w L):∀{p' k:Nat},p=p'+k*R.length->Wk R p' i j w L:=by
 induction r with
 | nil=>intro p' k e;exact .nil
 | @cons p i j l w L d h r ih =>
  intro p' k e
  have h':(i,j,d)∈(rowAt R p').A:=by rw[e,jy]at h;exact h
  exact .cons h' (ih (p':=p'+1) (k:=k) (by omega))
abbrev Nd2:=Nat×Nat
theorem falls{R:List Rw}{p i j w L:Nat}(r:Wk R p i j w L)(h3:∀ p,In3 (rowAt R p).A):∃ F:List Nd2,F.length=w/\(∀ x∈F,x.2<3/\∃ w' L',x.1=(p+L')%R.length/\Wk R p i x.2 w' L') /\
  F.Pairwise λx y=>∃ px w' L',x.1=px%R.length/\y.1=(px+L')%R.length/\1<=w'/\Wk R px x.2 y.2 w' L':=by
 induction r with
 | nil=>exact⟨[],rfl,(λx hx=>by cases hx),List.Pairwise.nil⟩
 | @cons p i j l w L d h r ih =>
  obtain⟨F,e1,e2,e3⟩:=ih;have hij:=h3 p _ h
  have tl:∀ x∈F,x.2<3/\∃ w' L',x.1=(p+L')%R.length/\Wk R p i x.2 (w'+d.toNat) L':=λx hx=>by
   obtain⟨a,w',L',b,c⟩:=e2 x hx;exact⟨a,w',L'+1,by rw[b];congr 1;omega,.cons h c⟩
  cases d with
  | false =>
   refine⟨F,by simpa using e1,λx hx=>?_,e3⟩;obtain⟨a,w',L',b,c⟩:=tl x hx;exact⟨a,_,L',b,c⟩
  | true =>
   refine⟨(p%R.length,i)::F,by simp[e1],λx hx=>?_,List.Pairwise.cons (λy hy=>?_) e3⟩
   . rcases tR.mp hx with rfl | hx
     . exact⟨hij.1,0,0,rfl,.nil⟩
     . obtain⟨a,w',L',b,c⟩:=tl x hx;exact⟨a,_,L',b,c⟩
   . obtain⟨a,w',L',b,c⟩:=tl y hy;exact⟨p,w'+true.toNat,L',rfl,b,by simp,c⟩
theorem zlP{R:List Rw}(hn:0<R.length)(h3:∀ p,In3 (rowAt R p).A)(hM:hf (mR R)=false){p i j w L:Nat}(r:Wk R p i j w L):w<=3*R.length:=by
 obtain⟨F,e1,e2,e3⟩:=falls r h3
 have nd:F.Nodup:=by
  refine e3.imp λ{x y} h z=>?_;subst z;obtain⟨px,w',L',a,b,c,d⟩:=h;have hm:px%R.length=(px+L')%R.length:=a.symm.trans b
  have h0:L'%R.length=0:=by
   have h1:=Nat.mod_add_div px R.length;have:(px+L' - px)%R.length=0:=Nat.sub_mod_eq_zero_of_mod_eq hm.symm
   rwa [Nat.add_sub_cancel_left]at this
  obtain⟨k,hk⟩:=Nat.dvd_of_mod_eq_zero h0;rw[Nat.mul_comm]at hk;subst hk
  have pe:px=px%R.length+px / R.length*R.length:=by rw[Nat.mul_comm];exact(Nat.mod_add_div px R.length).symm
  have:=zpg hn h3 hM (rF px hn) (d.per pe);omega
 rw[← e1]
 have sub:F⊆(List.range R.length).flatMap λa=>[(a,0),(a,1),(a,2)]:=λx hx=>by
  obtain⟨a,w',L',b,_⟩:=e2 x hx;refine pJ.mpr ⟨x.1,pH.mpr (by rw[b];exact rF _ hn),?_⟩;obtain⟨u,v⟩:=x;simp only at a
  rcases(show v=0\/v=1\/v=2 by omega)with rfl | rfl | rfl <;> simp
 have le:=P1.jJ nd sub
 have len:∀ n:Nat,((List.range n).flatMap λa=>[((a,0):Nd2),(a,1),(a,2)]).length=3*n:=λn=>by
  induction n with
  | zero=>rfl
  | succ n ih =>
   rw[List.range_succ,List.flatMap_append,qG,ih];simp;omega
 rw[len]at le;exact le
section
variable{s0 s:S}{vs:List Nat}{g:G}{e:E}{σ:Fc.Env}{Q:D->S->Prop}{X:Xc}{ds:List D}{n:Nat}{c:D->List D}
def Cl(s:S)(c:D->List D)(as:List Nat)(ds:List D):Prop:=as.length=ds.length/\∀(j a:Nat) (d:D),as[j]?=some a->ds[j]?=some d->s[a]?=some (.lst (c d))
def InvN(s0:S)(c:D->List D)(ds:List D)(r acc:List D)(s:S):Prop:=∃ d1 as,ds=d1++r/\acc=as.map D.ref/\Cl s c as d1/\as.Nodup/\(∀ a∈as,s0.length<a/\a<s.length)/\Pf s0 s
theorem zjM{d:D}{r acc:List D}(hl:ds.length<1000)(hs:∀ d∈ds,∀ s,Pf s0 s->s0.length<s.length->∃ σ1,g d (wipe σ vs) s=some σ1/\wE (e σ1 s) (λy s2=>Pf s s2/\∃ a,y=.ref a/\s2[a]?=some (.lst (c d))/\s.length<=a) (λ_ _ _=>False))
   (h:InvN s0 c ds (d::r) acc s) (hD:s[s0.length]?=some (.lst acc)) :
   ∃ σ1,g d (wipe σ vs) s=some σ1/\wE (tYes σ1 s) (λt s1=>if t=true then wE (e σ1 s1) (λy s2=>s2[s0.length]?=some (.lst acc)/\acc.length<16777216/\InvN s0 c ds r (acc++[y]) (s2.set s0.length (.lst (acc++[y])))) (λ_ _ _=>False)else s1[s0.length]?=some (.lst acc)/\InvN s0 c ds r acc s1) (λ_ _ _=>False):=by
 obtain⟨d1,as,e1,e3,e4,e6,e7,pf⟩:=h;obtain⟨σ1,g1,g2⟩:=hs d (by rw[e1];simp) s pf (zq hD);refine⟨σ1,g1,?_⟩;simp
 refine zA g2 λy s2 ⟨p2,a,ey,ha,la⟩=>⟨p2 _ _ hD,?_,d1++[d],as++[a],by simp[e1],?_,⟨?_,?_⟩,?_,?_,zfu (pf.trans p2)⟩
 . have h2:ds.length=d1.length+(d::r).length:=by rw[e1];simp
   have:=e4.1;rw[e3];simp;omega
 . rw[e3,ey];simp
 . simp[e4.1]
 . have lt:=zq hD;intro j b d' hb hd';by_cases hj:j<as.length
   . rw[sX hj]at hb;rw[sX (by rw[← e4.1];exact hj)]at hd';have:=e7 b (rH hb);rw[zJ (by omega)];exact p2 _ _ (e4.2 j b d' hb hd')
   . rw[qp (by omega)]at hb;rw[qp (by rw[← e4.1];omega)]at hd'
     have hj0:j - as.length=0:=by
      have:=(su.mp hb).1;simp at this;omega
     rw[hj0]at hb;rw[← e4.1,hj0]at hd';simp only[qU,Option.some.injEq]at hb hd';subst hb;subst hd';rw[zJ (by omega)];exact ha
 . rw[rY];refine⟨e6,by simp,λx hx y hy=>?_⟩;simp only[sS]at hy;subst hy;have:=e7 x hx;omega
 . have lt:=zq hD;intro b hb;have:=p2.len
   rcases tZ.mp hb with hb | hb
   . have:=e7 b hb;simp only[oA];omega
   . simp only[sS]at hb;subst hb;have:=zq ha;simp only[oA];omega
theorem zqd(hn:s0[n]?=some (.lst ds))(hl:ds.length<1000)(hs:∀ d∈ds,∀ s,Pf s0 s->s0.length<s.length->∃ σ1,g d (wipe σ vs) s=some σ1/\wE (e σ1 s) (λy s2=>Pf s s2/\∃ a,y=.ref a/\s2[a]?=some (.lst (c d))/\s.length<=a) (λ_ _ _=>False))
  (hQ:∀ s' as,Pf s0 s'->s'[s0.length]?=some (.lst (as.map .ref))->Cl s' c as ds->as.Nodup->(∀ a∈as,s0.length<a)->Q (.ref s0.length) s'):wE (uf s0 λD0 s2=>lcL D0 n vs g tYes e ds.length 0 σ s2) Q X:=by
 rw[zaZ];obtain⟨s',acc',h1,h2,d1,as,h3,h4,h5,h6,h7,h8⟩:=zls (D0:=s0.length) (n:=n) (dsA:=ds) (vs:=vs) (g:=g) (t:=tYes) (e:=e) (σ:=σ) (InvN s0 c ds) (λr acc s ⟨_,_,_,_,_,_,_,pf⟩=>pf _ _ hn) ds.length 0 [] (s:=s0++[.lst []]) (by omega) ⟨[],[],rfl,rfl,⟨rfl,λj a d h=>by simp at h⟩,pA,(λa h=>by cases h),Pf.app⟩ zH (λd r acc s h hD=>zjM hl hs h hD);rw[sJ]at h3;subst h3;exact⟨s',h1,hQ s' as h8 (by rw[h2,h4]) h5 h6 λa ha=>(h7 a ha).1⟩
end
def nds(n:Nat):List Nd2:=(List.range n).flatMap λa=>[(a,0),(a,1),(a,2)]
theorem zpe(n:Nat):(nds n).length=3*n:=by
 induction n with
 | zero=>rfl
 | succ n ih =>
  unfold nds at ih ⊢;rw[List.range_succ,List.flatMap_append,qG,ih];simp;omega
theorem zoV{n p i:Nat}(hp:p<n)(hi:i<3):(p,i)∈nds n:=by
 refine pJ.mpr ⟨p,pH.mpr hp,?_⟩
 rcases(show i=0\/i=1\/i=2 by omega)with rfl | rfl | rfl <;> simp
theorem zpf{n:Nat}{x:Nd2}(h:x∈nds n):x.1<n:=by
 obtain⟨a,ha,hx⟩:=pJ.mp h;have:=pH.mp ha;simp only[tR,rK,or_false]at hx
 rcases hx with rfl | rfl | rfl <;> exact this
abbrev Vl:=Nat->Nat->Nat
def tot(n:Nat)(V:Vl):Nat:=((nds n).map λx=>V x.1 x.2).sum
theorem sum_le{α:Type}{f g:α->Nat}:∀{l:List α},(∀ x∈l,f x<=g x)->(l.map f).sum<=(l.map g).sum
 | [],_=>tX _
 | x::l,h=>by
  rw[tK,tK,pM,pM];have:=h x (tH);have:=sum_le λy hy=>h y (tV _ hy);omega
theorem znR{α:Type}{f g:α->Nat}{z:α}:∀{l:List α},(∀ x∈l,f x<=g x)->z∈l->f z<g z->(l.map f).sum<(l.map g).sum
 | x::l,h,hz,hlt=>by
  rw[tK,tK,pM,pM];have h1:=h x (tH);have h2:∀ y∈l,f y<=g y:=λy hy=>h y (tV _ hy)
  rcases tR.mp hz with rfl | hz
  . have:=sum_le h2;omega
  . have:=znR h2 hz hlt;omega
theorem znQ{α:Type}{f:α->Nat}{b:Nat}:∀{l:List α},(∀ x∈l,f x<=b)->(l.map f).sum<=l.length*b
 | [],_=>rJ _
 | x::l,h=>by
  rw[tK,pM,rG,Nat.succ_mul];have:=h x (tH);have:=znQ (l:=l) λy hy=>h y (tV _ hy);omega
def zjh(V:Vl)(p i v:Nat):Vl:=λa b=>if a=p/\b=i then v else V a b
theorem zlp{n:Nat}{V:Vl}{p i v:Nat}(hp:p<n)(hi:i<3)(h:V p i<v):tot n V<tot n (zjh V p i v):=by
 refine znR (z:=(p,i)) (λx _=>?_) (zoV hp hi) ?_
 . show V x.1 x.2<=zjh V p i v x.1 x.2;unfold zjh;split
   . rename_i hx;rw[hx.1,hx.2];omega
   . exact tX _
 . show V p i<zjh V p i v p i;unfold zjh;rw[if_pos ⟨rfl,rfl⟩];exact h
def Wks(R:List Rw)(V:Vl):Prop:=∀ p i,p<R.length->∃ k L,Wk R p i k (V p i) L
theorem ztU{R:List Rw}:Wks R λ_ _=>0:=λp i _=>⟨i,0,.nil⟩
theorem zqf{R:List Rw}{V:Vl}{p i j:Nat}{d:Bool}(h:Wks R V)(hp:p<R.length)(ha:(i,j,d)∈(rowAt R p).A):Wks R (zjh V p i (V ((p+1)%R.length) j+d.toNat)):=by
 intro a b hab;unfold zjh;split
 . rename_i hx;obtain⟨rfl,rfl⟩:=hx
   have hn:0<R.length:=by omega
   obtain⟨k,L,w⟩:=h ((a+1)%R.length) j (rF _ hn)
   have w2:Wk R (a+1) j k (V ((a+1)%R.length) j) L:=by
    by_cases hz:a+1<R.length
    . rw[qj hz]at w ⊢;exact w
    . have hz':a+1=0+1*R.length:=by omega
      have e0:(a+1)%R.length=0:=by rw[hz'];simp
      rw[e0]at w ⊢
      have gen:∀{p i j w L:Nat},Wk R p i j w L->∀{q:Nat},q=p+1*R.length->Wk R q i j w L:=by
       intro p i j w L r
       induction r with
       | nil=>intro q e;exact .nil
       | @cons p i j l w L d h r ih =>
        intro q e
        have h':(i,j,d)∈(rowAt R q).A:=by rw[e,jy];exact h
        exact .cons h' (ih (by omega))
      exact gen w hz'
   exact⟨k,L+1,.cons ha w2⟩
 . exact h a b hab
theorem zsd{R:List Rw}{V:Vl}(h:Wks R V)(hn:0<R.length)(h3:∀ p,In3 (rowAt R p).A)(hM:hf (mR R)=false):tot R.length V<=3*R.length*(3*R.length):=by
 have:=znQ (l:=nds R.length) (f:=λx:Nd2=>V x.1 x.2) (b:=3*R.length) λx hx=>by
  obtain⟨k,L,w⟩:=h x.1 x.2 (zpf hx);exact zlP hn h3 hM w
 rw[zpe]at this;exact this
end PR
namespace P21
open PySem Fc P1 P85 PB PC P31
open P20 (yt)
open PW (Gd Arcs mOf)
abbrev Wy:=Nat×Bool
section
variable{hs:List (Str×Nat)}{l:List Rw}
theorem zqK(gd:Gd hs l):∀ q∈l,In3 q.A:=λq hq a ha=>by
 obtain⟨_,_,w3,w4,w5,_⟩:=gd.wd.ln q hq;have:=w5 a ha;have:=(gd.wd.hn _ w3).2.2;have:=(gd.wd.hn _ w4).2.2;omega
end
open PL (Ds)
section
variable{s:S}{n h:Nat}{hs:List (Str×Nat)}{l R:List Rw}{y:D}
theorem zdh{n:Nat}:∀ R:List Rw,dats s n (R.map λq=>D.str q.nm)=some (R.map λq=>PyData.str q.nm)
 | []=>yQ
 | q::R=>zP xZ (zdh R)
theorem zhP(gd:Gd hs l):∀{R:List Rw},(∀ q∈R,q∈l)->PyData.canLayAll0 (R.map λq=>PyData.str q.nm)=true/\PyData.depthAll (R.map λq=>PyData.str q.nm)<=1
 | [],_=>by simp[PyData.canLayAll0,PyData.depthAll]
 | q::R,h=>by
  obtain⟨k1,k2⟩:=zhP gd (R:=R) λy hy=>h y (tV _ hy);have ok:=(zfa gd (h q (tH))).1;refine⟨by simp[PyData.canLayAll0,PyData.canLay0,xT.mpr ok,k1],?_⟩;simp only[tK,PyData.depthAll,PyData.depth];omega
end
end P21
namespace P33
open PySem Fc
noncomputable section
def b_ring:C :=
 (zE (zR (zB d_check_program [] (za (zf 0) zj)))
 (zE (zR (zB d_check_begin [] (za (zf 0) (za (zf 1) zj))))
 (zE (zQ (eN yr zj) (gName 2))
 (zE (xg (iNd zcZ (zB PK.d_tables_of [] (za (zf 0) zj))) (gTup 2 (gCons (gName 3) (gCons (gName 4) gNil)))
 (cIf (tAnd (tE (zB PK.d_goes_on [] (za (zf 3) zj))) (tOr (tB (e1 zei (zf 1))) (tB (e2 oEq (e2 oAt (zf 3) (eC (.int 0))) (zf 1)))))
 (zR (eM zU (zf 2) (za (zf 4) zj)))
 yh))
 (zE (cIf (tB (e2 oEq (zf 2) (eN yr zj)))
 (ye (eC .non))
 yh)
 (zE (zQ (eN zdY (za (zf 2) zj)) (gName 4))
 (zE (zQ (e2 oAt (eN yX (za (eLc [5] (yG .seq (zf 2)) (gName 5) (tB (e2 oEq (eN vA (za (zf 5) zj)) (eN vA (za (zf 4) zj)))) (zf 5)) zj)) (eC (.int 0))) (gName 4))
 (ye (eN wg (za (zf 4) (za (zB d_least_values [] (za (zf 0) (za (zf 4) zj))) zj)))))))))))
def d_ring:F:=yg 2 6 b_ring
end
end P33
namespace PR
open PySem Fc P1 P85 PB PC P31 P21
open PW (mOf)
noncomputable section
def LA:C:=(cIf (tB (e2 oLt (e2 oAt (zf 11) (zf 13)) (e2 xH (e2 oAt (zf 12) (zf 14)) (eN yS (za (zf 15) zj)))))
 (zE (jE (zf 11) (zf 13) (e2 xH (e2 oAt (zf 12) (zf 14)) (eN yS (za (zf 15) zj))))
 (zQ (eC (.bl true)) (gName 6)))
 yh)
def LB:C:=(zE (zfT 11 12 (za (e2 oAt (zf 4) (zf 7)) (za (e2 oAt (zf 4) (e2 oMod (e2 xH (zf 7) (eC (.int 1))) (eN vA (za (zf 2) zj)))) zj)))
 (xg (yG .seq (zf 10)) (gTup 3 (gCons (gName 13) (gCons (gName 14) (gCons (gName 15) gNil)))) LA))
def LC:C:=(zeL (za (zf 2) zj) (gTup 2 (gCons (gName 7) (gCons (gTup 3 (gCons (gName 8) (gCons (gName 9) (gCons (gName 10) gNil)))) gNil))) LB)
def LD:C:=(zE (zQ (eC (.bl false)) (gName 6)) LC)
theorem zma:b_least_values=(zE (zQ (eLc [3] (yG .seq (zf 1)) (gName 3) tYes (e2 oAt (e1 (xr "known") (zf 0)) (zf 3))) (gName 2))
 (zE (zQ (eLc [5] (yG .seq (zf 2)) (gName 5) tYes (e2 jN (eN yr (za (eC (.int 0)) zj)) (e2 oAt (e1 (xr "many") (zf 0)) (e2 oAt (zf 5) (eC (.int 0)))))) (gName 4))
 (zE (zQ (eC (.bl true)) (gName 6))
 (zE (vq (tE (zf 6)) LD)
 (ye (eLc [5] (yG .seq (zf 4)) (gName 5) tYes (eN fTuple (za (zf 5) zj)))))))):=rfl
end
def kn(q:Rw):D:=.tup [.str q.src.1,.str q.tgt.1,.tup (q.A.map aD)]
def cell(q:Rw)(V:Nat->Nat):List D:=(List.range q.src.2).map λi=>.int (V i:Int)
structure Lv(s0 s:S)(R:List Rw)(as:List Nat)(V:Vl)(rw vl:Nat):Prop where
 len:as.length=R.length
 cells:∀ p a:Nat,as[p]?=some a->s[a]?=some (.lst (cell (rowAt R p) (V p)))
 wk:Wks R V
 nd:as.Nodup
 rows:s[rw]?=some (.lst (R.map kn))
 vals:s[vl]?=some (.lst (as.map .ref))
 old:Pf s0 s
 nr:rw∉as
 nv:vl∉as
 new:∀ a∈as,s0.length<=a
def Fits(R:List Rw):Prop:=∀ p,p<R.length->∀ i j d,(i,j,d)∈(rowAt R p).A->i<(rowAt R p).src.2/\j<(rowAt R ((p+1)%R.length)).src.2/\i<3
section
variable{s:S}{V:Vl}{i a rw:Nat}
theorem zjm{q:Rw}{V:Nat->Nat}(h:s[a]?=some (.lst (cell q V)))(hi:i<q.src.2):atD s (.ref a) (.int i)=some (.int (V i:Int)):=by
 rw[yO h,atI_nat];unfold cell;rw[tU,qF hi];rfl
theorem zlI{q:Rw}{V:Nat->Nat}{v:Nat}(h:s[a]?=some (.lst (cell q V)))(hi:i<q.src.2):Fc.putAt s (.ref a) (.int i) (.int (v:Int))=some (s.set a (.lst (cell q λx=>if x=i then v else V x))):=by
 unfold Fc.putAt;dsimp only;rw[h];dsimp only
 have e:L2.ixN (cell q V).length (i:Int)=some i:=by
   unfold L2.ixN;rw[if_pos (by omega),if_pos (by unfold cell;simp;omega)];simp
 rw[e];show some (s.set a (.lst ((cell q V).set i (.int (v:Int)))))=_;congr 4;unfold cell;refine ph λx=>?_;rw[qI];by_cases hx:x=i
 . subst hx;rw[if_pos rfl,if_pos (by simpa using hi),tU,qF hi];simp
 . rw[if_neg (λz=>hx z.symm),tU,tU];by_cases hq:x<q.src.2
   . rw[qF hq];simp[hx]
   . rw[qT (by simpa using hq)];rfl
end
end PR
namespace PR
open PySem Fc P1 P85 PB PC P31 P21
open PW (mOf Gd Arcs)
open P20 (yt)
section
variable{s:S}{p m k:Nat}{hs:List (Str×Nat)}{l:List Rw}
theorem zfk:∀{hs:List (Str×Nat)}{x:Str×Nat},(hs.map (·.1)).Nodup->x∈hs->kget (mvH hs) (.inr x.1)=some (.int x.2)
 | h::hs,x,nd,hx=>by
  rw[tK,qW]at nd
  rcases tR.mp hx with rfl | hx
  . simp[mvH,kget]
  . have ne:¬ ((Sum.inr h.1:L2.Key)=Sum.inr x.1):=λz=>by
     injection z with z
     exact nd.1 (z ▸ tM.mpr ⟨x,hx,rfl⟩)
    have ih:=zfk nd.2 hx;simp only[mvH,tK,kget]at ih ⊢;rw[List.find?_cons_of_neg (by simpa using ne)];exact ih
theorem zog(h:PA s p m k hs l)(gd:Gd hs l){x:Str×Nat}(hx:x∈hs):atD s (.ref m) (.str x.1)=some (.int x.2):=by
 simp only[atD,h.many,unl,dget,keyOf,sE,zfk gd.nd hx];rfl
def szO(hs:List (Str×Nat))(x:Str):Nat:=match kget (mvH hs) (.inr x)with
 | some (.int i)=>i.toNat
 | _=>0
theorem znS(gd:Gd hs l){x:Str×Nat}(hx:x∈hs):szO hs x.1=x.2:=by
 unfold szO;rw[zfk gd.nd hx];simp
def zeros(hs:List (Str×Nat)):D->List D
 | .tup [.str x,_,_]=>List.replicate (szO hs x) (.int 0)
 | _=>[]
end
end PR
namespace PR
open PySem Fc P1 P85 PB PC P31 P21
open PW (mOf Gd Arcs)
def Rok(l:List Rw)(x:Tb×List Str):Prop:=∃ R:List Rw,R≠[]/\(∀ q∈R,q∈l)/\chn R=true/\x.2=R.map (·.nm)/\zpU R=x.1
def Rows(l:List Rw)(f:Fd):Prop:=∀ x∈f,Rok l x/\x.2.length<=f.length
section
variable{l:List Rw}{f:Fd×List Tb}{t:Tb}{row:List Str}
theorem zeH(h:Rows l f.1)(ht:t∉ky f.1->Rok l (t,row))(hl:row.length<=f.1.length+1):Rows l (zba f t row).1:=by
 unfold zba;split
 . exact h
 . rename_i hm;intro x hx
   have e:(f.1++[(t,row)]).length=f.1.length+1:=by simp
   rcases tZ.mp hx with hx | hx
   . obtain⟨a,b⟩:=h x hx;exact⟨a,by show _<=(f.1++[(t,row)]).length;omega⟩
   . simp only[sS]at hx;subst hx;exact⟨ht hm,by show _<=(f.1++[(t,row)]).length;rw[e];exact hl⟩
theorem zmv{f:Fd}(h:Rows l f)(ht:t∈ky f):Rok l (t,rowOf f t)/\(rowOf f t).length<=f.length:=by
 unfold rowOf;obtain⟨x,hx,rfl⟩:=tM.mp ht
 cases hf:f.find? (λy=>decide (y.1=x.1))with
 | none =>
  have:=pZ.mp hf x hx;simp at this
 | some y =>
  have h1:=List.find?_some hf;have h2:=oN hf
  have e:y.1=x.1:=by simpa using h1
  have:=h y h2;rw[← e];exact this
theorem zsb{R:List Rw}{y:Rw}(h:R.getLast?=some y):(zpU R).e=y.tgt.1:=by
 cases R with
 | nil=>cases h
 | cons q R =>
  rw[zgS];rw[List.getLast?_eq_getLast (by simp)]at h;have:=Option.some.inj h;show((q::R).getLast _).tgt.1=y.tgt.1;rw[this]
def Sok(l:List Rw)(g:Sg):Prop:=∀ x∈g,∃ q∈l,x=(q.nm,tbR q)
theorem zjb{x:Str×Tb}(cn:∀ q∈l,Cn (tbR q))(h:Rows l f.1)(ht:t∈ky f.1)(hx:∃ q∈l,x=(q.nm,tbR q)):Rows l (vp t f x).1:=by
 unfold vp;split
 . rename_i he;obtain⟨q,hq,rfl⟩:=hx;obtain⟨⟨R,h1,h2,h3,h4,h5⟩,hlen⟩:=zmv h ht;refine zeH h (λ_=>⟨R++[q],by simp,λy hy=>?_,zjn h3 λy hy=>?_,?_,?_⟩) (by simp;omega)
   . rcases tZ.mp hy with hy | hy
     . exact h2 y hy
     . simp only[sS]at hy;subst hy;exact hq
   . have:=zsb hy;rw[h5]at this;have he:t.e=q.src.1:=he;exact he.symm.trans this
   . rw[sV];simp only[tK,qu]at h4 ⊢;rw[← h4]
   . rw[zmS (λy hy=>?_) h1 (by simp),h5]
     . rfl
     . rcases tZ.mp hy with hy | hy
       . exact cn y (h2 y hy)
       . simp only[sS]at hy;subst hy;exact cn y hq
 . exact h
theorem zhd(h:∀ u∈f.2,u∈ky f.1):∀ u∈(zba f t row).2,u∈ky (zba f t row).1:=by
 unfold zba;split
 . exact h
 . intro u hu;rw[zdx]
   rcases tZ.mp hu with hu | hu
   . exact qO _ (h u hu)
   . simp only[sS]at hu;subst hu;exact pD _ (by simp[ky])
theorem zoc{u:Tb}(h:u∈ky f.1):u∈ky (zba f t row).1:=by
 unfold zba;split
 . exact h
 . rw[zdx];exact qO _ h
theorem zik{x:Str×Tb}{u:Tb}(h:u∈ky f.1):u∈ky (vp t f x).1:=by
 unfold vp;split
 . exact zoc h
 . exact h
theorem zlk{x:Str×Tb}(h:∀ u∈f.2,u∈ky f.1):∀ u∈(vp t f x).2,u∈ky (vp t f x).1:=by
 unfold vp;split
 . exact zhd h
 . exact h
theorem zdK(cn:∀ q∈l,Cn (tbR q)):∀{g:Sg}{f:Fd×List Tb},Sok l g->Rows l f.1->(∀ u∈f.2,u∈ky f.1)->t∈ky f.1->Rows l (stepT g f t).1/\(∀ u∈(stepT g f t).2,u∈ky (stepT g f t).1)/\∀ u∈ky f.1,u∈ky (stepT g f t).1
 | [],f,_,h,h2,_=>⟨h,h2,λu hu=>hu⟩
 | x::g,f,hg,h,h2,ht=>by
  obtain⟨a,b,c⟩:=zdK cn (g:=g) (f:=vp t f x) (λy hy=>hg y (tV _ hy)) (zjb cn h ht (hg x (tH))) (zlk h2) (zik ht);exact⟨a,b,λu hu=>c u (zik hu)⟩
theorem zdy(cn:∀ q∈l,Cn (tbR q)){g:Sg}(hg:Sok l g):∀{L:List Tb}{f:Fd×List Tb},Rows l f.1->(∀ u∈f.2,u∈ky f.1)->(∀ u∈L,u∈ky f.1)->Rows l (L.foldl (stepT g) f).1/\∀ u∈(L.foldl (stepT g) f).2,u∈ky (L.foldl (stepT g) f).1
 | [],f,h,h2,_=>⟨h,h2⟩
 | t::L,f,h,h2,hL=>by
  obtain⟨a,b,c⟩:=zdK cn hg h h2 (hL t (tH));exact zdy cn hg (L:=L) a b λu hu=>c u (hL u (tV _ hu))
theorem zhi(cn:∀ q∈l,Cn (tbR q)){g:Sg}(hg:Sok l g):∀(n:Nat) {f r:Fd}{L:List Tb},Rows l f->(∀ u∈L,u∈ky f)->zfP g n f L=some r->Rows l r
 | 0,f,r,L,h,hL,e=>by
  unfold zfP at e;split at e
  . cases e;exact h
  . cases e
 | n+1,f,r,L,h,hL,e=>by
  unfold zfP at e;split at e
  . cases e;exact h
  . obtain⟨a,b⟩:=zdy cn hg (L:=L) (f:=(f,[])) h (λu hu=>by cases hu) hL;exact zhi cn hg n a b e
theorem zfd:∀{g:Sg}{f:Fd×List Tb},Sok l g->Rows l f.1->(∀ u∈f.2,u∈ky f.1)->Rows l (g.foldl (λf x=>zba f x.2 [x.1]) f).1/\∀ u∈(g.foldl (λf x=>zba f x.2 [x.1]) f).2,u∈ky (g.foldl (λf x=>zba f x.2 [x.1]) f).1
 | [],f,_,h,h2=>⟨h,h2⟩
 | x::g,f,hg,h,h2=>by
  obtain⟨q,hq,rfl⟩:=hg x (tH);refine zfd (g:=g) (f:=zba f (tbR q) [q.nm]) (λy hy=>hg y (tV _ hy)) (zeH h (λ_=>⟨[q],by simp,λy hy=>?_,rfl,rfl,rfl⟩) (by simp)) (zhd h2);simp only[sS]at hy;subst hy;exact hq
theorem znM(nd:(l.map (·.nm)).Nodup):Sok l (sgl l):=by
 intro x hx;have pm:=wy (ks:=l.map (·.nm));obtain⟨y,hy,rfl⟩:=tM.mp hx;obtain⟨q,hq,rfl⟩:=tM.mp (pm.mem_iff.mp hy);exact⟨q,hq,by rw[zfH nd hq]⟩
theorem zmV{s:S}{n:Nat}{r:Fd}{hs:List (Str×Nat)}(gd:Gd hs l)(ht:TOf s n l r):Rows l r:=by
 obtain⟨N,hN⟩:=ht.fu;have cn:∀ q∈l,Cn (tbR q):=λq hq=>zjp gd _ (tM.mpr ⟨q,hq,rfl⟩);obtain⟨a,b⟩:=zfd (l:=l) (g:=sgl l) (f:=([],[])) (znM gd.nl) (λx hx=>by cases hx) (λu hu=>by cases hu);exact zhi cn (znM gd.nl) N a b hN
end
structure Ring(l:List Rw)(R:List Rw):Prop where
 ne:R≠[]
 sub:∀ q∈R,q∈l
 ch:chn R=true
 go:goes (zpU R)=true
 len:R.length<1000
def Gr(s:S)(l:List Rw)(a:Nat):Prop:=∃ R,Ring l R/\s[a]?=some (.lst (R.map λq=>.str q.nm))
section
variable{s s':S}{l:List Rw}{hs:List (Str×Nat)}{as:List Nat}{n m a:Nat}
theorem Gr.pf(h:Gr s l a)(p:Pf s s'):Gr s' l a:=by
 obtain⟨R,h1,h2⟩:=h;exact⟨R,h1,p _ _ h2⟩
theorem zgi(gd:Gd hs l){k:Nat}:∀{as:List Nat},(∀ a∈as,Gr s l a)->∃ xs:List PyData,dats s (k+2) (as.map D.ref)=some xs/\PyData.canLayAll0 xs=true/\PyData.depthAll xs<=3/\xs.length=as.length/\(as.map D.ref).map (λd=>(dat s (k+2) d).getD .none)=xs/\∀ x∈xs,∃ ys:List Str,x=.list (ys.map PyData.str)
 | [],_=>⟨[],yQ,rfl,by decide,rfl,rfl,λx hx=>by cases hx⟩
 | a::as,h=>by
  obtain⟨R,hr,hR⟩:=h a (tH);obtain⟨xs,h1,h2,h3,h4,h5,h6⟩:=zgi gd (k:=k) λb hb=>h b (tV _ hb);obtain⟨b1,b2⟩:=zhP gd hr.sub
  have e:dat s (k+2) (.ref a)=some (.list (R.map λq=>PyData.str q.nm)):=by
    rw[xF hR,zdh];rfl
  refine⟨.list (R.map λq=>PyData.str q.nm)::xs,zP e h1,by simp[PyData.canLayAll0,PyData.canLay0,b1,h2],?_,by simp[h4],?_,λx hx=>?_⟩
  . simp only[PyData.depthAll,PyData.depth];omega
  . rw[tK,tK,h5,e];rfl
  . rcases tR.mp hx with rfl | hx
    . exact⟨R.map (·.nm),by rw[sO];rfl⟩
    . exact h6 x hx
theorem zor(gd:Gd hs l)(h:∀ a∈as,Gr s l a)(hn:s[n]?=some (.lst (as.map .ref)))(hm:s[m]?=some (.lst [])):eqD s (.ref n) (.ref m)=some (decide (as=[])):=by
 obtain⟨xs,h1,h2,h3,h4,_⟩:=zgi gd (k:=57) h;rw[zeY (x:=.list xs) (y:=.list []) (by rw[xF hn,h1];rfl) (by rw[xF hm,yQ];rfl) ?_ vY]
 . cases as with
   | nil =>
    have:xs=[]:=qZ h4;subst this;rfl
   | cons a as =>
    cases xs with
    | nil=>simp at h4
    | cons x xs=>simp[PyData.eqv,PyData.eqvAll]
 . refine rE.mpr ⟨by simp only[PyData.canLay0,h2],decide_eq_true ?_⟩;simp only[PyData.depth];omega
theorem zdd:∀(xs ys:List Str),PySem.W.alikeAll (xs.map PyData.str) (ys.map PyData.str)=true
 | [],_=>by simp[PySem.W.alikeAll]
 | x::xs,[]=>by simp[PySem.W.alikeAll]
 | x::xs,y::ys=>by simp[PySem.W.alikeAll,PySem.W.alike,zdd xs ys]
theorem zpE(gd:Gd hs l)(h:∀ a∈as,Gr s l a)(hl:as.length<100000):zbt s (as.map .ref)=true:=by
 obtain⟨xs,h1,h2,h3,h4,h5,h6⟩:=zgi gd (k:=58) h;unfold zbt;have e:(as.map D.ref).map (enc s)=xs:=h5;rw[h1,e];have hz:sz (as.map D.ref).length=true:=zbv (by simp;omega);rw[hz];simp only[Option.isSome_some,Bool.true_and,sG,sH];refine⟨λx hx y hy=>?_,?_⟩
 . obtain⟨u,rfl⟩:=h6 x hx;obtain⟨v,rfl⟩:=h6 y hy;simp only[PySem.W.alike];exact zdd u v
 . unfold zaK;rw[qR];right;rw[sH];intro x hx;obtain⟨u,rfl⟩:=h6 x hx;rfl
theorem zkb:∀{as:List Nat},(∀ a∈as,Gr s l a)->∃ ks,lens s (as.map .ref)=some ks/\ks.length=as.length
 | [],_=>⟨[],rfl,rfl⟩
 | a::as,h=>by
  obtain⟨R,_,hR⟩:=h a (tH);obtain⟨ks,h1,h2⟩:=zkb λb hb=>h b (tV _ hb);refine⟨(R.map λq=>D.str q.nm).length::ks,?_,by simp[h2]⟩;rw[tK];unfold lens;rw[zV hR,h1]
theorem zjo:∀{R:List Rw}{p:Nat}{x y:Rw},chn R=true->R[p]?=some x->R[p+1]?=some y->x.tgt.1=y.src.1
 | [],p,x,y,_,h,_=>by simp at h
 | [q],p,x,y,_,_,h=>by simp at h
 | q::z::R,0,x,y,hc,h1,h2=>by
  simp only[qU,oJ,Option.some.injEq]at h1 h2;subst h1;subst h2;unfold chn at hc;rw[sG,decide_eq_true_iff]at hc;exact hc.1
 | q::z::R,p+1,x,y,hc,h1,h2=>by
  unfold chn at hc;rw[sG]at hc;exact zjo (R:=z::R) (p:=p) hc.2 (by simpa using h1) (by simpa using h2)
theorem zcB(gd:Gd hs l){x y:Str×Nat}(hx:x∈hs)(hy:y∈hs)(e:x.1=y.1):x=y:=by
 have h1:=zfk gd.nd hx;have h2:=zfk gd.nd hy;rw[e,h2]at h1
 have h3:(y.2:Int)=(x.2:Int):=by
  injection h1 with h1
  injection h1
 exact Prod.ext e (by omega)
theorem Ring.data{R:List Rw}(gd:Gd hs l)(r:Ring l R):Fits R/\hf (mR R)=false:=by
 have hlen:0<R.length:=rW.mpr r.ne
 have ro:∀ p,p<R.length->rowAt R p=R[p]?.getD q0:=λp hp=>by
  unfold rowAt;rw[qj hp]
 have ra:∀ p (hp:p<R.length),rowAt R p=R[p]:=λp hp=>by
  rw[ro p hp,tQ hp];rfl
 obtain⟨q,R',rfl⟩:∃ q R',R=q::R':=by
  cases R with
  | nil=>exact absurd rfl r.ne
  | cons q R=>exact⟨q,R,rfl⟩
 have g:=r.go;rw[zgS,zgh ziK,sG,decide_eq_true_iff]at g;refine⟨λp hp i j d h=>?_,by simpa using g.2⟩
 have hm:rowAt (q::R') p∈l:=by rw[ra p hp];exact r.sub _ (rM hp)
 obtain⟨_,_,w3,w4,w5,_⟩:=gd.wd.ln _ hm;have ha:=w5 _ h;have hp2:(p+1)%(q::R').length<(q::R').length:=rF _ hlen
 have hm2:rowAt (q::R') ((p+1)%(q::R').length)∈l:=by rw[ra _ hp2];exact r.sub _ (rM hp2)
 obtain⟨_,_,y3,_⟩:=gd.wd.ln _ hm2;have h4:=(gd.wd.hn _ w3).2.2
 have nm:(rowAt (q::R') p).tgt.1=(rowAt (q::R') ((p+1)%(q::R').length)).src.1:=by
  by_cases hz:p+1<(q::R').length
  . rw[qj hz,ra p hp,ra _ hz];exact zjo r.ch (tQ hp) (tQ hz)
  . have he:p+1=(q::R').length:=by omega
    rw[he,Nat.mod_self,ra p hp,ra 0 (by simp)]
    have hl:(q::R').getLast (by simp)=(q::R')[p]:=by
     rw[List.getLast_eq_getElem];congr 1;omega
    rw[← hl];exact g.1.symm
 have eq:(rowAt (q::R') p).tgt=(rowAt (q::R') ((p+1)%(q::R').length)).src:=zcB gd w4 y3 nm;rw[← eq];exact⟨ha.1,ha.2,by omega⟩
end
open P20 (yt)
noncomputable section
def R5:C:=(zE (zQ (e2 oAt (eN yX (za (eLc [5] (yG .seq (zf 2)) (gName 5) (tB (e2 oEq (eN vA (za (zf 5) zj)) (eN vA (za (zf 4) zj)))) (zf 5)) zj)) (eC (.int 0))) (gName 4))
 (ye (eN wg (za (zf 4) (za (zB d_least_values [] (za (zf 0) (za (zf 4) zj))) zj)))))
def R4:C:=zE (zQ (eN zdY (za (zf 2) zj)) (gName 4)) R5
def R3:C:=zE (cIf (tB (e2 oEq (zf 2) (eN yr zj))) (ye (eC .non)) yh) R4
def RL:C:=(cIf (tAnd (tE (zB PK.d_goes_on [] (za (zf 3) zj))) (tOr (tB (e1 zei (zf 1))) (tB (e2 oEq (e2 oAt (zf 3) (eC (.int 0))) (zf 1)))))
 (zR (eM zU (zf 2) (za (zf 4) zj)))
 yh)
def R2:C:=zE (xg (iNd zcZ (zB PK.d_tables_of [] (za (zf 0) zj))) (gTup 2 (gCons (gName 3) (gCons (gName 4) gNil))) RL) R3
theorem zpA:P33.b_ring=(zE (zR (zB d_check_program [] (za (zf 0) zj)))
 (zE (zR (zB d_check_begin [] (za (zf 0) (za (zf 1) zj))))
 (zE (zQ (eN yr zj) (gName 2)) R2))):=rfl
end
section
variable{s s':S}{P:Pst}{p k lo a:Nat}{as:List Nat}{v5:Option D}
def zrB(s:S)(k:Nat):D->Option D
 | .ref b=>match yu s b with
  | some ds=>if ds.length=k then some (.ref b)else none
  | none=>none
 | _=>none
theorem znr{t:S}{B lo:Nat}:∀{f:Fd}{kvs:List (D×D)},FdA t B lo f kvs->∀ kv∈kvs,∃ x∈f,kv.1=PC.tD x.1/\∃ a,kv.2=.ref a/\t[a]?=some (.lst (x.2.map .str))
 | [],[],_,kv,h=>by cases h
 | x::f,kv0::kvs,h,kv,hk=>by
  obtain⟨⟨h1,a,h2,h3,_⟩,h4⟩:=h
  rcases tR.mp hk with rfl | hk
  . exact⟨x,tH,h1,a,h2,h3⟩
  . obtain⟨y,hy,r⟩:=znr h4 kv hk;exact⟨y,tV _ hy,r⟩
 | [],_::_,h,_,_=>h.elim
theorem ztA{x:Option Str}{t:Tb}(ct:Cn t)(hxk:∀ y,x=some y->okS y)(hlo:s[lo]?=some (.lst (as.map .ref)))(hl:as.length<1000)
  (hQ:∀ s' as',Fr lo s s'->s'[lo]?=some (.lst (as'.map .ref))->(as'=as\/goes t=true/\as'=as++[a])->P.nx [some (.ref p),some (stD x),some (.ref lo),some (PC.tD t),some (.ref a),v5] s') :
  wC (RL [some (.ref p),some (stD x),some (.ref lo),some (PC.tD t),some (.ref a),v5] s) P:=by
 unfold RL;simp;refine ziW ct λs1 p1=>?_;have h1:=p1 _ _ hlo
 have il:uB s1 (.ref lo)=true:=by simp[uB,yu,h1]
 have app:goes t=true->onT (uB s1 (.ref lo)) (onO (yu s1 lo) λds=>onT (decide (ds.length<16777216)) (P.nx [some (.ref p),some (stD x),some (.ref lo),some (PC.tD t),some (.ref a),v5] (s1.set lo (.lst (ds++[.ref a])))) False) False:=by
  intro hg;rw[il,zV h1];simp only[yI,zK];rw[decide_eq_true (by simp;omega),yI];refine hQ _ (as++[a]) (p1.fr.trans Fr.set) ?_ (.inr ⟨hg,rfl⟩);rw[sY (zq h1),sV];rfl
 have no:=hQ s1 as p1.fr h1 (.inl rfl);have a0:∀ s,atD s (PC.tD t) (.int 0)=some (.str t.b):=λs=>rfl;simp
 cases hg:goes t with
 | false=>exact no
 | true =>
  rw[yI]
  cases x with
  | none =>
   have e0:isNon (stD none)=true:=rfl;rw[e0,yI];exact app hg
  | some y =>
   have e0:isNon (stD (some y))=false:=rfl;have e1:stD (some y)=.str y:=rfl;rw[e0,zgC,a0,zK,e1,P85.vf ct.2.1 (hxk y rfl),zK];by_cases hb:t.b=y
   . rw[decide_eq_true hb,yI];exact app hg
   . rw[decide_eq_false hb,zgC];exact no
end
end PR
namespace PR
open PySem Fc P1 P85 PB PC P31 P21
open PW (mOf)
def NoMore(R:List Rw)(V:Vl)(p:Nat):Prop:=∀ i j d,(i,j,d)∈(rowAt R p).A->V ((p+1)%R.length) j+d.toNat<=V p i
section
variable{s0 s s':S}{P:Pst}{R:List Rw}{as:List Nat}{V:Vl}{p i j a b rw vl:Nat}{d mv:Bool}{v0 v1 v3 v5 v7 v8 v9 v10 v11 v12 v13 v14 v15:Option D}
theorem zrJ(lv:Lv s0 s R as V rw vl)(ft:Fits R)(hp:p<R.length)(ha:as[p]?=some a)(hb:as[(p+1)%R.length]?=some b)(hA:(i,j,d)∈(rowAt R p).A)
   (hQ:∀ s' V' mv',Lv s0 s' R as V' rw vl->tot R.length V<=tot R.length V'->(mv'=true->mv=true\/tot R.length V<tot R.length V')->(mv'=false->mv=false/\V'=V/\V ((p+1)%R.length) j+d.toNat<=V p i)->P.nx [v0,v1,some (.ref rw),v3,some (.ref vl),v5,some (.bl mv'),v7,v8,v9,v10,some (.ref a),some (.ref b),some (.int i),some (.int j),some (.bl d)] s') :
   wC (LA [v0,v1,some (.ref rw),v3,some (.ref vl),v5,some (.bl mv),v7,v8,v9,v10,some (.ref a),some (.ref b),some (.int i),some (.int j),some (.bl d)] s) P:=by
 unfold LA;obtain⟨f1,f2,f3⟩:=ft p hp i j d hA;have ca:=lv.cells _ _ ha;have cb:=lv.cells _ _ hb;have e1:=zjm ca f1;have e2:=zjm cb f2
 have ed:((V ((p+1)%R.length) j:Int)+if d=true then 1 else 0)=((V ((p+1)%R.length) j+d.toNat:Nat):Int):=by cases d <;> simp
 simp[e1,e2,ed];by_cases hlt:V p i<V ((p+1)%R.length) j+d.toNat
 . rw[decide_eq_true (by omega),yI,show((V ((p+1)%R.length) j:Int)+(d.toNat:Int))=((V ((p+1)%R.length) j+d.toNat:Nat):Int) by omega,zlI ca f1,zK];have hm:=rH ha
   refine hQ _ (zjh V p i (V ((p+1)%R.length) j+d.toNat)) true ⟨lv.len,λq a' hq=>?_,zqf lv.wk hp hA,lv.nd,?_,?_,?_,lv.nr,lv.nv,lv.new⟩ (Nat.le_of_lt (zlp hp f3 hlt)) (λ_=>.inr (zlp hp f3 hlt)) λz=>by cases z
   . by_cases hqp:q=p
     . subst hqp;rw[ha]at hq;cases hq;rw[sY (zq ca)]
       have:(λx=>if x=i then V ((q+1)%R.length) j+d.toNat else V q x)=zjh V q i (V ((q+1)%R.length) j+d.toNat) q:=by
        funext x;unfold zjh;by_cases hx:x=i <;> simp[hx]
       rw[this]
     . have hne:a'≠a:=λz=>by
        subst z;have hl:q<as.length:=(su.mp hq).1;exact hqp ((List.getElem?_inj hl lv.nd).mp (hq.trans ha.symm))
       rw[zJ (λz=>hne z.symm),lv.cells q a' hq]
       have:zjh V p i (V ((p+1)%R.length) j+d.toNat) q=V q:=by
        funext x;unfold zjh;rw[if_neg (λz=>hqp z.1)]
       rw[this]
   . have h1:a≠rw:=λz=>lv.nr (by rw[← z];exact hm);rw[zJ h1];exact lv.rows
   . have h1:a≠vl:=λz=>lv.nv (by rw[← z];exact hm);rw[zJ h1];exact lv.vals
   . intro x o hx;have:=lv.new a hm;have:=zq hx;rw[zJ (by omega)];exact lv.old _ _ hx
 . rw[decide_eq_false (by omega),zgC]
   exact hQ s V mv lv (tX _) .inl λz=>⟨z,rfl,by omega⟩
theorem zrK(lv:Lv s0 s R as V rw vl)(ft:Fits R)(hp:p<R.length)(hn:R.length<1000)
   (hQ:∀ s' V' mv' v11 v12 v13 v14 v15,Lv s0 s' R as V' rw vl->tot R.length V<=tot R.length V'->(mv'=true->mv=true\/tot R.length V<tot R.length V')->(mv'=false->mv=false/\V'=V/\NoMore R V p)->P.nx [v0,v1,some (.ref rw),v3,some (.ref vl),v5,some (.bl mv'),some (.int p),v8,v9,some (.tup ((rowAt R p).A.map aD)),v11,v12,v13,v14,v15] s') :
   wC (LB [v0,v1,some (.ref rw),v3,some (.ref vl),v5,some (.bl mv),some (.int p),v8,v9,some (.tup ((rowAt R p).A.map aD)),v11,v12,v13,v14,v15] s) P:=by
 unfold LB;generalize hB:LA=Bd;have hp2:(p+1)%R.length<R.length:=rF _ (by omega)
 obtain⟨a,ha⟩:∃ a,as[p]?=some a:=⟨_,tQ (by rw[lv.len];exact hp)⟩
 obtain⟨b,hb⟩:∃ b,as[(p+1)%R.length]?=some b:=⟨_,tQ (by rw[lv.len];exact hp2)⟩
 have e1:atD s (.ref vl) (.int p)=some (.ref a):=by rw[yO lv.vals,atI_nat,tU,ha];rfl
 have e2:atD s (.ref vl) (.int ((p+1)%R.length:Nat))=some (.ref b):=by rw[yO lv.vals,atI_nat,tU,hb];rfl
 have el:zfQ s (.ref rw)=some R.length:=by rw[vo lv.rows];simp
 have em:((p:Int)+1)%(R.length:Int)=(((p+1)%R.length:Nat):Int):=by rw[Int.natCast_emod];rfl
 simp[e1,el];rw[decide_eq_true (by omega),yI,em,e2,zK,show srcOf Src.seq (.tup ((rowAt R p).A.map aD)) s=some (.vals ((rowAt R p).A.map aD))from rfl,zK];dsimp only;refine yP (λ(r:List D) (σ:Fc.Env) (s':S)=>∃(A2:List Arc) (V':Vl) (mv':Bool) (v13 v14 v15:Option D),r=A2.map aD/\(∀ x∈A2,x∈(rowAt R p).A)/\Lv s0 s' R as V' rw vl/\tot R.length V<=tot R.length V'/\(mv'=true->mv=true\/tot R.length V<tot R.length V')/\(mv'=false->mv=false/\V'=V/\∀ i j d,(i,j,d)∈(rowAt R p).A->(i,j,d)∈A2\/V ((p+1)%R.length) j+d.toNat<=V p i)/\σ=[v0,v1,some (.ref rw),v3,some (.ref vl),v5,some (.bl mv'),some (.int p),v8,v9,some (.tup ((rowAt R p).A.map aD)),some (.ref a),some (.ref b),v13,v14,v15]) _ ⟨(rowAt R p).A,V,mv,v13,v14,v15,rfl,λx hx=>hx,lv,tX _,.inl,(λz=>⟨z,rfl,λi j d h=>.inl h⟩),rfl⟩ ?_ ?_
 . rintro d' r σ s' ⟨A2,V',mv',v13,v14,v15,er,hA,lv',ht,hm,hf,rfl⟩
   cases A2 with
   | nil=>cases er
   | cons x A2 =>
    rw[tK,List.cons.injEq]at er;obtain⟨rfl,rfl⟩:=er;obtain⟨i,j,d⟩:=x;refine⟨[v0,v1,some (.ref rw),v3,some (.ref vl),v5,some (.bl mv'),some (.int p),v8,v9,some (.tup ((rowAt R p).A.map aD)),some (.ref a),some (.ref b),some (.int i),some (.int j),some (.bl d)],rfl,?_⟩;rw[← hB]
    refine zrJ lv' ft hp ha hb (hA _ (tH)) λs2 V2 mv2 lv2 ht2 hm2 hf2=>⟨A2,V2,mv2,_,_,_,rfl,λy hy=>hA y (tV _ hy),lv2,rN ht ht2,λz=>?_,λz=>?_,rfl⟩
    . rcases hm2 z with h | h
      . exact(hm h).imp id λh'=>oO h' ht2
      . exact .inr (Nat.lt_of_le_of_lt ht h)
    obtain⟨z1,rfl,z2⟩:=hf2 z;obtain⟨z3,rfl,z4⟩:=hf z1;refine⟨z3,rfl,λi' j' d' hm'=>?_⟩
    rcases z4 i' j' d' hm' with h | h
    . rcases tR.mp h with h | h
      . cases h;exact .inr z2
      . exact .inl h
    . exact .inr h
 . rintro σ s' ⟨A2,V',mv',v13,v14,v15,er,hA,lv',ht,hm,hf,rfl⟩
   cases A2 with
   | cons x A2=>cases er
   | nil =>
    refine hQ s' V' mv' _ _ _ _ _ lv' ht hm λz=>?_;obtain⟨z1,z2,z3⟩:=hf z;exact⟨z1,z2,λi j d h=>(z3 i j d h).resolve_left (by simp)⟩
theorem zrL(lv:Lv s0 s R as V rw vl)(ft:Fits R)(hn0:0<R.length)(hn:R.length<1000)
   (hQ:∀ s' V' mv' v7 v8 v9 v10 v11 v12 v13 v14 v15,Lv s0 s' R as V' rw vl->(mv'=true->tot R.length V<tot R.length V')->(mv'=false->V'=V/\∀ p,p<R.length->NoMore R V p)->P.nx [v0,v1,some (.ref rw),v3,some (.ref vl),v5,some (.bl mv'),v7,v8,v9,v10,v11,v12,v13,v14,v15] s') :
   wC (LD [v0,v1,some (.ref rw),v3,some (.ref vl),v5,some (.bl mv),v7,v8,v9,v10,v11,v12,v13,v14,v15] s) P:=by
 unfold LD LC;generalize hB:LB=Bd;simp;rw[zrG lv.rows,zK]
 refine zgX (ds:=R.map kn) (λ(p:Nat) (σ:Fc.Env) (s':S)=>∃(V':Vl) (mv':Bool) (v7 v8 v9 v10 v11 v12 v13 v14 v15:Option D),Lv s0 s' R as V' rw vl/\tot R.length V<=tot R.length V'/\(mv'=true->tot R.length V<tot R.length V')/\(mv'=false->V'=V/\∀ q,q<p->NoMore R V q)/\σ=[v0,v1,some (.ref rw),v3,some (.ref vl),v5,some (.bl mv'),v7,v8,v9,v10,v11,v12,v13,v14,v15])
   (λp σ s' ⟨_,_,_,_,_,_,_,_,_,_,_,lv',_⟩=>lv'.rows) ?_ ?_ _ 0 (by simp) ⟨V,false,v7,v8,v9,v10,v11,v12,v13,v14,v15,lv,tX _,(λz=>by cases z),(λ_=>⟨rfl,λq hq=>absurd hq (by omega)⟩),rfl⟩
 . rintro p d σ s' hd ⟨V',mv',v7,v8,v9,v10,v11,v12,v13,v14,v15,lv',ht,hm,hf,rfl⟩
   have hp:p<R.length:=by
     have:=(su.mp hd).1;simpa using this
   have ed:d=kn (rowAt R p):=by
     rw[tU,tQ hp]at hd;unfold rowAt;rw[qj hp,tQ hp];exact(Option.some.inj hd).symm
   subst ed;refine⟨[v0,v1,some (.ref rw),v3,some (.ref vl),v5,some (.bl mv'),some (.int p),some (.str (rowAt R p).src.1),some (.str (rowAt R p).tgt.1),some (.tup ((rowAt R p).A.map aD)),v11,v12,v13,v14,v15],rfl,?_⟩;rw[← hB]
   refine zrK lv' ft hp hn λs2 V2 mv2 v11 v12 v13 v14 v15 lv2 ht2 hm2 hf2=>⟨V2,mv2,_,_,_,_,_,_,_,_,_,lv2,rN ht ht2,λz=>?_,λz=>?_,rfl⟩
   . rcases hm2 z with h | h
     . exact oO (hm h) ht2
     . exact Nat.lt_of_le_of_lt ht h
   . obtain⟨z1,rfl,z2⟩:=hf2 z;obtain⟨rfl,z4⟩:=hf z1;refine⟨rfl,λq hq=>?_⟩;by_cases h:q=p
     . subst h;exact z2
     . exact z4 q (by omega)
 . rintro σ s' ⟨V',mv',v7,v8,v9,v10,v11,v12,v13,v14,v15,lv',ht,hm,hf,rfl⟩;refine hQ s' V' mv' _ _ _ _ _ _ _ _ _ lv' hm λz=>?_;obtain⟨z1,z2⟩:=hf z;exact⟨z1,λq hq=>z2 q (by simpa using hq)⟩
end
end PR
namespace PR
open PySem Fc P1 P85 PB PC P31 P21
open PW (mOf Gd Arcs)
open P20 (yt)
section
variable{s s':S}{X:Xc}{Q:D->S->Prop}{p m k n:Nat}{hs:List (Str×Nat)}{l R:List Rw}
def zjd(R:List Rw)(V:Vl):List D:=(List.range R.length).map λp=>.tup (cell (rowAt R p) (V p))
theorem zld(h:PA s p m k hs l)(gd:Gd hs l)(hn:s[n]?=some (.lst (R.map λq=>.str q.nm)))(hR:∀ q∈R,q∈l)(hne:R≠[])(hl:R.length<1000)(ft:Fits R)(hM:hf (mR R)=false)
   (hQ:∀ s' r V,Pf s s'->s'[r]?=some (.lst (zjd R V))->(∀ p,p<R.length->NoMore R V p)->Wks R V->s.length<=r->Q (.ref r) s'):wE (d_least_values [.ref p,.ref n] s) Q X:=by
 unfold d_least_values;refine(yD (by rfl)).mpr ?_;rw[zma];generalize hW:zE (zQ (eC (.bl true)) (gName 6)) _=Wh;generalize hV:eLc [5] (yG .seq (zf 2)) (gName 5) tYes (e2 jN _ _)=LV;have hlen:0<R.length:=rW.mpr hne
 have fk:∀ s',Pf s s'->zhw s' (.ref p) "known"=some (.ref k):=λs' q=>by rw[jZ (q _ _ h.at_)];rfl
 have fm:∀ s',Pf s s'->zhw s' (.ref p) "many"=some (.ref m):=λs' q=>by rw[jZ (q _ _ h.at_)];rfl
 simp;rw[yt hn,zK];dsimp only;refine uG (λd=>match d with | .str x=>kget (kvP l) (.inr x) | _=>none) hn (by simp;omega) (λd hd s2 p2=>?_) λs2 p2 h2=>?_
 . obtain⟨q,hq,rfl⟩:=tM.mp hd;refine⟨_,rfl,?_⟩;have at1:=zlG (h.pf p2) gd (hR q hq);simp[Fc.wipe,fk s2 p2,at1];exact⟨Pf.refl,wM gd.nl (hR q hq)⟩
 . have e:((R.map λq=>D.str q.nm).filterMap λd=>match d with | .str x=>kget (kvP l) (.inr x) | _=>none)=R.map kn:=by
     rw[List.filterMap_map]
     clear hn hne hl ft hM hlen h2 hQ
     induction R with
     | nil=>rfl
     | cons q R ih =>
      rw[rD,tK,ih λy hy=>hR y (tV _ hy)];have:=wM gd.nl (hR q (tH));simp only[Function.comp,this];rfl
   rw[e]at h2;rw[← hV];simp;rw[yt h2,zK];dsimp only;have l2:=zq h2;refine zqd (c:=zeros hs) h2 (by simp;omega) (λd hd s3 p3 lt3=>?_) λs4 as p4 h4 hc nd hgt=>?_
   . obtain⟨q,hq,rfl⟩:=tM.mp hd;refine⟨_,rfl,?_⟩;have hx:=(gd.wd.ln q (hR q hq)).2.2.1;have a0:∀ s,atD s (kn q) (.int 0)=some (.str q.src.1):=λs=>rfl;have p5:Pf s3 (s3++[O.lst [.int 0]]):=Pf.app;have p25:=p2.trans (p3.trans p5);have am:=zog (h.pf p25) gd hx;have h4':=(gd.wd.hn _ hx).2.2;simp[Fc.wipe,fm _ p25,a0,am];refine(zpZ (k:=q.src.2) zH (by omega)).mpr ?_;refine⟨p5.trans Pf.app,_,rfl,?_,by simp⟩;rw[zH];show some (O.lst _)=some (O.lst (List.replicate (szO hs q.src.1) (.int 0)));rw[znS gd hx]
   . have lv:Lv s s4 R as (λ_ _=>0) s.length s2.length:=by
      have hcl:as.length=R.length:=by rw[hc.1];simp
      refine⟨hcl,λp' a ha=>?_,ztU,nd,p4 _ _ h2,h4,p2.trans p4,λz=>?_,λz=>?_,λa ha=>?_⟩
      . have hp':p'<R.length:=by
          have:=(su.mp ha).1;omega
        have e1:=hc.2 p' a (kn (rowAt R p')) ha (by
          rw[tU,tQ hp'];unfold rowAt;rw[qj hp',tQ hp']
          rfl)
        rw[e1]
        have hm:rowAt R p'∈l:=by
          unfold rowAt;rw[qj hp',tQ hp'];exact hR _ (rM hp')
        have hx:=(gd.wd.ln _ hm).2.2.1;show some (O.lst (List.replicate (szO hs (rowAt R p').src.1) (.int 0)))=_;rw[znS gd hx];unfold cell;congr 2;refine ph λi=>?_;rw[oF,tU];by_cases hi:i<(rowAt R p').src.2
        . rw[if_pos hi,qF hi];rfl
        . rw[if_neg hi,qT (by simpa using hi)];rfl
      . have:=hgt _ z;omega
      . have:=hgt _ z;omega
      . have:=hgt a ha;omega
     rw[← hW];generalize hD:LD=Ld;generalize hE:eLc [5] (yG .seq (zf 4)) (gName 5) tYes (eN fTuple _)=LE;simp
     have h3:∀ p',In3 (rowAt R p').A:=λp' a ha=>by
      have hm:rowAt R p'∈l:=by
        have hp':p'%R.length<R.length:=rF _ hlen;unfold rowAt;rw[tQ hp'];exact hR _ (rM hp')
      exact zqK gd _ hm a ha
     refine zbH (λn' σ s'=>∃(V:Vl) (mv:Bool) (v7 v8 v9 v10 v11 v12 v13 v14 v15:Option D),Lv s s' R as V s.length s2.length/\(mv=true->3*R.length*(3*R.length)+1<=tot R.length V+n')/\(mv=false->∀ p,p<R.length->NoMore R V p)/\σ=[some (.ref p),some (.ref n),some (.ref s.length),none,some (.ref s2.length),none,some (.bl mv),v7,v8,v9,v10,v11,v12,v13,v14,v15]) (3*R.length*(3*R.length)+1) ⟨_,true,none,none,none,none,none,none,none,none,none,lv,(λ_=>by omega),(λz=>by cases z),rfl⟩ ?_;rintro n' σ s5 ⟨V,mv,v7,v8,v9,v10,v11,v12,v13,v14,v15,lv5,hm,hf,rfl⟩;simp
     cases mv with
     | true =>
      rw[if_pos rfl];have hb:=zsd lv5.wk hlen h3 hM;have hm:=hm rfl;refine⟨n' - 1,by omega,?_⟩;rw[← hD]
      refine zrL lv5 ft hlen hl λs6 V' mv' v7 v8 v9 v10 v11 v12 v13 v14 v15 lv6 hm' hf'=>⟨V',lv6,?_⟩
      cases mv' with
      | false=>exact .inl ⟨by obtain⟨rfl,z⟩:=hf' rfl;exact z,_,_,_,_,_,_,_,_,_,rfl⟩
      | true =>
        have:=hm' rfl;exact .inr ⟨by omega,_,_,_,_,_,_,_,_,_,rfl⟩
     | false =>
      rw[if_neg (by simp),← hE];simp;rw[yt lv5.vals,zK];dsimp only
      have hcl:as.length=R.length:=by rw[hc.1];simp
      refine uG (λd=>match d with | .ref a=>(yu s5 a).map D.tup | _=>none) lv5.vals (by simp;omega) (λd hd s6 p6=>?_) λs6 p6 h6=>hQ s6 _ V (lv5.old.trans p6) ?_ (hf rfl) lv5.wk (lv5.old.fr (g:=0)).1
      rotate_left
      . rw[h6]
        have key:((as.map D.ref).filterMap λd=>match d with | .ref a=>(yu s5 a).map D.tup | _=>none)=zjd R V:=by
          have e1:∀(f:Nat->Option D) (bs:List Nat),(bs.map D.ref).filterMap (λd=>match d with | .ref a=>(yu s5 a).map D.tup | _=>none)=bs.filterMap λa=>(yu s5 a).map D.tup:=λ_ bs=>by
           rw[List.filterMap_map];rfl
          rw[e1 (λ_=>none)]
          have e2:as.filterMap (λa=>(yu s5 a).map D.tup)=(List.range as.length).map λj=>D.tup (cell (rowAt R j) (V j)):=by
           have e3:∀(bs:List Nat) (f:Nat->D),(∀(j a:Nat),bs[j]?=some a->(yu s5 a).map D.tup=some (f j))->bs.filterMap (λa=>(yu s5 a).map D.tup)=(List.range bs.length).map f:=by
            intro bs
            induction bs with
            | nil=>intro f _;rfl
            | cons b bs ih =>
             intro f hf;rw[rD,hf 0 b rfl,ih (λj=>f (j+1)) λj a hj=>hf (j+1) a hj,rG,List.range_succ_eq_map,tK,sO];rfl
           exact e3 as _ λj a hj=>by rw[zV (lv5.cells j a hj)];rfl
          rw[e2,hcl];rfl
        rw[key]
      obtain⟨a,ha,rfl⟩:=tM.mp hd;refine⟨_,rfl,?_⟩;obtain⟨j,hj⟩:=oG.mp ha;have e5:=lv5.cells j a hj;simp[Fc.wipe];rw[zV (p6 _ _ e5),zK];exact⟨Pf.refl,Pf.refl,zV e5⟩
theorem zlc(h:PA s p m k hs l)(gd:Gd hs l)(hn:s[n]?=some (.lst (R.map λq=>.str q.nm)))(hR:∀ q∈R,q∈l)(hne:R≠[])(hl:R.length<1000)(ft:Fits R)(hM:hf (mR R)=false)
  (hQ:∀ s' r V,Pf s s'->s'[r]?=some (.lst (zjd R V))->(∀ p,p<R.length->NoMore R V p)->Q (.ref r) s'):wE (d_least_values [.ref p,.ref n] s) Q X :=
 zld h gd hn hR hne hl ft hM λs' r V a b c _ _=>hQ s' r V a b c
end
section
variable{s s':S}{X:Xc}{Q:D->S->Prop}{P:Pst}{p m k n lo a:Nat}{hs:List (Str×Nat)}{l R:List Rw}{L:List Tb}{as:List Nat}{v1 v3 v4 v5:Option D}
def RgV(s:S)(l:List Rw)(d:D):Prop:=d=.non\/∃(a r:Nat) (R:List Rw) (V:Vl),d=.tup [.ref a,.ref r]/\Ring l R/\s[a]?=some (.lst (R.map λq=>.str q.nm))/\s[r]?=some (.lst (zjd R V))/\∀ p,p<R.length->NoMore R V p
theorem zrQ(h:PA s p m k hs l)(gd:Gd hs l)(hlo:s[lo]?=some (.lst (as.map .ref)))(hg:∀ b∈as,PR.Gr s l b)(hl:as.length<1000)(ha:a∈as)
   (hQ:∀ s' d,Pf s s'->RgV s' l d->P.rt d s'):wC (R5 [some (.ref p),v1,some (.ref lo),v3,some (.ref a),v5] s) P:=by
 unfold R5;obtain⟨Ra,ra,hRa⟩:=hg a ha
 have la:∀ s',Pf s s'->zfQ s' (.ref a)=some Ra.length:=λs' q=>by rw[vo (q _ _ hRa)];simp
 generalize hE:ye _=RE;simp;rw[yt hlo,zK];dsimp only;refine uG (zrB s Ra.length) hlo (by simp;omega) (λd hd s2 p2=>?_) λs2 p2 h2=>?_
 . obtain⟨b,hb,rfl⟩:=tM.mp hd;obtain⟨Rb,rb,hRb⟩:=hg b hb;refine⟨_,rfl,?_⟩
   have lb:zfQ s2 (.ref b)=some Rb.length:=by rw[vo (p2 _ _ hRb)];simp
   have el:yu s b=some (Rb.map λq=>D.str q.nm):=zV hRb;simp[Fc.wipe,lb,la s2 p2,wL,zrB,el];by_cases hz:Rb.length=Ra.length
   . simp[hz,Pf.refl]
   . have:¬ ((Rb.length:Int)=(Ra.length:Int)):=by omega
     simp[hz,Pf.refl,this]
 . have key:∃ bs:List Nat,((as.map D.ref).filterMap (zrB s Ra.length))=bs.map D.ref/\(∀ b∈bs,b∈as)/\a∈bs/\bs.length<=as.length:=by
     refine⟨as.filter λb=>match yu s b with | some ds=>decide (ds.length=Ra.length) | none=>false,?_,λb hb=>(qX.mp hb).1,qX.mpr ⟨ha,?_⟩,List.length_filter_le ..⟩
     . clear ha hl hlo hg h2
       induction as with
       | nil=>rfl
       | cons b as ih =>
        rw[tK,rD,ih,qH]
        cases hb:yu s b with
        | none=>simp[zrB,hb]
        | some ds =>
         by_cases hz:ds.length=Ra.length <;> simp[zrB,hb,hz]
     . rw[zV hRa];simp
   obtain⟨bs,e1,e2,e3,e4⟩:=key;rw[e1]at h2;have hg2:∀ b∈bs,PR.Gr s2 l b:=λb hb=>(hg b (e2 b hb)).pf p2
   have eS:yX [.ref s.length] s2=new (.lst (zbB s2 (bs.map .ref))) s2:=by
     unfold yX;simp only[h2,zpE gd hg2 (by omega),if_true]
   rw[eS,zna];have pm:(zbB s2 (bs.map .ref)).Perm (bs.map D.ref):=oh _ _;have p3:Pf s2 (s2++[O.lst (zbB s2 (bs.map .ref))]):=Pf.app;have g3:=zH (s:=s2) (o:=O.lst (zbB s2 (bs.map .ref)));generalize hS:zbB s2 (bs.map D.ref)=T at *
   cases T with
   | nil =>
     have:=pm.length_eq;have hb:=List.length_pos_of_mem e3;simp at this;omega
   | cons d T =>
     obtain⟨b,hb,rfl⟩:=tM.mp (pm.mem_iff.mp (tH))
     have a0:atD (s2++[O.lst (D.ref b::T)]) (.ref s2.length) (.int 0)=some (.ref b):=by rw[yO g3,show(0:Int)=((0:Nat):Int)from rfl,atI_nat];rfl
     rw[a0,zK,← hE];simp;obtain⟨Rb,rb,hRb⟩:=(hg2 b hb).pf p3;obtain⟨ft,hM⟩:=rb.data gd;have p23:=p2.trans p3;refine zlc (h.pf p23) gd hRb rb.sub rb.ne rb.len ft hM λs4 r V p4 hr hV=>?_;exact hQ _ _ (p23.trans p4) (.inr ⟨b,r,Rb,V,rfl,rb,p4 _ _ hRb,hr,hV⟩)
theorem zrP(h:PA s p m k hs l)(gd:Gd hs l)(hlo:s[lo]?=some (.lst (as.map .ref)))(hg:∀ b∈as,PR.Gr s l b)(hl:as.length<1000)
   (hQ:∀ s' d,Pf s s'->RgV s' l d->P.rt d s'):wC (R3 [some (.ref p),v1,some (.ref lo),v3,v4,v5] s) P:=by
 unfold R3;generalize hE:R4=RE;simp;have p1:Pf s (s++[O.lst []]):=Pf.app;rw[zor gd (λa ha=>(hg a ha).pf p1) (p1 _ _ hlo) zH,zK];have h1:=h.pf p1;have hlo1:=p1 _ _ hlo;have hg1:∀ b∈as,PR.Gr (s++[O.lst []]) l b:=λa ha=>(hg a ha).pf p1;generalize s++[O.lst []]=s1 at *
 by_cases hz:as=[]
 . rw[decide_eq_true hz,yI];exact hQ _ _ p1 (.inl rfl)
 . rw[decide_eq_false hz,zgC,← hE];unfold R4;generalize hE:R5=RE;obtain⟨ks,e1,e2⟩:=zkb hg1;have hpos:=rW.mpr hz
   have hix:zgn ks<as.length:=by
    have:=(jD (kf:=λi=>ks.getD i 0) (ks.length - 1) 0 (rJ _)).2;unfold zgn;omega
   simp;refine zss (d:=.ref as[zgn ks]) hlo1 e1 (by rw[tU,tQ hix];rfl) ?_;rw[← hE];exact zrQ h1 gd hlo1 hg1 hl (rM hix) λs' d q hd=>hQ _ _ (p1.trans q) hd
theorem zmK{x:Option Str}(h:PA s p m k hs l)(gd:Gd hs l)(hL:Few (l.map tbR) L)(hx:∀ y,x=some y->∃ z∈hs,z.1=y)(hQ:∀ s' d,Pf s s'->RgV s' l d->Q d s'):wE (P33.d_ring [.ref p,stD x] s) Q X:=by
 unfold P33.d_ring;refine(yD (by rfl)).mpr ?_;rw[zpA];generalize hR:R2=Rt;simp;refine P85.zdI h.at_ ?_;unfold d_check_begin;refine(yD (by rfl)).mpr ?_;unfold b_check_begin
 have main:∀(s0:S),s0=s->wC (Rt [some (.ref p),some (stD x),some (.ref s0.length),none,none,none] (s0++[.lst []])) { nx:=λ_ s'=>Q .non s',rt:=Q,xc:=X }:=by
  rintro s0 rfl;rw[← hR];unfold R2;generalize hE:R3=RE;generalize hB:RL=Bd;simp;have p0:Pf s0 (s0++[O.lst []]):=Pf.app;have h0:=h.pf p0;have g0:(s0++[O.lst []])[s0.length]?=some (.lst (([]:List Nat).map .ref)):=zH
  have l0:s0.length<(s0++[O.lst []]).length:=by simp
  generalize s0++[O.lst []]=s1 at *;generalize hlo:s0.length=lo at *;refine zfC h0 gd hL λs2 n r p2 ht hle=>?_;have rows:=zmV gd ht;obtain⟨kvs,B,lo',hn,hk⟩:=ht.at_;have cn:=zjp gd
  have src:zkn s2 zcZ (.ref n)=some (.dict n (kvs.map zcZ)):=by
    simp only[zkn,zbi hn,sE]
  rw[src,zK];dsimp only;refine zgY hn (λ_=>by simp) ?_
  have hx2:∀ y,x=some y->okS y:=λy e=>by
    obtain⟨z,hz,rfl⟩:=hx y e;exact(gd.wd.hn z hz).1.okS
  have hlo2:=p2 _ _ g0
  have nlo:n≠lo:=by omega
  have ln:=zq hn
  have hkl:kvs.length<=400:=by
    have e:=congrArg List.length hk.keys;simp only[rA]at e;rw[e];exact rN (P1.jJ ht.nd λt hm=>(hL.2.2 t).mp ((ht.mem t).mp hm)) hL.2.1
  have hrl:r.length<=400:=by
    have e:=congrArg List.length hk.keys;simp only[rA,ky]at e;omega
  refine yP (λ(rr:List D) (σ:Fc.Env) (s':S)=>∃(post:List (D×D)) (as:List Nat) (v3 v4:Option D),rr=post.map zcZ/\(∀ kv∈post,kv∈kvs)/\Fr lo (s2.set n (.lck (.dN kvs))) s'/\s'[lo]?=some (.lst (as.map .ref))/\(∀ b∈as,b≠lo/\b≠n/\PR.Gr s2 l b)/\as.length+post.length<=kvs.length/\σ=[some (.ref p),some (stD x),some (.ref lo),v3,v4,none]) _ ⟨kvs,[],none,none,rfl,λkv hkv=>hkv,Fr.refl,by rw[zJ nlo];exact hlo2,(λb hb=>by cases hb),by simp,rfl⟩ ?_ ?_
  . rintro d rr σ s' ⟨post,as,v3,v4,er,hp,fr,hl',hg,hlen,rfl⟩
    cases post with
    | nil=>cases er
    | cons kv post =>
     rw[tK,List.cons.injEq]at er;obtain⟨rfl,rfl⟩:=er;obtain⟨y,hy,e1,a,e2,e3⟩:=znr hk kv (hp kv (tH));obtain⟨⟨R,r1,r2,r3,r4,r5⟩,r6⟩:=rows y hy;have ct:Cn y.1:=((ht.mem y.1).mp (tM.mpr ⟨y,hy,rfl⟩)).cn cn;refine⟨[some (.ref p),some (stD x),some (.ref lo),some (PC.tD y.1),some (.ref a),none],?_,?_⟩
     . unfold zcZ;rw[e1,e2];rfl
     rw[← hB];simp only[rG]at hlen
     refine ztA ct hx2 hl' (by omega) λs3 as' f3 h3 ha'=>⟨post,as',_,_,rfl,λz hz=>hp z (tV _ hz),fr.trans f3,h3,λb hb=>?_,?_,rfl⟩
     . rcases ha' with rfl | ⟨hgo,rfl⟩
       . exact hg b hb
       . rcases tZ.mp hb with hb | hb
         . exact hg b hb
         . simp only[sS]at hb;subst hb
           have hRR:s2[b]?=some (.lst (R.map λq=>D.str q.nm)):=by
             rw[e3,r4,sO];rfl
           refine⟨λz=>?_,λz=>?_,R,⟨r1,r2,r3,by rw[r5];exact hgo,?_⟩,hRR⟩
           . rw[z,hlo2]at hRR
             cases R with
             | nil=>exact r1 rfl
             | cons q R=>cases hRR
           . rw[z,hn]at hRR;cases hRR
           . have:R.length=y.2.length:=by rw[r4];simp
             omega
     . rcases ha' with rfl | ⟨_,rfl⟩
       . omega
       . simp;omega
  . rintro σ s' ⟨post,as,v3,v4,er,hp,fr,hl',hg,hlen,rfl⟩
    have up:∀(i:Nat) (o:O),i≠lo->s2[i]?=some o->(s'.set n (.dN kvs))[i]?=some o:=λi o hi e=>by
     by_cases hin:i=n
     . subst hin;rw[hn]at e;cases e
       have lt:i<s'.length:=by
         have:=fr.1;simp at this;omega
       exact sY lt
     . rw[zJ (λz=>hin z.symm)];exact fr.2 i hi o (by rw[zJ (λz=>hin z.symm)];exact e)
    have q:Pf s0 (s'.set n (.dN kvs)):=λi o e=>up i o (by have:=zq e;omega) (p2 _ _ (p0 _ _ e));rw[← hE];refine zrP (as:=as) (h.pf q) gd (by rw[zJ nlo];exact hl') (λb hb=>?_) (by omega) λs4 d q4 hd=>hQ s4 d (q.trans q4) hd;obtain⟨b1,b2,R,b3,b4⟩:=hg b hb;exact⟨R,b3,up b _ b1 b4⟩
 cases x with
 | none =>
  have e0:isNon (stD none)=true:=rfl;simp[e0];exact main s rfl
 | some y =>
  obtain⟨z,hz,rfl⟩:=hx y rfl;have e0:isNon (stD (some z.1))=false:=rfl;simp[e0];refine P85.zcO h gd.nd hz ?_;exact main s rfl
end
end PR
namespace P84
open PySem Fc P1 P85 PB
open PW (zcL Gd Arcs Wd ct)
def Ry(k B:Nat)(s:S)(d:D):Prop:=∃ x:PyData,(∀ s',Pf s s'->∀ n,uI s' (n+k) d=some x)/\x.showable=true/\x.leavesShort 60=true/\x.bulk<=B/\okS x.shown
section
variable{s s':S}{d:D}{k B:Nat}
theorem zry{i:Int}(h:i.natAbs<10 ^ 58):Ry 2 0 s (.int i):=by
 refine⟨.int i,λs' _ n=>by simp only[uI],?_,?_,by simp only[PyData.bulk];omega,zcr _ rfl⟩
 . simp only[PyData.showable];refine decide_eq_true ?_;by_cases h0:i.natAbs=0
   . rw[h0];decide
   . have:=(Nat.log2_lt h0 (k:=1920)).mpr (oO h (by decide +kernel));exact this
 . simp only[PyData.leavesShort];refine decide_eq_true ?_;have e:=int_text_length_le10 (k:=58) (by decide) h;show(Str.ofString (toString i)).length<=60;rw[ofString_length];omega
theorem zrz:Ry 2 0 s .non:=⟨.none,λs' _ n=>by simp only[uI],rfl,rfl,by simp only[PyData.bulk];omega,zcr _ rfl⟩
theorem rys:∀{ds:List D},(∀ d∈ds,Ry k B s d)->∃ xs:List PyData,(∀ s',Pf s s'->∀ n,uh s' (n+k) ds=some xs)/\PyData.showableAll xs=true/\PyData.leavesShortAll 60 xs=true/\PyData.bulkAll xs<=(B+1)*ds.length/\(∀ t∈PyData.shownAll xs,okS t)/\xs.length=ds.length
 | [],_=>⟨[],λs' _ n=>by simp only[uh],rfl,rfl,by simp[PyData.bulkAll],λt h=>by simp only[PyData.shownAll,rK]at h,rfl⟩
 | d::ds,h=>by
  obtain⟨x,h1,h2,h3,h4,h5⟩:=h d (tH);obtain⟨xs,k1,k2,k3,k4,k5,k6⟩:=rys λd hd=>h d (tV _ hd);refine⟨x::xs,λs' p n=>by simp only[uh,h1 s' p n,k1 s' p n],?_,?_,?_,?_,by simp[k6]⟩
  . simp only[PyData.showableAll,h2,k2,rC]
  . simp only[PyData.leavesShortAll,h3,k3,rC]
  . simp only[PyData.bulkAll,rG,Nat.mul_succ];omega
  . intro t ht;simp only[PyData.shownAll,tR]at ht
    rcases ht with rfl | ht
    . exact h5
    . exact k5 t ht
theorem znK{n:Nat}{ds:List D}(hn:s[n]?=some (.lst ds))(h:∀ d∈ds,Ry k B s d):Ry (k+1) ((B+1)*ds.length) s (.ref n):=by
 obtain⟨xs,h1,h2,h3,h4,h5,_⟩:=rys h;refine⟨.list xs,λs' p m=>?_,by simpa only[PyData.showable]using h2,by simpa only[PyData.leavesShort]using h3,by simpa only[PyData.bulk]using h4,?_⟩
 . rw[show m+(k+1)=(m+k)+1 by omega];simp only[uI,p _ _ hn,h1 s' p m,sE]
 . simp only[PyData.shown];exact zhT h5
theorem zrA{x:PyData}(h:uI s 60 d=some x)(h2:x.showable=true)(h3:x.leavesShort 60=true)(h4:x.bulk<=200000)(h5:okS x.shown):Rp s d x.shown:=by
 refine⟨⟨x,h,h2,?_,rfl⟩,xT.mpr h5⟩;have:=PyData.shown_le_bulk 60 (by omega) x h3;exact decide_eq_true (by omega)
end
def stT(v:List Int)(f:List (Option Int))(a:Arc):List (Option Int):=f.set a.2.1 (some (mn (f[a.2.1]?.join) (tp v a)))
def tops(n:Nat)(v:List Int)(A:List Arc):List (Option Int):=A.foldl (stT v) (List.replicate n none)
theorem xK{n:Nat}{v:List Int}{A:List Arc}:(tops n v A).length=n:=by
 unfold tops
 have:∀(A:List Arc) (f:List (Option Int)),(A.foldl (stT v) f).length=f.length:=by
  intro A
  induction A with
  | nil=>intro f;rfl
  | cons a A ih=>intro f;rw[sW,ih];simp[stT]
 rw[this];simp
theorem ziq{n:Nat}{v:List Int}{A:List Arc}{a:Arc}{f:List (Option Int)}{o:Option Int}(h:f=tops n v A)(g:f[a.2.1]?=some o):f.set a.2.1 (some (mn o (tp v a)))=tops n v (A++[a]):=by
 unfold tops at *;rw[qw,← h];show _=stT v f a;unfold stT;rw[g];rfl
theorem jC{n:Nat}{v:List Int}{A:List Arc}{M:Int}(hM:0<=M)(hv:∀ z∈v,0<=z/\z<=M):∀ o∈tops n v A,∀ i,o=some i->-1<=i/\i<=M:=by
 have tb:∀ a:Arc,-1<=tp v a/\tp v a<=M:=by
  intro a;unfold tp;by_cases h:a.1<v.length
  . rw[sU,tQ h];have:=hv _ (rM h);simp only[Option.getD_some];split <;> omega
  . rw[sU,qT (by omega)];simp only[Option.getD_none];split <;> omega
 have key:∀(A:List Arc) (f:List (Option Int)),(∀ o∈f,∀ i,o=some i->-1<=i/\i<=M)->∀ o∈A.foldl (stT v) f,∀ i,o=some i->-1<=i/\i<=M:=by
  intro A
  induction A with
  | nil=>intro f h;exact h
  | cons a A ih =>
    intro f h;rw[sW];refine ih _ λo ho i hi=>?_
    rcases List.mem_or_eq_of_mem_set ho with ho | ho
    . exact h o ho i hi
    . rw[ho]at hi
      injection hi with hi
      have t:=tb a
      cases hj:f[a.2.1]? with
      | none=>rw[hj]at hi;simp[mn]at hi;omega
      | some o2 =>
       rw[hj]at hi
       cases o2 with
       | none=>simp[mn]at hi;omega
       | some j =>
        have:=h _ (rH hj) j rfl;simp[mn]at hi;omega
 refine key A _ λo ho i hi=>?_;have:=List.eq_of_mem_replicate ho;rw[this]at hi;cases hi
theorem zaN{n:Nat}{v:List Int}{A:List Arc}(hA:∀ a∈A,a.2.1<n):(tops n v A).any ngo=A.any (neg v):=by
 have key:∀(A:List Arc) (f:List (Option Int)),(∀ a∈A,a.2.1<f.length)->(A.foldl (stT v) f).any ngo=(f.any ngo||A.any (neg v)):=by
  intro A
  induction A with
  | nil=>intro f _;simp
  | cons a A ih =>
   intro f h;rw[sW,ih _ λb hb=>by simpa[stT]using h b (tV _ hb)];have hj:=h a (tH);have gj:f[a.2.1]?=some f[a.2.1]:=tQ hj;unfold stT;rw[gj];show((f.set a.2.1 (some (mn f[a.2.1] (tp v a)))).any ngo||_)=_;rw[any_put gj,qD,Bool.or_assoc];rfl
 unfold tops;rw[key A _ λa ha=>by simpa using hA a ha];simp[ngo]
section
variable{s s':S}{hs:List (Str×Nat)}{X:Xc}{Q:D->S->Prop}{k:Nat}{l:List Rw}
theorem zgM{m2:Nat}{v:List Int}{y:Rw}(hh:Hl hs)(nd:(hs.map (·.1)).Nodup)(hm:s[m2]?=some (.dK (mvH hs)))(hv:v.length=y.src.2)(hy:Cl hs l y)(ha:s[y.a]?=some (.lst (y.A.map aD)))
   (hQ1:y.A.any (neg v)=true->∀ s',Pf s s'->Q .non s') (hQ2:y.A.any (neg v)=false->∀ s' n,Pf s s'->s'[n]?=some (.lst ((tops y.tgt.2 v y.A).map oD))->s.length<=n->Q (.ref n) s'):wE (d_law_most [rwD y,.ref m2,vD v] s) Q X:=by
 unfold d_law_most;refine(yD (by rfl)).mpr ?_;unfold b_law_most;have ht:=(hh _ hy.tgt).2.2.2;have f1:=Pf.app (s:=s) (t:=[.lst [.non]]);simp[rwD,(zaA (f1 _ _ hm) nd hy.tgt).1];refine(zpZ (k:=y.tgt.2) zH (by omega)).mpr ?_;have f2:Pf s ((s++[O.lst [.non]])++[.lst (List.replicate y.tgt.2 .non)]):=f1.trans Pf.app
 have e2:((s++[O.lst [.non]])++[O.lst (List.replicate y.tgt.2 D.non)])[(s++[O.lst [.non]]).length]?=some (.lst ((List.replicate y.tgt.2 (none:Option Int)).map oD)):=by
   rw[List.map_replicate];exact zH
 have ll:s.length<(s++[O.lst [.non]]).length:=by simp
 generalize (s++[O.lst [.non]])++[O.lst (List.replicate y.tgt.2 .non)]=s2 at *;generalize (s++[O.lst [.non]]).length=L at *;simp[srcOf,f2 _ _ ha];rw[show y.A.length=(y.A.map aD).length by simp]
 refine vP (n:=y.a) (ds:=y.A.map aD) (λr' σ s'=>∃(A B:List Arc) (f:List (Option Int)) (b4 b5 b6 b7:Option D),y.A=A++B/\r'=B.map aD/\Pf s s'/\s'[L]?=some (.lst (f.map oD))/\f=tops y.tgt.2 v A/\A.any (neg v)=false/\σ=[some (.tup [.str y.nm,.str y.src.1,.str y.tgt.1,.ref y.a]),some (.ref m2),some (vD v),some (.ref L),b4,b5,b6,b7])
   (λr' σ s' ⟨_,_,_,_,_,_,_,_,_,f,_⟩=>f _ _ ha) ?_ ?_ _ 0 (by simp) ⟨[],y.A,_,none,none,none,none,rfl,by simp,f2,e2,rfl,rfl,rfl⟩
 . rintro d r' σ s3 ⟨A,B,f,b4,b5,b6,b7,eA,er,f3,e3,lf,hA,rfl⟩
   match B,er with
   | a::B,er =>
    rw[tK,List.cons.injEq]at er;obtain⟨rfl,rfl⟩:=er;have hb:=hy.arcs a (by rw[eA];simp);refine⟨_,rfl,?_⟩
    obtain⟨w,hw⟩:∃ w,w=v.getD a.1 0:=⟨_,rfl⟩
    have ev:=zsx (show a.1<v.length by omega);rw[← hw]at ev
    have et:tp v a=w - (if a.2.2=true then 1 else 0):=by rw[tp,hw]
    simp[vD,ev,-List.map_set];refine xX (λhc=>?_) λhc=>?_
    . refine hQ1 ?_ _ f3;rw[eA,List.any_append,qD]
      have:neg v a=true:=by
       unfold neg;rw[et];simpa using hc
      rw[this];simp
    . have ng:neg v a=false:=by
       unfold neg;rw[et];simpa using hc
      have lf':f.length=y.tgt.2:=by rw[lf];exact xK
      have hj:a.2.1<f.length:=by omega
      have gj:f[a.2.1]?=some f[a.2.1]:=tQ hj;generalize f[a.2.1]=o at gj;simp[ztW e3 gj,-List.map_set]
      have key:∃(A' B':List Arc) (f':List (Option Int)),y.A=A'++B'/\B.map aD=B'.map aD/\Pf s (s3.set L (.lst ((f.set a.2.1 (some (mn o (tp v a)))).map oD)))/\(s3.set L (.lst ((f.set a.2.1 (some (mn o (tp v a)))).map oD)))[L]?=some (.lst (f'.map oD))/\f'=tops y.tgt.2 v A'/\(∀ b∈A',neg v b=false):=by
       refine⟨A++[a],B,f.set a.2.1 (some (mn o (tp v a))),by simp[eA],rfl,λw o' e=>?_,yM (zq e3),ziq lf gj,?_⟩
       . have:=zq e;rw[zJ (by omega)];exact f3 _ _ e
       . intro b hb
         rcases tZ.mp hb with hb | hb
         . have:=qK.mp hA b hb;simpa using this
         . simp only[tR,rK,or_false]at hb;subst hb;exact ng
      rw[et]at key;obtain⟨A',B',f',k1,k2,k3,k4,k5,k6⟩:=key
      have k7:A'.any (neg v)=false:=qK.mpr λb hb=>by simp[k6 b hb]
      cases o with
      | none =>
       simp[oD,zmj e3 hj,-List.map_set,-List.any_eq_false];exact⟨A',B',k1,k2,k3,f',k4,k5,by simpa using k7⟩
      | some u =>
       simp[oD,zmj e3 hj,-List.map_set,-List.any_eq_false];exact⟨A',B',k1,k2,k3,f',k4,k5,by simpa using k7⟩
 . rintro σ s3 ⟨A,B,f,b4,b5,b6,b7,eA,er,f3,e3,lf,hA,rfl⟩
   have hB:B=[]:=by
    match B,er with
    | [],_=>rfl
   subst hB;rw[sJ]at eA;subst eA;simp;exact hQ2 hA _ _ f3 (by rw[← lf];exact e3) (by omega)
end
def okA(v w:List Int)(a:Arc):Bool:=!(decide (v.getD a.1 0<w.getD a.2.1 0)||(a.2.2&&decide (w.getD a.2.1 0=v.getD a.1 0)))
def kpt(v w:List Int)(A:List Arc):Bool:=A.all (okA v w)
theorem zlZ{v w:List Int}{A:List Arc}{a:Arc}:kpt v w (A++[a])=(kpt v w A&&okA v w a):=by simp[kpt]
section
variable{s s':S}{hs:List (Str×Nat)}{X:Xc}{Q:D->S->Prop}{p m k r q:Nat}{l:List Rw}{pl:List D}{n d:D}{x:Str×Nat}{v w:List Int}{y:Rw}
theorem zij{A:List Arc}(hA:∀ a∈A,a.1<v.length/\a.2.1<w.length)(hQ:∀ s',Pf s s'->Q (.bl (kpt v w A)) s'):wE (d_keeps [.tup (A.map aD),vD v,vD w] s) Q X:=by
 unfold d_keeps;refine(yD (by rfl)).mpr ?_;unfold b_keeps;refine xm.mpr (zmX.mpr ?_);simp[srcOf];refine yP (λr' σ s'=>∃(B C:List Arc) (b3 b4 b5:Option D),A=B++C/\r'=C.map aD/\Pf s s'/\kpt v w B=true/\σ=[some (.tup (A.map aD)),some (vD v),some (vD w),b3,b4,b5]) _ ⟨[],A,none,none,none,rfl,rfl,Pf.refl,rfl,rfl⟩ ?_ ?_
 . rintro d r' σ s1 ⟨B,C,b3,b4,b5,eA,er,p1,hB,rfl⟩
   match C,er with
   | a::C,er =>
    rw[tK,List.cons.injEq]at er;obtain⟨rfl,rfl⟩:=er;obtain⟨h1,h2⟩:=hA a (by rw[eA];simp);have e1:=zsx h1;have e2:=zsx h2;refine⟨_,rfl,?_⟩
    obtain⟨va,hva⟩:∃ z,v.getD a.1 0=z:=⟨_,rfl⟩
    obtain⟨wb,hwb⟩:∃ z,w.getD a.2.1 0=z:=⟨_,rfl⟩
    rw[hva]at e1;rw[hwb]at e2
    have hok:okA v w a=!(decide (va<wb)||(a.2.2&&decide (wb=va))):=by
      unfold okA;rw[hva,hwb]
    have go:okA v w a=true->∃(B' C':List Arc),A=B'++C'/\C.map aD=C'.map aD/\Pf s s1/\kpt v w B'=true:=λh =>
      ⟨B++[a],C,by simp[eA],rfl,p1,by rw[zlZ,hB,h];rfl⟩
    have no:okA v w a=false->kpt v w A=false:=λh=>by
      unfold kpt;rw[eA,List.all_append,pU,h];simp
    simp[vD,e1,e2];refine xX (λc1=>?_) λc1=>?_
    . have:=hQ s1 p1;rw[no (by rw[hok,c1];rfl)]at this;exact this
    . refine xX (λc2=>?_) λc2=>?_
      . simp[e1,e2,P1.wL];refine xX (λc3=>?_) λc3=>?_
        . have:=hQ s1 p1;rw[no (by rw[hok,c2];simp at c3;simp[c3])]at this;exact this
        . refine go ?_;rw[hok,c2,c1];simp at c3;rw[decide_eq_false c3];rfl
      . refine go ?_;rw[hok,c2,c1];rfl
 . rintro σ s1 ⟨B,C,b3,b4,b5,eA,er,p1,hB,rfl⟩
   have hC:C=[]:=by
    match C,er with
    | [],_=>rfl
   subst hC;rw[sJ]at eA;subst eA;simp;have:=hQ s1 p1;rw[hB]at this;exact this
theorem zol(h:PA s p m k hs l)(nl:(l.map (·.nm)).Nodup)(ok:okS x.1/\okS y.src.1)(hr:RA s r p q pl)(hpl:L2.atI pl (-1)=some (plD n x.1 v))(hy:y∈l)
    (h1:y.src.1≠x.1->X "CannotCall" [("name",.str y.nm)] s)
    (h2:y.src.1=x.1->wC ((zE (zR (zB P85.d_check_values [] (za (zf 2) (za (e2 oAt (e1 (xr "many") (e1 (xr "base") (zf 0))) (zf 4)) zj))))
 (zE (cIf (tNot (tE (zB d_keeps [] (za (zf 5) (za (zY "Run" "held" d_Run_held [] (zf 0) zj) (za (zf 2) zj))))))
 (xj "CannotCall" "name" (zf 1))
 yh)
 (zR (eM zU (e1 (xr "places") (zf 0)) (za (eN wg (za (zf 1) (za (zf 4) (za (zf 2) zj)))) zj))))) [some (.ref r),some (.str y.nm),some d,some (.str y.src.1),some (.str y.tgt.1),some (.tup (y.A.map aD))] s) { nx:=λ_ s'=>Q .non s',rt:=Q,xc:=X }):wE (d_Run_call [.ref r,.str y.nm,d] s) Q X:=by
  unfold d_Run_call;refine(yD (by rfl)).mpr ?_;unfold b_Run_call;refine xm.mpr ?_;generalize hR:zE (zQ _ _) _=RR;simp[hr.fb];unfold d_check_call_name;refine(yD (by rfl)).mpr ?_;unfold b_check_call_name
  have i1:isIn s (.str y.nm) (.ref k)=some true:=by
    simp only[isIn,h.known,unl,dget,keyOf,sE,wM nl hy];rfl
  have ka:atD s (.ref k) (.str y.nm)=some (.tup [.str y.src.1,.str y.tgt.1,.tup (y.A.map aD)]):=by
    simp only[atD,h.known,unl,dget,keyOf,sE,wM nl hy];rfl
  simp[h.fk,i1];rw[← hR];refine xm.mpr ?_;generalize hR2:zE (cIf (tB (e2 oNe (zf 3) _)) _ _) _=R2;simp[hr.fb,h.fk,ka];rw[← hR2];refine xm.mpr ?_;generalize hR3:zE (zR (zB d_check_values _ _)) _=R3 at h2 ⊢;simp[hr.isM (x:="function") rfl];refine uK hr hpl ?_;simp[P85.vf ok.2 ok.1];refine xX (λhc=>?_) λhc=>?_
  . exact h1 (by simpa using hc)
  . exact h2 (by simpa using hc)
theorem zeM(h:PA s p m k hs l)(nd:(hs.map (·.1)).Nodup)(nl:(l.map (·.nm)).Nodup)(ok:okS x.1/\okS y.src.1)(hr:RA s r p q pl)(hpl:L2.atI pl (-1)=some (plD n x.1 v))(hl:pl.length<16777216)(hy:y∈l)(ht:y.tgt∈hs)(h4:y.tgt.2<4)(he:y.src.1=x.1)(hw:∀ z∈w,0<=z)(lw:w.length=y.tgt.2)(hA:∀ a∈y.A,a.1<v.length/\a.2.1<w.length)
  (hX:kpt v w y.A=false->∀ s',Pf s s'->X "CannotCall" [("name",.str y.nm)] s') (hQ:kpt v w y.A=true->∀ s',Pf s s'->Q .non (s'.set q (.lst (pl++[plD (.str y.nm) y.tgt.1 w])))):wE (d_Run_call [.ref r,.str y.nm,vD w] s) Q X:=by
 refine zol h nl ok hr hpl hy (λz=>absurd he z) λ_=>?_;refine xm.mpr ?_;generalize hR:zE (cIf _ _ _) _=RR;simp[hr.fb,h.fm,(zaA h.many nd ht).1];refine zaY hw lw (by omega) λs1 p1=>?_;have hr1:=hr.pf p1
 try simp
 rw[← hR];refine xm.mpr ?_;generalize hR2:zR (eM zU _ _)=R2;simp[hr1.isM (x:="held") rfl];refine jB hr1 hpl ?_;refine zij hA λs2 p2=>?_;have hr2:=hr1.pf p2
 cases hk:kpt v w y.A with
 | false =>
  simp;exact hX hk _ (p1.trans p2)
 | true =>
  simp;rw[← hR2];simp[hr2.fp,isl hr2.pls,zV hr2.pls,hl];exact hQ hk _ (p1.trans p2)
theorem zoh{d0:D}(hr:RA s r p q (pl++[d0]))(hne:pl≠[])(hQ:Q .non (s.set q (.lst pl))):wE (d_Run_back [.ref r] s) Q X:=by
 unfold d_Run_back;refine(yD (by rfl)).mpr ?_;unfold b_Run_back
 have:¬ ((pl++[d0]).length=1):=by
  have:0<pl.length:=rW.mpr hne;simp;omega
 have hb:(((pl++[d0]).length:Int) == 1)=false:=beq_eq_false_iff_ne.mpr (by omega);simp only[xm,zsQ,zvk,zva,zvc,zgV,znX,zuZ,v_var,v_c,qU,jK,ztN,hr.fp,zK,zte,vo hr.pls,zuO,P1.wL,hb,znC,zgC,zsR,zqP,zvb,isl hr.pls,yI,tK,qu,qQ,qP];rw[ztj hr.pls];exact hQ
end
end P84
namespace PR
open PySem Fc P1 P85 PB PC P31 P21
open PW (mOf Gd Arcs)
open P20 (yt)
def clo(R:List Rw):Bool:=chn R&&decide (R≠[])&&decide ((rowAt R (R.length - 1)).tgt.1=(rowAt R 0).src.1)
section
variable{p:Nat}{R:List Rw}
theorem uE{R:List Rw}(h:R≠[])(p:Nat):rowAt R p∈R:=by
 have hn:=rW.mpr h;have hp:p%R.length<R.length:=rF _ hn;unfold rowAt;rw[tQ hp];exact rM hp
end
open P84 (kpt okA)
def GoR(R:List Rw)(W:List (List Int)):Prop:=W.length=R.length/\(∀ p,p<R.length->(W.getD p []).length=(rowAt R p).src.2/\∀ x∈W.getD p [],0<=x)/\∀ p,p<R.length->kpt (W.getD p []) (W.getD ((p+1)%R.length) []) (rowAt R p).A=true
section
variable{p r:Nat}{hs:List (Str×Nat)}{l R:List Rw}
theorem zms{p:Nat}(hp:p<R.length):rowAt R p=R[p]:=by
 unfold rowAt;rw[qj hp,tQ hp];rfl
theorem zhm(gd:Gd hs l)(hR:∀ q∈R,q∈l)(hc:clo R=true){p:Nat}(hp:p<R.length):(rowAt R p).tgt=(rowAt R ((p+1)%R.length)).src:=by
 unfold clo at hc;simp only[sG,decide_eq_true_eq]at hc;obtain⟨⟨h1,h2⟩,h3⟩:=hc;have hlen:=rW.mpr h2;have hp2:(p+1)%R.length<R.length:=rF _ hlen;obtain⟨_,_,_,w4,_⟩:=gd.wd.ln _ (hR _ (uE h2 p));obtain⟨_,_,y3,_⟩:=gd.wd.ln _ (hR _ (uE h2 ((p+1)%R.length)));refine zcB gd w4 y3 ?_;by_cases hz:p+1<R.length
 . rw[qj hz,zms hp,zms hz];exact zjo h1 (tQ hp) (tQ hz)
 . have he:p+1=R.length:=by omega
   rw[he,Nat.mod_self,← h3];congr 3;omega
theorem zlJ(gd:Gd hs l)(hR:∀ q∈R,q∈l)(hc:clo R=true):Fits R:=λp hp i j d h=>by
 have h2:R≠[]:=λz=>by rw[z]at hp;cases hp
 obtain⟨_,_,w3,w4,w5,_⟩:=gd.wd.ln _ (hR _ (uE h2 p));have ha:=w5 _ h;have h4:=(gd.wd.hn _ w3).2.2;rw[← zhm gd hR hc hp];exact⟨ha.1,ha.2,by omega⟩
theorem Ring.clo(r:Ring l R):PR.clo R=true:=by
 obtain⟨ne,sub,ch,go,len⟩:=r
 cases R with
 | nil=>exact absurd rfl ne
 | cons q R =>
  rw[zgS,zgh ziK,sG,decide_eq_true_iff]at go;unfold PR.clo;simp only[sG,decide_eq_true_eq];refine⟨⟨ch,ne⟩,?_⟩
  have e1:rowAt (q::R) 0=q:=by rw[zms (by simp)];rfl
  have e2:rowAt (q::R) ((q::R).length - 1)=(q::R).getLast (by simp):=by
   rw[zms (by simp),List.getLast_eq_getElem]
  rw[e1,e2];exact go.1.symm
end
end PR
namespace PR
open PySem Fc P1 P85 PB PC P31 P21
open PW (mOf)
abbrev St:=Str×List Int
def Dm(M:Mt)(v w:List Int):Prop:=∀ i j,i<3->j<3->M i j≠0->w.getD j 0+(if M i j=2 then 1 else 0)<=v.getD i 0
end PR
namespace P35
open PySem Fc P1 P85 PB PC P31 P21 PR
open PW (mOf Gd Arcs)
open P20 (yt)
section
variable{n:Nat}
theorem zaI(n:Nat):yx 0 (n:Int)=(List.range n).map λi:Nat=>D.int (i:Int):=by
 unfold yx;simp
end
theorem zca:∀ w:List Int,PyData.canLayAll0 (w.map PyData.int)=true/\PyData.depthAll (w.map PyData.int)<=1
 | []=>by simp[PyData.canLayAll0,PyData.depthAll]
 | a::w=>by
  obtain⟨h1,h2⟩:=zca w;refine⟨by simp[PyData.canLayAll0,PyData.canLay0,h1],?_⟩;simp only[tK,PyData.depthAll,PyData.depth];omega
section
variable{s:S}{k:Nat}{w:List Int}
theorem uo{k:Nat}:∀ w:List Int,dats s (k+1) (w.map .int)=some (w.map .int)
 | []=>yQ
 | a::w=>zP vZ (uo w)
end
end P35
namespace PR
open PySem Fc P1 P85 PB PC P31 P21
open PW (mOf Gd Arcs)
open P20 (yt)
open P84 (kpt okA)
def zgW(R:List Rw)(V:Vl):List (List Int):=(List.range R.length).map λp=>(List.range (rowAt R p).src.2).map λi=>(V p i:Int)
section
variable{p n:Nat}{R:List Rw}{V:Vl}
theorem zqa:zjd R V=(zgW R V).map vD:=by
 unfold zjd zgW;rw[sO];refine qM λp _=>?_;unfold cell;simp only[Function.comp,vD,sO];rfl
theorem zeE{p:Nat}(hp:p<R.length):(zgW R V).getD p []=(List.range (rowAt R p).src.2).map λi=>(V p i:Int):=by
 unfold zgW;rw[sU,tU,qF hp];rfl
theorem znI{n i:Nat}{v:Nat->Nat}(hi:i<n):((List.range n).map λi=>(v i:Int)).getD i 0=(v i:Int):=by
 rw[sU,tU,qF hi];rfl
theorem zlR(ft:Fits R)(hno:∀ p,p<R.length->NoMore R V p):GoR R (zgW R V):=by
 refine⟨by simp[zgW],λp hp=>?_,λp hp=>?_⟩
 . rw[zeE hp];refine⟨by simp,λx hx=>?_⟩;obtain⟨i,_,rfl⟩:=tM.mp hx;omega
 . have hp2:(p+1)%R.length<R.length:=rF _ (by omega);rw[zeE hp,zeE hp2];unfold kpt;rw[sH];rintro⟨i,j,d⟩ hx;obtain⟨f1,f2,_⟩:=ft p hp i j d hx;have h:=hno p hp i j d hx;unfold okA;simp only;rw[znI f1,znI f2];cases d <;> simp at h ⊢ <;> omega
end
end PR
namespace P84
open PySem Fc P1 P85 PB
open PW (zcL Gd Arcs Wd ct wJ)
section
variable{s s':S}{X:Xc}{Q:D->S->Prop}{p r q N:Nat}{pl:List D}{n d e:D}{x:Str×Nat}{t:Str}{c:Str}
def zdu(d:D):Option D:=match d with
 | .tup [a,_,_]=>some a
 | _=>none
theorem wU(hr:RA s r p q pl)(hl:pl.length<=10000)(h3:∀ d∈pl,∃ a b c,d=.tup [a,b,c])(hQ:∀ s' n,Pf s s'->s'[n]?=some (.lst ((pl.drop 1).filterMap zdu))->s.length<=n->Q (.ref n) s'):wE (d_Run_row [.ref r] s) Q X:=by
 unfold d_Run_row;refine(yD (by rfl)).mpr ?_;unfold b_Run_row;simp[hr.fp];rw[zcp hr.pls,show zeG pl (some 1) none=pl.drop 1 from PW.wJ (t:=1)];have f1:Pf s (s++[O.lst (pl.drop 1)]):=Pf.app;have e1:=zH (s:=s) (o:=O.lst (pl.drop 1))
 have l1:(s++[O.lst (pl.drop 1)]).length=s.length+1:=by simp
 generalize s++[O.lst (pl.drop 1)]=s1 at *;simp[srcOf,e1];rw[show pl.length - 1=(pl.drop 1).length by simp];refine uG zdu e1 (by simp;omega) (λd hd s2 p2=>?_) λs2 f2 e2=>?_
 . obtain⟨a,b,c,rfl⟩:=h3 d (oR hd);refine⟨_,by simp only[zuI];rfl,?_⟩;simp[Fc.wipe,zdu];exact Pf.refl
 . exact hQ _ _ (f1.trans f2) e2 (by omega)
def oP:Option Int->PyData
 | none=>.none
 | some i=>.int i
def tpx(f:List (Option Int)):PyData:=.list (f.map oP)
theorem zom{n:Nat}{o:Option Int}:uI s n (oD o)=some (oP o):=by
 cases o with
 | none=>simp only[oD,oP,uI]
 | some i=>simp only[oD,oP,uI]
theorem jA{f:List (Option Int)}(hf:∀ o∈f,∀ i,o=some i->-1<=i/\i<=10 ^ 50)(hl:f.length<=100)(h:s[N]?=some (.lst (f.map oD))):Rp s (.ref N) (tpx f).shown:=by
 have r:Ry 3 ((0+1)*(f.map oD).length) s (.ref N):=znK h λd hd=>by
  obtain⟨o,ho,rfl⟩:=tM.mp hd
  cases o with
  | none=>exact zrz
  | some i =>
   have:=hf _ ho i rfl
   exact zry (by
    have e:(10:Int) ^ 50=100000000000000000000000000000000000000000000000000:=by decide
    rw[e]at this
    have e2:(10:Nat) ^ 58=10000000000000000000000000000000000000000000000000000000000:=by decide
    rw[e2]
    omega)
 obtain⟨x,h1,h2,h3,h4,h5⟩:=r
 have e:uI s 60 (.ref N)=some (tpx f):=by
  have key:∀(n:Nat) (f:List (Option Int)),uh s n (f.map oD)=some (f.map oP):=λn f=>by
   induction f with
   | nil=>simp only[qu,uh]
   | cons o f ih=>simp only[tK,uh,zom,ih]
  simp only[uI,h,key,sE,tpx]
 have:=h1 s Pf.refl 57;rw[e]at this;cases this;exact zrA e h2 h3 (by simp at h4;omega) h5
end
end P84
namespace P84
open PySem Fc P1 P85 PB
open PW (zcL Gd Arcs Wd ct wJ kZ)
section
variable{l:List Rw}{x:Str×Nat}{v:List Int}
def zlB(x:Str)(v:List Int)(l:List Rw):List Str:=(l.filter (opn x v)).map (·.nm)
end
theorem ziN{f:Str->Bool}{ks:List Str}:(mst ks).filter f=mst (ks.filter f):=by
 refine List.Perm.eq_of_pairwise (le:=λa b=>leS a b=true) (λa b _ _=>zhG) (zhN.filter _) zhN ?_;exact(wy.filter f).trans wy.symm
theorem zjw{x:Str}{v:List Int}{l:List Rw}(nl:(l.map (·.nm)).Nodup):(mst (l.map (·.nm))).filter (opN x v l)=mst (zlB x v l):=by
 rw[ziN];congr 1;unfold zlB
 have key:∀ l':List Rw,l'⊆l->(l'.map (·.nm)).filter (opN x v l)=(l'.filter (opn x v)).map (·.nm):=by
  intro l'
  induction l' with
  | nil=>intro _;rfl
  | cons y l' ih =>
   intro h;rw[tK,qH,qH,zkC nl (h (tH)),ih λa ha=>h (tV _ ha)];cases opn x v y <;> simp
 exact key l (List.Subset.refl _)
section
variable{s:S}{A B:Nat}{d:D}
theorem zll{ks:List Str}(hk:∀ a∈ks,okS a)(h1:s[A]?=some (.lst (ks.map .str)))(h2:s[B]?=some (.lst (ks.map .str))):eqD s (.ref A) (.ref B)=some true:=PX.zoq h1 h2 λd hd=>by
 obtain⟨a,ha,rfl⟩:=tM.mp hd;exact .inl (zqu (hk a ha))
end
end P84
namespace P86
open PySem Fc
noncomputable section
end
end P86
namespace Fc
open PySem
section
variable{σ:Env}{s:S}{X:Xc}
theorem zqQ{sub fld:Str}{i j:Nat}{e f2:E}{P:Pst}(h:wE (e σ s) (λ_ s1=>P.nx σ s1) (λc fs s1=>c=sub/\∃ v d,fs.lookup fld=some v/\σ[j]?=some (some d)/\i<σ.length/\eqD s1 v d=some true/\wE (f2 (σ.set i none) s1) P.rt (λ_ _ _=>False))):wC (zfV sub fld i j (zR e) f2 σ s) P:=by
 with_unfolding_all
  unfold zfV zR ex
  cases he:e σ s with
  | none =>
   rw[he]at h;exact h
  | some r =>
   rw[he]at h
   cases r with
   | ok d s' =>
    rw[uX]at h;exact h
   | exc c fs s' =>
    rw[zso]at h;obtain⟨rfl,v,d,h1,h2,h3,h4,h5⟩:=h;dsimp only;rw[if_pos rfl,h1,h2];dsimp only;rw[if_pos h3,h4];dsimp only
    cases hu:f2 (σ.set i none) s' with
    | none =>
     rw[hu]at h5;exact h5
    | some r2 =>
     rw[hu]at h5
     cases r2 with
     | ok d2 s2 =>
      rw[uX]at h5;exact h5
     | exc c2 fs2 s2 =>
      rw[zso]at h5;exact h5.elim
@[simp ↓] theorem zvh{e:E}{Q:D->S->Prop}:wE (zix e σ s) Q X↔wE (e σ s) Q (λ_ _ _=>False):=by
 with_unfolding_all
  unfold zix
  cases he:e σ s with
  | none=>exact Iff.rfl
  | some r =>
   cases r with
   | ok d s'=>exact Iff.rfl
   | exc c fs s' =>
    exact Iff.rfl
end
def zsC(s:S)(x:D):Option SK:=match x with
 | .ref n=>match s[n]? with
  | some (.lst ds)=>some (.list n ds.length)
  | _=>none
 | _=>none
section
variable{s:S}{σ:Env}{X:Xc}
@[simp ↓] theorem ztO{e:E}{Q:SK->S->Prop}:wE (ziA e σ s) Q X↔wE (e σ s) (λx s1=>onO (zsC s1 x) λsk=>Q sk s1) X:=by
 with_unfolding_all
  show wE (bnd (e σ) _ s) Q X↔_;rw[yU]
  have key:∀(x:D) (s1:S),wE (match x with
    | .ref n=>match s1[n]? with
     | some (.lst ds)=>some (Res.ok (SK.list n ds.length) s1)
     | _=>none
    | _=>none) Q X↔onO (zsC s1 x) λsk=>Q sk s1:=by
   intro x s1;unfold zsC
   cases x with
   | ref n =>
    dsimp only
    cases s1[n]? with
    | none=>exact Iff.rfl
    | some o=>cases o <;> exact Iff.rfl
   | _=>exact Iff.rfl
  constructor <;> (intro h;exact zA h λx s1 h=>by first | exact(key x s1).mp h | exact(key x s1).mpr h)
end
end Fc
namespace P86
open PySem Fc P1 P85 PB PC P31 P21 PR
open PW (mOf Gd Arcs)
open P20 (yt)
open P84 (tops stT kpt okA zdu wU xK jC)
section
variable{v w:List Int}{A:List Arc}{n:Nat}
def TopP(v:List Int)(B:List Arc)(f:List (Option Int)):Prop:=∀ j,(∀ t,f[j]?=some (some t)->(∃ a∈B,a.2.1=j/\tp v a=t)/\∀ a∈B,a.2.1=j->t<=tp v a)/\(f[j]?=some none->∀ a∈B,a.2.1≠j)
theorem zmW{B:List Arc}{f:List (Option Int)}{a:Arc}(h:TopP v B f):TopP v (B++[a]) (stT v f a):=λj=>by
 unfold stT;rw[qI];obtain⟨h1,h2⟩:=h j;by_cases hj:a.2.1=j
 . rw[if_pos hj];subst hj;by_cases hl:a.2.1<f.length
   . rw[if_pos hl,tQ hl];rw[tQ hl]at h1 h2;refine⟨λt ht=>?_,λz=>(by cases z)⟩;simp only[Option.join_some,Option.some.injEq]at ht;generalize f[a.2.1]=o at *
     cases o with
     | none =>
       simp only[mn]at ht;subst ht;refine⟨⟨a,by simp,rfl,rfl⟩,λb hb e=>?_⟩
       rcases tZ.mp hb with hb | hb
       . exact absurd e (h2 rfl b hb)
       . rw[sS.mp hb];exact Int.le_refl _
     | some u =>
       simp only[mn]at ht;obtain⟨⟨b,hb,e1,e2⟩,h3⟩:=h1 u rfl;refine⟨?_,λc hc e=>?_⟩
       . by_cases hlt:u<=tp v a
         . exact⟨b,qO _ hb,e1,by omega⟩
         . exact⟨a,by simp,rfl,by omega⟩
       . rcases tZ.mp hc with hc | hc
         . have:=h3 c hc e;omega
         . rw[sS.mp hc];omega
   . rw[if_neg hl];exact⟨λt z=>(by cases z),λz=>(by cases z)⟩
 . rw[if_neg hj];refine⟨λt ht=>?_,λz b hb=>?_⟩
   . obtain⟨⟨b,hb,e⟩,h3⟩:=h1 t ht;refine⟨⟨b,qO _ hb,e⟩,λc hc e=>?_⟩
     rcases tZ.mp hc with hc | hc
     . exact h3 c hc e
     . rw[sS.mp hc]at e;exact absurd e hj
   . rcases tZ.mp hb with hb | hb
     . exact h2 z b hb
     . rw[sS.mp hb];exact hj
theorem zio:∀(A B:List Arc) (f:List (Option Int)),TopP v B f->TopP v (B++A) (A.foldl (stT v) f)
 | [],B,f,h=>by rw[sJ];exact h
 | a::A,B,f,h=>by
  have:=zio A (B++[a]) _ (zmW (a:=a) h);rw[ou]at this;exact this
theorem zlo:TopP v A (tops n v A):=by
 have h0:TopP v [] (List.replicate n none):=λj=>by
  refine⟨λt ht=>?_,λ_ a ha=>by cases ha⟩;rw[oF]at ht;split at ht <;> cases ht
 have:=zio A [] _ h0;exact this
theorem zqT(hA:∀ a∈A,a.2.1<n)(h:∀ j t,(tops n v A)[j]?=some (some t)->w.getD j 0<=t):kpt v w A=true:=by
 unfold kpt;rw[sH];intro a ha;obtain⟨h1,h2⟩:=zlo (v:=v) (A:=A) (n:=n) a.2.1
 have hl:a.2.1<(tops n v A).length:=by rw[xK];exact hA a ha
 rw[tQ hl]at h1 h2
 cases ho:(tops n v A)[a.2.1]with
 | none=>exact absurd rfl (h2 (by rw[ho]) a ha)
 | some t =>
  have k1:=(h1 t (by rw[ho])).2 a ha rfl;have k2:=h a.2.1 t (by rw[tQ hl,ho]);unfold okA;unfold tp at k1;obtain⟨i,j,d⟩:=a;simp only at k1 k2 ⊢;generalize v.getD i 0=vi at *;generalize w.getD j 0=wj at *;cases d <;> simp at k1 ⊢ <;> omega
theorem zqS{j:Nat}{t:Int}(h:(tops n v A)[j]?=some (some t))(hw:w.getD j 0=t+1):kpt v w A=false:=by
 obtain⟨⟨a,ha,e1,e2⟩,_⟩:=(zlo (v:=v) (A:=A) (n:=n) j).1 t h;unfold kpt;rw[List.all_eq_false];refine⟨a,ha,?_⟩;obtain⟨i,j',d⟩:=a;simp only at e1;subst e1;unfold okA;unfold tp at e2;simp only at e2 hw ⊢;generalize v.getD i 0=vi at *;generalize w.getD j' 0=wj at *;cases d <;> simp at e2 ⊢ <;> omega
end
structure Rn(l:List Rw)(pl:List D)(rn:List Str):Prop where
 h3:∀ d∈pl,∃ a b c,d=.tup [a,b,c]
 row:(pl.drop 1).filterMap zdu=rn.map .str
 nms:∀ a∈rn,a∈l.map (·.nm)
 ne:pl≠[]
theorem Rn.push{l:List Rw}{pl:List D}{rn:List Str}{y:Rw}{t:Str}{w:List Int}(h:Rn l pl rn)(hy:y∈l):Rn l (pl++[plD (.str y.nm) t w]) (rn++[y.nm]):=by
 have hp:=rW.mpr h.ne;refine⟨λd hd=>?_,?_,λa ha=>?_,by simp⟩
 . rcases tZ.mp hd with hd | hd
   . exact h.h3 d hd
   . rw[sS.mp hd];exact⟨_,_,_,rfl⟩
 . rw[List.drop_append_of_le_length (by omega),List.filterMap_append,h.row,sV];rfl
 . rcases tZ.mp ha with ha | ha
   . exact h.nms a ha
   . rw[sS.mp ha];exact tM.mpr ⟨y,hy,rfl⟩
theorem Rn.first{l:List Rw}{x:Str}{v:List Int}:Rn l [plD .non x v] []:=⟨λd hd=>by
 rw[sS.mp hd]
 exact⟨_,_,_,rfl⟩,rfl,(λa ha=>by cases ha),by simp⟩
section
variable{s s':S}{X:Xc}{Q:D->S->Prop}{p m k r q:Nat}{hs:List (Str×Nat)}{l:List Rw}{pl:List D}{rn:List Str}{n:D}{x:Str×Nat}{v w:List Int}{y:Rw}
theorem zhE{K N:Nat}{rn:List Str}{v:List Int}(h1:s[K]?=some (.lst [.ref N,vD v]))(h2:s[N]?=some (.lst (rn.map .str))):dat s 60 (.ref K)=some (.list [.list (rn.map .str),.tuple (v.map .int)]):=by
 have e1:dats s 58 (rn.map .str)=some (rn.map .str):=by
  clear h2
  induction rn with
  | nil=>exact yQ
  | cons x rn ih=>exact zP xZ ih
 have e2:dats s 58 (v.map .int)=some (v.map .int):=P35.uo (k:=57) v;rw[xF h1,zP (x:=.list (rn.map .str)) (by rw[xF h2,e1];rfl) (zP (x:=.tuple (v.map .int)) (by unfold vD;rw[ue,e2];rfl) yQ)];rfl
theorem zoN{rn:List Str}{v:List Int}(h:∀ a∈rn,okS a):SeqAt.shaped (.list [.list (rn.map .str),.tuple (v.map .int)])=true:=by
 obtain⟨i1,i2⟩:=P35.zca v
 have s1:PyData.canLayAll0 (rn.map .str)=true/\PyData.depthAll (rn.map PyData.str)<=1:=by
  induction rn with
  | nil=>simp[PyData.canLayAll0,PyData.depthAll]
  | cons a rn ih =>
   obtain⟨k1,k2⟩:=ih λb hb=>h b (tV _ hb);refine⟨by simp[PyData.canLayAll0,PyData.canLay0,xT.mpr (h a (tH)),k1],?_⟩;simp only[tK,PyData.depthAll,PyData.depth];omega
 refine rE.mpr ⟨by simp[PyData.canLay0,PyData.canLayAll0,i1,s1.1],decide_eq_true ?_⟩;have:=s1.2;simp only[PyData.depth,PyData.depthAll];omega
theorem zpJ(hr:RA s r p q pl)(hl:pl.length<=10000)(h3:∀ d∈pl,∃ a b c,d=.tup [a,b,c])(hQ:∀ s' n,Pf s s'->s'[n]?=some (.lst ((pl.drop 1).filterMap zdu))->s.length<=n->Q (.ref n) s'):wE (d_Run_rowH [.ref r] s) Q X:=by
 unfold d_Run_rowH;refine(yD (by rfl)).mpr ?_;unfold b_Run_rowH;simp[hr.fp];rw[zcp hr.pls,show zeG pl (some 1) none=pl.drop 1 from PW.wJ (t:=1)];have f1:Pf s (s++[O.lst (pl.drop 1)]):=Pf.app;have e1:=zH (s:=s) (o:=O.lst (pl.drop 1))
 have l1:(s++[O.lst (pl.drop 1)]).length=s.length+1:=by simp
 generalize s++[O.lst (pl.drop 1)]=s1 at *;simp[zsC,e1];rw[show pl.length - 1=(pl.drop 1).length by simp];refine uG zdu e1 (by simp;omega) (λd hd s2 p2=>?_) λs2 f2 e2=>?_
 . obtain⟨a,b,c,rfl⟩:=h3 d (oR hd);have et:∀(σ:Fc.Env) (s:S),zgg 3 (gCons (gName 1) (gCons (gName 2) (gCons (gName 3) gNil))) (.tup [a,b,c]) σ s=some (((σ.set 1 (some a)).set 2 (some b)).set 3 (some c)):=λσ s=>rfl;refine⟨_,et _ _,?_⟩;simp[Fc.wipe,zdu];exact Pf.refl
 . exact hQ _ _ (f1.trans f2) e2 (by omega)
theorem zlH(h:PA s p m k hs l)(nd:(hs.map (·.1)).Nodup)(nl:(l.map (·.nm)).Nodup)(ok:okS x.1/\okS y.src.1)(hr:RA s r p q pl)(hpl:L2.atI pl (-1)=some (plD n x.1 v))(hy:y∈l)(ht:y.tgt∈hs)(h4:y.tgt.2<4)(he:y.src.1=x.1)(hw:∀ z∈w,0<=z)(lw:w.length=y.tgt.2)(hA:∀ a∈y.A,a.1<v.length/\a.2.1<w.length)(hk:kpt v w y.A=false)
  (hX:∀ s',Pf s s'->X "CannotCall" [("name",.str y.nm)] s'):wE (Law_k86.d_Run_callN [.ref r,.str y.nm,vD w] s) Q X:=by
 unfold Law_k86.d_Run_callN;refine(yD (by rfl)).mpr ?_;unfold Law_k86.b_Run_callN;refine xm.mpr ?_;generalize hR:zE (zQ _ _) _=RR;simp[hr.fb];unfold d_check_call_name;refine(yD (by rfl)).mpr ?_;unfold b_check_call_name
 have i1:isIn s (.str y.nm) (.ref k)=some true:=by
  simp only[isIn,h.known,unl,dget,keyOf,sE,wM nl hy];rfl
 have ka:atD s (.ref k) (.str y.nm)=some (.tup [.str y.src.1,.str y.tgt.1,.tup (y.A.map aD)]):=by
  simp only[atD,h.known,unl,dget,keyOf,sE,wM nl hy];rfl
 simp[h.fk,i1];rw[← hR];refine xm.mpr ?_;generalize hR2:zE (cIf (tB (e2 oNe (zf 3) _)) _ _) _=R2;simp[hr.fb,h.fk,ka];rw[← hR2];refine xm.mpr ?_;generalize hR3:zE (zR (zix (zB Law_k86.d_check_values _ _))) _=R3;simp[hr.isM (x:="function") rfl];refine uK hr hpl ?_;simp[he,P85.vf ok.1 ok.1];rw[← hR3];refine xm.mpr ?_;generalize hR4:zE (cIf _ _ _) _=R4;simp[hr.fb,h.fm,(zaA h.many nd ht).1];refine zaY hw lw (by omega) λs1 p1=>?_;have hr1:=hr.pf p1
 try simp
 rw[← hR4];refine xm.mpr ?_;generalize hR5:zR (eM zU _ _)=R5;simp[hr1.isM (x:="held") rfl];refine jB hr1 hpl ?_;refine P84.zij hA λs2 p2=>?_;rw[hk];simp;exact hX _ (p1.trans p2)
theorem zja(h:PA s p m k hs l)(gd:Gd hs l)(hr:RA s r p q pl)(hpl:L2.atI pl (-1)=some (plD n x.1 v))(rp:Rn l pl rn)(hl:pl.length<=1000)(hx:x∈hs)(hv:v.length=x.2)(hy:y∈l)(he:y.src.1=x.1)(hw:∀ z∈w,0<=z)(lw:w.length=y.tgt.2)(hk:kpt v w y.A=false)
   (hQ:∀ s',Pf s s'->Q (.bl true) s'):wE (Law_k86.d_law_refused [.ref r,.str y.nm,vD w] s) Q X:=by
 unfold Law_k86.d_law_refused;refine(yD (by rfl)).mpr ?_;unfold Law_k86.b_law_refused;generalize hR:zE (zfV _ _ _ _ _ _) _=RR
 have okn:∀ a∈rn,okS a:=λa ha=>by
   obtain⟨z,hz,rfl⟩:=tM.mp (rp.nms a ha);exact(P21.zfa gd hz).1
 obtain⟨_,_,w3,w4,w5,_⟩:=gd.wd.ln y hy;have h4:=(gd.wd.hn _ w4).2.2;have esz:x=y.src:=zcB gd hx w3 he.symm;simp[hr.isM (x:="row") rfl];refine wU hr (by omega) rp.h3 λs1 N p1 g1 l1=>?_;rw[rp.row]at g1;have hr1:=hr.pf p1;simp[hr1.isM (x:="held") rfl];refine jB hr1 hpl ?_
 try simp
 have p2:Pf s1 (s1++[O.lst [.ref N,vD v]]):=Pf.app;have g2:=zH (s:=s1) (o:=O.lst [.ref N,vD v]);have p02:=p1.trans p2;have gN2:=p2 _ _ g1;generalize s1.length=K at *;generalize s1++[O.lst [.ref N,vD v]]=s2 at *;rw[← hR];refine xm.mpr (zqQ ?_);have hr2:=hr.pf p02;have okn0:=(P21.zfa gd hy).1;simp[hr2.isM (x:="call") rfl];refine zlH (x:=x) (h.pf p02) gd.nd gd.nl ⟨(gd.wd.hn x hx).1.okS,(gd.wd.hn _ w3).1.okS⟩ hr2 hpl hy w4 h4 he hw lw (λa ha=>?_) hk λs3 p3=>?_
 . rw[hv,esz,lw];exact w5 a ha
 refine⟨rfl,_,rfl,?_,?_⟩
 . rw[P85.vf okn0 okn0];simp
 have hr4:=hr2.pf p3;simp[hr4.isM (x:="row") rfl];refine zpJ hr4 (by omega) rp.h3 λs5 N5 p5 g5 l5=>?_;rw[rp.row]at g5;have hr5:=hr4.pf p5;simp[hr5.isM (x:="held") rfl];refine jB hr5 hpl ?_
 try simp
 have p6:Pf s5 (s5++[O.lst [.ref N5,vD v]]):=Pf.app;have g6:=zH (s:=s5) (o:=O.lst [.ref N5,vD v]);have p26:=p3.trans (p5.trans p6);have e1:=zhE (p26 _ _ g2) (p26 _ _ gN2);have e2:=zhE g6 (p6 _ _ g5);rw[P85.eq_self e2 e1 (zoN okn),zK]
 try simp
 exact hQ _ (p02.trans p26)
end
end P86
namespace P86
open PySem Fc P1 P85 PB PC P31 P21 PR
open PW (mOf Gd Arcs)
open P20 (yt)
open P84 (tops stT kpt okA zdu wU xK jC jA oP tpx)
noncomputable section
def H11:C:=(ye (e2 oEq (e2 oAt (zY "Run" "row" d_Run_row [] (zf 1) zj) (e1 zlD (eC (.int 1)))) (e2 oAt (zf 2) (eC (.int 0)))))
def H10:C:=zE (zR (zY "Run" "call" P84.d_Run_call [] (zf 1) (za (e2 oAt (zf 2) (eC (.int 0))) (za (eIf (tB (e2 oEq (zB P1.d_law_random [] (za (zf 0) (za (eC (.int 3)) zj))) (eC (.int 0)))) (eN fTuple (za (eLc [7] (yG .seq (zf 6)) (gName 7) tYes (eN zcT (za (eN yS (za (zf 7) zj)) (za (eC (.int 20)) zj)))) zj)) (eN fTuple (za (zf 6) zj))) zj)))) H11
def H9:C:=zE (zR (zY "Run" "back" d_Run_back [] (zf 1) zj)) H10
def H8:C:=zE (cIf (tOr (tB (e2 oNe (zY "Run" "held" d_Run_held [] (zf 1) zj) (zf 9))) (tB (e2 oNe (zY "Run" "function" d_Run_function [] (zf 1) zj) (e2 oAt (zf 2) (eC (.int 2))))))
 (ye (eC (.bl false)))
 yh) H9
def H7:C:=zE (zR (zY "Run" "call" P84.d_Run_call [] (zf 1) (za (e2 oAt (zf 2) (eC (.int 0))) (za (zf 9) zj)))) H8
def H6:C:=zE (zQ (eN fTuple (za (eLc [7] (yG .seq (zf 6)) (gName 7) tYes (zB P1.d_law_random [] (za (zf 0) (za (e2 xH (zf 7) (eC (.int 1))) zj)))) zj)) (gName 9)) H7
def H5b:C:=(cIf (tB (e1 zcn (e2 oAt (zf 4) (zf 8))))
 (cIf (tNot (tE (zB Law_k86.d_law_refused [] (za (zf 1) (za (e2 oAt (zf 2) (eC (.int 0))) (za (eN fTuple (za (e2 xH (e2 xH (zdU (zf 6) pNo (zej (zf 8))) (eN yr (za (e2 xH (e2 oAt (zf 6) (zf 8)) (eC (.int 1))) zj))) (zdU (zf 6) (zej (e2 xH (zf 8) (eC (.int 1)))) pNo)) zj)) zj))))))
 (ye (eC (.bl false)))
 yh)
 yh)
def H5:C:=zE (xg (yf (eC (.int 0)) (eN vA (za (zf 4) zj))) (gName 8)
 H5b) H6
def H4:C:=zE (zQ (eLc [7] (yG .seq (zf 4)) (gName 7) tYes (eIf (tB (e1 zei (zf 7))) (e2 zgt (eC (.int 10)) (eC (.int 25))) (zf 7))) (gName 6)) H5
def H3:C:=zE (zR (eM zU (zf 5) (za (eC .non) zj))) H4
def H2:C:=zE (cIf (tB (e2 oNe (eN ji (za (zf 5) zj)) (eN ji (za (zf 4) zj))))
 (ye (eC (.bl false)))
 yh) H3
def H1:C:=zE (zQ (zY "Run" "most" d_Run_most [] (zf 1) (za (e2 oAt (zf 2) (eC (.int 0))) zj)) (gName 5)) H2
def H0:C:=zE (zQ (zB d_law_most [] (za (zf 2) (za (zf 3) (za (zY "Run" "held" d_Run_held [] (zf 1) zj) zj)))) (gName 4)) H1
theorem zuA:Law_k86.b_law_call_right=H0:=rfl
end
structure Gg(s:S)(g p m k E z H:Nat)(hs:List (Str×Nat))(l:List Rw):Prop where
 pa:PA s p m k hs l
 e:s[E]?=some (.lst (l.map rwD))
 ar:Arcs s l
 mz:s[z]?=some (.dK (mvH hs))
 hh:s[H]?=some (.lst (hs.map hD))
 gd:Gd hs l
 hl:Hl hs
 ll:l.length<=10
 ne:p≠g/\m≠g/\k≠g/\E≠g/\z≠g/\H≠g
 na:∀ r∈l,r.a≠g
section
variable{s s':S}{P:Pst}{g p m k E z H r q B:Nat}{hs:List (Str×Nat)}{l:List Rw}{pl:List D}{rn:List Str}{n:D}{x:Str×Nat}{v w:List Int}{y:Rw}
theorem Gg.fr(h:Gg s g p m k E z H hs l)(f:Fr g s s'):Gg s' g p m k E z H hs l :=
 ⟨⟨f.2 p h.ne.1 _ h.pa.at_,f.2 m h.ne.2.1 _ h.pa.many,f.2 k h.ne.2.2.1 _ h.pa.known⟩,f.2 E h.ne.2.2.2.1 _ h.e,λr hr=>f.2 _ (h.na r hr) _ (h.ar r hr),f.2 z h.ne.2.2.2.2.1 _ h.mz,f.2 H h.ne.2.2.2.2.2 _ h.hh,h.gd,h.hl,h.ll,h.ne,h.na⟩
theorem Gg.cl(h:Gg s g p m k E z H hs l)(hy:y∈l):Cl hs l y:=⟨hy,(h.gd.wd.ln y hy).2.2.1,(h.gd.wd.ln y hy).2.2.2.1,(h.gd.wd.ln y hy).2.2.2.2.1⟩
theorem zpz(hr:RA s r p q pl)(hg:Gen s g B)(rp:Rn l pl rn):r≠g/\q≠g/\r≠q:=by
 refine⟨λe=>?_,zdv hg hr.pls λd hd i z=>?_,λe=>?_⟩
 . obtain⟨a,b,c,e1,_⟩:=hg;have:=hr.at_;rw[e,e1]at this;cases this
 . obtain⟨a,b,c,rfl⟩:=rp.h3 d hd;cases z
 . have h1:=hr.at_;have h2:=hr.pls;rw[e,h2]at h1;cases h1
theorem zpy(hr:RA s r p q pl)(hg:Gen s g B)(rp:Rn l pl rn)(f:Fr g s s'):RA s' r p q pl:=by
 obtain⟨h1,h2,_⟩:=zpz hr hg rp;exact⟨f.2 r h1 _ hr.at_,f.2 q h2 _ hr.pls⟩
theorem zkS{pl':List D}(hr:RA s r p q pl):RA (s.set q (.lst pl')) r p q pl':=by
 have h1:=hr.at_;have h2:=hr.pls
 have ne:r≠q:=λe=>by
  rw[e,h2]at h1;cases h1
 exact⟨by rw[zJ (tY ne)];exact h1,sY (zq h2)⟩
structure At(hs:List (Str×Nat))(pl:List D)(n:D)(x:Str×Nat)(v:List Int):Prop where
 last:L2.atI pl (-1)=some (plD n x.1 v)
 mem:x∈hs
 len:v.length=x.2
 bd:∀ i∈v,0<=i/\i<=10 ^ 25
theorem At.push{y:Rw}(hy:y.tgt∈hs)(hw:w.length=y.tgt.2)(hb:∀ i∈w,0<=i/\i<=10 ^ 25):At hs (pl++[plD (.str y.nm) y.tgt.1 w]) (.str y.nm) y.tgt w:=⟨L2.atI_last _ _,hy,hw,hb⟩
theorem zrE(hr:RA s r p q (pl++[plD (.str y.nm) y.tgt.1 w]))(rp:Rn l pl rn)(hl:pl.length<=900)(gd:Gd hs l)(hy:y∈l){a0 a3 a4 a5 a6 a7 a8 a9:Option D}(hQ:∀ s',Pf s s'->P.rt (.bl true) s') :
  wC (H11 [a0,some (.ref r),some (rwD y),a3,a4,a5,a6,a7,a8,a9] s) P:=by
 unfold H11;have r0:∀ s,atD s (rwD y) (.int 0)=some (.str y.nm):=λ_=>rfl;have rp':=rp.push (t:=y.tgt.1) (w:=w) hy;simp[hr.isM (x:="row") rfl,r0];refine wU hr (by simp;omega) rp'.h3 λs1 N p1 g1 l1=>?_;rw[rp'.row]at g1
 have e:atD s1 (.ref N) (.int (-1))=some (.str y.nm):=by
  rw[yO g1,sV,tK,qu];exact L2.atI_last _ _
 have ok:=(P21.zfa gd hy).1;rw[e,zK,P85.vf ok ok,zK];simp;exact hQ _ p1
end
end P86
namespace PR
open PySem Fc P1 P85 PB PC P31 P21
open PW (mOf Gd Arcs)
open P20 (yt)
open P84 (kpt okA)
theorem jx{R:List Rw}{p:Nat}:rowAt R (p%R.length)=rowAt R p:=by
 unfold rowAt;rw[Nat.mod_mod]
end PR
namespace P32
open PySem Fc P1 P85 PB PC P31 P21 PR
open P20 (yt)
open PW (mOf Gd Arcs)
open PyProof.Rows (itemOrd lex_self lex_diff)
abbrev Zr:=(Tb×List Str)×Nat
end P32
namespace P61
open PySem Fc P1 P85 PB PC P31 P21 PR
open P20 (yt)
open PW (mOf Gd Arcs)
open PyProof.Rows (itemOrd)
abbrev Lot:=Nat×List Str
end P61
namespace P62
open PySem Fc P1 P85 PB PC P31 P21 PR
open P20 (yt)
open PW (mOf Gd Arcs ct zkg zcL)
open PL (q4)
open PyProof.Rows (itemOrd)
open P84 (Ry znK zrA)
abbrev Fz:=Nat×List Rw×List Nat
end P62
namespace P62
open PySem Fc P1 P85 PB PC P31 P21 PR
open P20 (yt)
open PW (mOf Gd Arcs ct zkg)
abbrev Lt:=Nat×List Nat
end P62
namespace P53
open PySem Fc P1 P85 PB PC P31 P21 PR
open P20 (yt)
open PW (mOf Gd Arcs)
abbrev Ste:=Str×List (Option Nat)
abbrev Dm:=List (Ste×D)
structure En where
 st:Ste
 a:Nat
 row:List (Str×Ste)
end P53
namespace P53
open PySem Fc P1 P85 PB PC P31 P21 PR
open P20 (yt)
structure An where
 st:Ste
 a:Nat
 L:List Ste
open PW (mOf Gd Arcs)
inductive Kd where
 | pr | nm | vl
end P53
namespace P53
open PySem Fc P1 P85 PB PC P31 P21 PR
open PW (mOf Gd Arcs)
abbrev Bds:=List (Option Nat)
end P53
namespace P84
open PySem Fc P1 P85 PB
open PW (zcL Gd Arcs Wd ct)
def Hl2(hs:List (Str×Nat)):Prop:=∀ h∈hs,True/\Ltr h.1/\True/\h.2<4
theorem zbh{hs:List (Str×Nat)}{l:List Rw}(gd:Gd hs l):Hl2 hs:=λh hh=>⟨trivial,(gd.wd.hn h hh).1,trivial,(gd.wd.hn h hh).2.2⟩
section
variable{s s':S}{hs:List (Str×Nat)}{X:Xc}{Q:D->S->Prop}{p m k r q:Nat}{l:List Rw}{pl:List D}
theorem zbu{n:D}{x:Str×Nat}{v:List Int}{y:Rw}(h:PA s p m k hs l)(hh:Hl2 hs)(nd:(hs.map (·.1)).Nodup)(nl:(l.map (·.nm)).Nodup)(hr:RA s r p q pl)(hpl:L2.atI pl (-1)=some (plD n x.1 v))(hx:x∈hs)(hv:v.length=x.2)(hy:Cl hs l y)
   (hQ1:(y.src.1≠x.1\/y.A.any (neg v)=true)->∀ s',Pf s s'->Q .non s') (hQ2:y.src.1=x.1->y.A.any (neg v)=false->∀ s' n,Pf s s'->s'[n]?=some (.lst ((tops y.tgt.2 v y.A).map oD))->s.length<=n->Q (.ref n) s'):wE (d_Run_greatest [.ref r,.str y.nm] s) Q X:=by
 unfold d_Run_greatest;refine(yD (by rfl)).mpr ?_;unfold b_Run_greatest
 have ka:atD s (.ref k) (.str y.nm)=some (.tup [.str y.src.1,.str y.tgt.1,.tup (y.A.map aD)]):=by
   simp only[atD,h.known,unl,dget,keyOf,sE,wM nl hy.mem];rfl
 simp[hr.fb,h.fk,ka,hr.isM (x:="function") rfl];refine uK hr hpl ?_;have ok1:=(hh _ hy.src).2.1.okS;have ok2:=(hh _ hx).2.1.okS;simp[vf ok1 ok2];refine xX (λhc=>?_) λhc=>?_
 . exact hQ1 (.inl (by simpa using hc)) s Pf.refl
 . have hc:y.src.1=x.1:=by simpa using hc
   have esx:y.src=x:=by
     have a:=zeg nd hy.src;have b:=zeg nd hx;rw[hc,b]at a
     have z:(x.2:Int)=y.src.2:=by
       injection a with a
       injection a with a
     exact Prod.ext hc (by omega)
   have ht:=(hh _ hy.tgt).2.2.2;have f1:=Pf.app (s:=s) (t:=[.lst [.non]]);simp[(hr.pf f1).fb,(h.pf f1).fm,(zaA (h.pf f1).many nd hy.tgt).1];refine(zpZ (k:=y.tgt.2) zH (by omega)).mpr ?_;have f2:Pf s ((s++[O.lst [.non]])++[.lst (List.replicate y.tgt.2 .non)]):=f1.trans Pf.app
   have e2:((s++[O.lst [.non]])++[O.lst (List.replicate y.tgt.2 D.non)])[(s++[O.lst [.non]]).length]?=some (.lst ((List.replicate y.tgt.2 (none:Option Int)).map oD)):=by
     rw[List.map_replicate];exact zH
   have ll:s.length<(s++[O.lst [.non]]).length:=by simp
   generalize (s++[O.lst [.non]])++[O.lst (List.replicate y.tgt.2 .non)]=s2 at *;generalize (s++[O.lst [.non]]).length=L at *;simp[srcOf]
   refine yP (λr' σ s'=>∃(A B:List Arc) (f:List (Option Int)) (b6 b7 b8 b9:Option D),y.A=A++B/\r'=B.map aD/\Pf s s'/\s'[L]?=some (.lst (f.map oD))/\f=tops y.tgt.2 v A/\f.any ngo=A.any (neg v)/\σ=[some (.ref r),some (.str y.nm),some (.str y.src.1),some (.str y.tgt.1),some (.tup (y.A.map aD)),some (.ref L),b6,b7,b8,b9]) (y.A.map aD)
     ⟨[],y.A,_,none,none,none,none,rfl,rfl,f2,e2,rfl,by simp[ngo],rfl⟩ ?_ ?_
   . rintro d r' σ s3 ⟨A,B,f,b6,b7,b8,b9,eA,er,f3,e3,lf,ha,rfl⟩
     match B,er with
     | a::B,er =>
       rw[tK,List.cons.injEq]at er;obtain⟨rfl,rfl⟩:=er;have hb:=hy.arcs a (by rw[eA];simp);rw[esx]at hb;refine⟨_,rfl,?_⟩;simp[(hr.pf f3).isM (x:="held") rfl];refine jB (hr.pf f3) hpl ?_
       obtain⟨w,hw⟩:∃ w,w=v.getD a.1 0:=⟨_,rfl⟩
       have ev:=zsx (show a.1<v.length by omega);rw[← hw]at ev
       have et:tp v a=w - (if a.2.2=true then 1 else 0):=by rw[tp,hw]
       simp[vD,ev,-List.map_set]
       have lf':f.length=y.tgt.2:=by rw[lf];exact xK
       have hj:a.2.1<f.length:=by omega
       have gj:f[a.2.1]?=some f[a.2.1]:=tQ hj;generalize f[a.2.1]=o at gj;simp[ztW e3 gj,-List.map_set]
       have key:∃(A' B':List Arc) (f':List (Option Int)),y.A=A'++B'/\B.map aD=B'.map aD/\Pf s (s3.set L (.lst ((f.set a.2.1 (some (mn o (tp v a)))).map oD)))/\(s3.set L (.lst ((f.set a.2.1 (some (mn o (tp v a)))).map oD)))[L]?=some (.lst (f'.map oD))/\f'=tops y.tgt.2 v A'/\f'.any ngo=A'.any (neg v):=by
         refine⟨A++[a],B,f.set a.2.1 (some (mn o (tp v a))),by simp[eA],rfl,λw o' e=>?_,yM (zq e3),?_,?_⟩
         . have:=zq e;rw[zJ (by omega)];exact f3 _ _ e
         . exact ziq lf gj
         . rw[any_put gj,ha,List.any_append];simp[neg]
       rw[et]at key;obtain⟨A',B',f',k1,k2,k3,k4,k5,k6⟩:=key
       cases o with
       | none =>
         simp[oD,zmj e3 hj,-List.map_set];exact⟨A',B',k1,k2,k3,f',k4,k5,k6⟩
       | some u =>
         simp[oD,zmj e3 hj,-List.map_set];exact⟨A',B',k1,k2,k3,f',k4,k5,k6⟩
   . rintro σ s3 ⟨A,B,f,b6,b7,b8,b9,eA,er,f3,e3,lf,ha,rfl⟩
     have hB:B=[]:=by
       match B,er with
       | [],_=>rfl
     subst hB;rw[sJ]at eA;subst eA;simp[e3];rw[show f.length=(f.map oD).length by simp];refine uG (λd=>match d with | .int i=>if i<0 then some d else none | _=>none) e3 (by rw[rA,lf,xK];omega) (λd hd s' pf=>?_) λs5 p5 h5=>?_
     . obtain⟨o,ho,rfl⟩:=tM.mp hd;refine⟨_,rfl,?_⟩
       cases o with
       | none =>
         simp[Fc.wipe,oD];exact Pf.refl
       | some i =>
         simp[Fc.wipe,oD];by_cases z:i<0
         . rw[if_pos z];exact⟨Pf.refl,Pf.refl,z⟩
         . rw[if_neg z];exact⟨Pf.refl,by omega⟩
     . have e4:=zge (s:=s5++[O.lst []]) (n:=s3.length) (m:=s5.length) (λd hd=>?_) (Pf.app _ _ h5) zH
       . rw[e4]
         have e5:((f.map oD).filterMap λd=>match d with | .int i=>if i<0 then some d else none | _=>none).isEmpty=!(f.any ngo):=by
           clear e3 lf ha e4 h5 
           induction f with
           | nil=>rfl
           | cons o f ih =>
             rw[tK,rD,qD]
             cases o with
             | none=>simpa[oD,ngo]using ih
             | some i =>
              by_cases z:i<0
              . simp[oD,ngo,z]
              . simpa[oD,ngo,z]using ih
         rw[e5,ha];have fA:=f3.trans (p5.trans (Pf.app (t:=[.lst []])))
         cases hb:y.A.any (neg v)with
         | true =>
           simp;exact hQ1 (.inr hb) _ fA
         | false =>
           simp;refine hQ2 hc hb _ _ fA ?_ (by omega);rw[← lf];exact Pf.app _ _ (p5 _ _ e3)
       . obtain⟨d',h1,h2⟩:=List.mem_filterMap.mp hd;split at h2
         . split at h2
           . cases h2;exact znV
           . cases h2
         . cases h2
theorem zmH{n:D}{x:Str×Nat}{v:List Int}{y:Rw}(h:PA s p m k hs l)(hh:Hl2 hs)(nd:(hs.map (·.1)).Nodup)(nl:(l.map (·.nm)).Nodup)(hr:RA s r p q pl)(hpl:L2.atI pl (-1)=some (plD n x.1 v))(hx:x∈hs)(hv:v.length=x.2)(hy:Cl hs l y)
   (hX:opn x.1 v y=false->∀ s',Pf s s'->X "CannotCall" [("name",.str y.nm)] s') (hQ:opn x.1 v y=true->∀ s' n,Pf s s'->s'[n]?=some (.lst ((tops y.tgt.2 v y.A).map oD))->s.length<=n->Q (.ref n) s'):wE (d_Run_most [.ref r,.str y.nm] s) Q X:=by
 unfold d_Run_most;refine(yD (by rfl)).mpr ?_;unfold b_Run_most;simp[hr.fb];unfold d_check_call_name;refine(yD (by rfl)).mpr ?_;unfold b_check_call_name
 have i1:isIn s (.str y.nm) (.ref k)=some true:=by
   simp only[isIn,h.known,unl,dget,keyOf,sE,wM nl hy.mem];rfl
 simp[h.fk,i1,hr.isM (x:="greatest") rfl];refine zbu h hh nd nl hr hpl hx hv hy (λhc s' f=>?_) λh1 h2 s' n f hn hl=>?_
 . simp;refine hX ?_ _ f;unfold opn
   rcases hc with hc | hc
   . simp[hc]
   . rw[hc];simp
 . simp;refine hQ ?_ _ _ f hn hl;unfold opn;rw[h2];simp[h1]
theorem zmJ{n:D}{x:Str×Nat}{v:List Int}(h:PA s p m k hs l)(hh:Hl2 hs)(nd:(hs.map (·.1)).Nodup)(nl:(l.map (·.nm)).Nodup)(hr:RA s r p q pl)(hpl:L2.atI pl (-1)=some (plD n x.1 v))(hx:x∈hs)(hv:v.length=x.2)(hy:∀ y∈l,Cl hs l y)(hl:l.length<=20)
   (hQ:∀(s':S) (n:Nat),Pf s s'->s'[n]?=some (.lst (((mst (l.map (·.nm))).filter (opN x.1 v l)).map .str))->s.length<=n->Q (.ref n) s'):wE (d_Run_options [.ref r] s) Q X:=by
 unfold d_Run_options;refine(yD (by rfl)).mpr ?_;unfold b_Run_options;simp[hr.fb,h.fk];rw[zfo h.known (zlq l) (by simp;omega) zcN];have f1:Pf s (s++[O.lst ((mst (l.map (·.nm))).map .str)]):=Pf.app;have e1:(s++[O.lst ((mst (l.map (·.nm))).map .str)])[s.length]?=some (.lst ((mst (l.map (·.nm))).map .str)):=zH
 have l1:(s++[O.lst ((mst (l.map (·.nm))).map .str)]).length=s.length+1:=by simp
 generalize s++[O.lst ((mst (l.map (·.nm))).map .str)]=s1 at *;generalize s.length=L at *
 have lm:(mst (l.map (·.nm))).length=l.length:=by rw[wy.length_eq];simp
 simp[srcOf,e1];rw[show(mst (l.map (·.nm))).length=((mst (l.map (·.nm))).map D.str).length by simp];refine uG (λd=>match d with | .str n=>if opN x.1 v l n=true then some (.str n)else none | _=>none) e1 (by simp;omega) (λd hd s2 f2=>?_) λs3 f3 e3=>?_
 . obtain⟨nm,hnm,rfl⟩:=tM.mp hd;obtain⟨y,hyl,rfl⟩:=tM.mp (wy.mem_iff.mp hnm);refine⟨_,rfl,?_⟩;have hr2:=hr.pf (f1.trans f2);simp[Fc.wipe,hr2.isM (x:="greatest") rfl];have eo:=zkC (x:=x.1) (v:=v) nl hyl;refine zbu (h.pf (f1.trans f2)) hh nd nl hr2 hpl hx hv (hy y hyl) (λhc s' f=>?_) λh1 h2 s' n f _ _=>?_
   . have:opn x.1 v y=false:=by
       unfold opn
       rcases hc with hc | hc
       . simp[hc]
       . rw[hc];simp
     simp[eo,this];exact f
   . have:opn x.1 v y=true:=by
       unfold opn;rw[h2];simp[h1]
     simp[eo,this];exact⟨f,Pf.refl⟩
 . refine hQ _ _ (f1.trans f3) ?_ (by omega);rw[e3];congr 2;generalize mst (l.map (·.nm))=ns
   induction ns with
   | nil=>rfl
   | cons a ns ih =>
     rw[tK,rD,qH];by_cases z:opN x.1 v l a=true
     . simp[z,ih]
     . simp[z,ih]
end
end P84
namespace P86
open PySem Fc P1 P85 PB PC P31 P21 PR
open PW (mOf Gd Arcs)
open P20 (yt)
open P84 (tops stT kpt okA zdu wU xK jC jA oP tpx zbh zaN)
section
variable{s s':S}{X:Xc}{Q:D->S->Prop}{P:Pst}{g p m k E z H r q B:Nat}{hs:List (Str×Nat)}{l:List Rw}{pl:List D}{rn:List Str}{n:D}{x:Str×Nat}{v w:List Int}{y:Rw}{a3 a4 a5 a7 a8 a9:Option D}
def Kq(g q:Nat)(s s':S):Prop:=∀ n,n≠g->n≠q->∀ o,s[n]?=some o->s'[n]?=some o
theorem Kq.trans{s1 s2 s3:S}(a:Kq g q s1 s2)(b:Kq g q s2 s3):Kq g q s1 s3:=λn h1 h2 o e=>b n h1 h2 o (a n h1 h2 o e)
theorem zqU(f:Fr g s s'):Kq g q s s':=λn h _ o e=>f.2 n h o e
theorem zjU(f:Pf s s'):Kq g q s s':=λn _ _ o e=>f n o e
theorem zjV{o:O}:Kq g q s (s.set q o):=λn _ h o' e=>by rw[zJ (tY h)];exact e
def full(o:Option Int):Int:=o.getD (10 ^ 25)
theorem zea{A:List Arc}{n:Nat}(hA:∀ a∈A,a.2.1<n)(hb:∀ i∈v,0<=i/\i<=10 ^ 25)(h:A.any (neg v)=false):∀ o∈tops n v A,0<=full o/\full o<=10 ^ 25:=λo ho=>by
 have h2:=zaN (v:=v) hA;rw[h]at h2;have h3:=jC (n:=n) (A:=A) (v:=v) (M:=10 ^ 25) (by decide) hb o ho
 cases o with
 | none=>unfold full;simp
 | some i =>
  have h4:=qK.mp h2 _ ho;have h5:=h3 i rfl;unfold full;simp[ngo]at h4 ⊢;omega
theorem zii(pa:PA s p m k hs l)(gd:Gd hs l)(hr:RA s r p q pl)(at_:At hs pl n x v)(hl:pl.length<=900)(hy:y∈l)(he:y.src.1=x.1)(hw:∀ z∈w,0<=z)(lw:w.length=y.tgt.2)(hk:∀ j t,(tops y.tgt.2 v y.A)[j]?=some (some t)->w.getD j 0<=t)
  (hQ:∀ s',Pf s s'->Q .non (s'.set q (.lst (pl++[plD (.str y.nm) y.tgt.1 w])))):wE (P84.d_Run_call [.ref r,.str y.nm,vD w] s) Q X:=by
 obtain⟨_,_,w3,w4,w5,_⟩:=gd.wd.ln y hy;have h4:=(gd.wd.hn _ w4).2.2;have esz:x=y.src:=zcB gd at_.mem w3 he.symm;have kp:=zqT (v:=v) (w:=w) (n:=y.tgt.2) (A:=y.A) (λa ha=>(w5 a ha).2) hk;refine P84.zeM (x:=x) pa gd.nd gd.nl ⟨(gd.wd.hn x at_.mem).1.okS,(gd.wd.hn _ w3).1.okS⟩ hr at_.last (by omega) hy w4 h4 he hw lw (λa ha=>?_) (λh=>by rw[kp]at h;cases h) λ_ s1 p1=>hQ s1 p1;rw[at_.len,esz,lw];exact w5 a ha
theorem zrH(h:Gg s g p m k E z H hs l)(hg:Gen s g (B+100))(hr:RA s r p q pl)(at_:At hs pl n x v)(rp:Rn l pl rn)(hl:pl.length<=800)(hy:y∈l)(he:y.src.1=x.1)(ho:y.A.any (neg v)=false){N6:Nat}(h6:s[N6]?=some (.lst (((tops y.tgt.2 v y.A).map full).map .int)))(n6:N6≠g)
   (hQ:∀ s' w,Kq g q s s'->Gen s' g B->RA s' r p q (pl++[plD (.str y.nm) y.tgt.1 w])->At hs (pl++[plD (.str y.nm) y.tgt.1 w]) (.str y.nm) y.tgt w->P.rt (.bl true) s') :
   wC (H10 [some (.ref g),some (.ref r),some (rwD y),a3,a4,a5,some (.ref N6),a7,a8,a9] s) P:=by
 have r0:∀ s,atD s (rwD y) (.int 0)=some (.str y.nm):=λ_=>rfl;obtain⟨_,_,w3,w4,w5,_⟩:=h.gd.wd.ln y hy;have h4:=(h.gd.wd.hn _ w4).2.2;have fb:=zea (n:=y.tgt.2) (λa ha=>(w5 a ha).2) at_.bd ho;have lt:(tops y.tgt.2 v y.A).length=y.tgt.2:=xK;obtain⟨hrg,hqg,hrq⟩:=zpz hr hg rp;unfold H10;refine xm.mpr ?_;generalize hE:H11=Eu;simp[hr.isM (x:="call") rfl,r0];refine yo (B:=B) (hg.mono (by omega)) (by decide) (by decide) λu o u0 u1 g1=>?_;have f1:Fr g s (s.set g o):=Fr.set;have h1:=h.fr f1;have hr1:=zpy hr hg rp f1;have h61:=f1.2 _ n6 _ h6;generalize s.set g o=s1 at *
 have fin:∀{s2:S}{w:List Int},Pf s1 s2->(∀ a∈w,0<=a/\a<=10 ^ 25)->w.length=y.tgt.2->(∀ j t,(tops y.tgt.2 v y.A)[j]?=some (some t)->w.getD j 0<=t)->wE (P84.d_Run_call [.ref r,.str y.nm,vD w] s2) (λ_ s3=>wC (Eu [some (.ref g),some (.ref r),some (rwD y),a3,a4,a5,some (.ref N6),a7,a8,a9] s3) P) P.xc:=λ{s2 w} p2 hw lw hk=>by
   have hr2:=hr1.pf p2;refine zii (h1.pa.pf' p2) h.gd hr2 at_ (by omega) hy he (λa ha=>(hw a ha).1) lw hk λs3 p3=>?_;have hr3:=zkS (pl':=pl++[plD (.str y.nm) y.tgt.1 w]) (hr2.pf p3);have at3:=At.push (pl:=pl) (y:=y) w4 lw hw;rw[← hE];refine zrE hr3 rp (by omega) h.gd hy λs4 p4=>?_;refine hQ s4 w (((zqU f1).trans (zjU (p2.trans p3))).trans (zjV.trans (zjU p4))) ?_ (hr3.pf p4) at3;have g3:=(p2.trans p3).gen g1;refine p4.gen ?_;obtain⟨b1,b2,b3,b4,b5⟩:=g3;exact⟨b1,b2,b3,by rw[zJ hqg];exact b4,b5⟩
 have ff:∀{w:List Int},w=(tops y.tgt.2 v y.A).map full->(∀ a∈w,0<=a/\a<=10 ^ 25)/\w.length=y.tgt.2/\∀(j:Nat) (t:Int),(tops y.tgt.2 v y.A)[j]?=some (some t)->w.getD j 0<=t:=λ{w} e=>by
   subst e;refine⟨λa ha=>?_,by simp[lt],λj t hj=>?_⟩
   . obtain⟨o,h1,rfl⟩:=tM.mp ha;exact fb o h1
   . rw[sU,tU,hj];exact Int.le_refl _
 rw[P1.wL,zK];refine xX (λ_=>?_) λ_=>?_
 . rw[yt h61,zK];dsimp only;refine uG (λd=>match d with | .int i=>some (.int (min i 20)) | _=>none) h61 (by simp[lt];omega) (λd hd s2 p2=>?_) λs2 p2 h2=>?_
   . obtain⟨a,ha,rfl⟩:=tM.mp hd;refine⟨_,rfl,?_⟩;simp[Fc.wipe];exact Pf.refl
   . have e2:((((tops y.tgt.2 v y.A).map full).map D.int).filterMap λd=>match d with | .int i=>some (D.int (min i 20)) | _=>none)=(((tops y.tgt.2 v y.A).map full).map λi=>min i 20).map .int:=by
       generalize (tops y.tgt.2 v y.A).map full=fs
       induction fs with
       | nil=>rfl
       | cons a fs ih =>
        rw[tK,rD,ih];rfl
     rw[e2]at h2;simp[zV h2];obtain⟨f1',f2',f3'⟩:=ff (w:=(tops y.tgt.2 v y.A).map full) rfl;have:=fin (w:=((tops y.tgt.2 v y.A).map full).map λi=>min i 20) p2 (λa ha=>?_) (by simp[lt]) (λj t hj=>?_)
     . simpa[vD]using this
     . obtain⟨b,hb,rfl⟩:=tM.mp ha;have:=f1' b hb;omega
     . have:=f3' j t hj;rw[sU,tU,tU,hj]at *;simp at this ⊢;omega
 . rw[zV h61,zK];obtain⟨f1',f2',f3'⟩:=ff (w:=(tops y.tgt.2 v y.A).map full) rfl;exact fin Pf.refl f1' f2' f3'
end
section
variable{s s':S}{X:Xc}{Q:D->S->Prop}{P:Pst}{g p m k E z H r q B n6 N6:Nat}{hs:List (Str×Nat)}{l:List Rw}{pl:List D}{rn:List Str}{n:D}{x:Str×Nat}{v w:List Int}{y:Rw}{fs:List Int}{a1 a2 a3 a4 a5 a6 a7 a8 a9:Option D}
theorem zmD(hg:Gen s g (B+400))(hn:s[n6]?=some (.lst (fs.map .int)))(ng:n6≠g)(hf:∀ f∈fs,0<=f/\f<2 ^ 200)(lf:fs.length<=9)
  (hQ:∀(s':S) (v:List Int) (N:Nat),Fr g s s'->Gen s' g B->v.length=fs.length->(∀(j:Nat) (a:Int),v[j]?=some a->0<=a/\∃ f,fs[j]?=some f/\a<=f)->s'[N]?=some (.lst (v.map .int))->Q (.ref N) s') :
  wE (uf s λD0 s2=>lcL D0 n6 [7] (gName 7) tYes (zB P1.d_law_random [] (za (zf 0) (za (e2 xH (zf 7) (eC (.int 1))) zj))) fs.length 0 [some (.ref g),a1,a2,a3,a4,a5,a6,a7,a8,a9] s2) Q X:=by
 have lg:g<s.length:=by obtain⟨_,_,_,h,_⟩:=hg;exact zq h
 rw[zaZ]
 obtain⟨s',acc',h1,h2,v,rfl,h4,h5,h6,h7⟩:=zls (D0:=s.length) (n:=n6) (dsA:=fs.map .int) (vs:=[7]) (g:=gName 7) (t:=tYes) (e:=zB P1.d_law_random [] (za (zf 0) (za (e2 xH (zf 7) (eC (.int 1))) zj))) (σ:=[some (.ref g),a1,a2,a3,a4,a5,a6,a7,a8,a9])
  (λr acc s'=>∃ v:List Int,acc=v.map .int/\(v.length+r.length=fs.length/\r=(fs.drop v.length).map .int)/\(∀(j:Nat) (a:Int),v[j]?=some a->0<=a/\∃ f,fs[j]?=some f/\a<=f)/\Fr g s s'/\Gen s' g (B+40*r.length)) (λr acc s' ⟨_,_,_,_,f,_⟩=>f.2 _ ng _ hn) fs.length 0 [] (s:=s++[.lst []]) (by simp) ⟨[],rfl,by simp,λj a h=>by simp at h,Pf.app.fr,(Pf.app.gen hg).mono (by simp;omega)⟩ zH (by
  rintro d r acc s1 ⟨v,rfl,⟨hl,er⟩,hv,hf1,hgn⟩ hD
  have hlt:v.length<fs.length:=by simp at hl;omega
  have er':fs.drop v.length=fs[v.length]::fs.drop (v.length+1):=rO hlt;rw[er',tK,List.cons.injEq]at er;obtain⟨rfl,rfl⟩:=er;have gf:fs[v.length]?=some fs[v.length]:=tQ hlt;obtain⟨f0,f1⟩:=hf fs[v.length] (rM hlt);generalize fs[v.length]=f at *;refine⟨_,rfl,?_⟩;simp[Fc.wipe];refine yo (B:=B+40*(fs.drop (v.length+1)).length) (hgn.mono (by simp;omega)) (by omega) (by omega) λz o q1 q2 g2=>?_
  have gne:s.length≠g:=by omega
  refine⟨by rw[zJ (tY gne)];exact hD,by first | omega | (simp;omega),v++[z],by simp,⟨by simp at hl ⊢;omega,by simp⟩,?_,?_,?_⟩
  . intro j a hj;by_cases hjl:j<v.length
    . rw[sX hjl]at hj;exact hv j a hj
    . have:j=v.length:=by
       have:=(su.mp hj).1;simp at this;omega
      subst this;rw[qp (by omega)]at hj;simp at hj;subst hj;exact⟨q1,f,gf,by omega⟩
  . have fa:=hf1.trans (Fr.set (o:=o));refine⟨by simpa using fa.1,λw hw o' e=>?_⟩;have:=zq e;rw[zJ (by omega)];exact fa.2 w hw o' e
  . obtain⟨u1,u2,u3,u4,u5⟩:=g2
    exact⟨u1,u2,u3,by rw[zJ gne];exact u4,by simpa using u5⟩)
 refine⟨s',h1,?_⟩;exact hQ s' v _ h6 (h7.mono (by omega)) (by simpa using h4.1) h5 h2
theorem ztz(h:Gg s g p m k E z H hs l)(hg:Gen s g (B+600))(hr:RA s r p q pl)(at_:At hs pl n x v)(rp:Rn l pl rn)(hl:pl.length<=800)(hy:y∈l)(he:y.src.1=x.1)(ho:y.A.any (neg v)=false)(h6:s[N6]?=some (.lst (((tops y.tgt.2 v y.A).map full).map .int)))(n6:N6≠g)(nq:N6≠q)
   (nm:p≠q/\m≠q/\k≠q/\E≠q/\z≠q/\H≠q) (na:∀ r∈l,r.a≠q)
   (hQ:∀ s' w,Kq g q s s'->Gen s' g B->RA s' r p q (pl++[plD (.str y.nm) y.tgt.1 w])->At hs (pl++[plD (.str y.nm) y.tgt.1 w]) (.str y.nm) y.tgt w->P.rt (.bl true) s') :
   wC (H6 [some (.ref g),some (.ref r),some (rwD y),a3,a4,a5,some (.ref N6),a7,a8,a9] s) P:=by
 have r0:∀ s,atD s (rwD y) (.int 0)=some (.str y.nm):=λ_=>rfl;have r2:∀ s,atD s (rwD y) (.int 2)=some (.str y.tgt.1):=λ_=>rfl;obtain⟨_,_,w3,w4,w5,_⟩:=h.gd.wd.ln y hy;have h4:=(h.gd.wd.hn _ w4).2.2;have fb:=zea (n:=y.tgt.2) (λa ha=>(w5 a ha).2) at_.bd ho;have lt:(tops y.tgt.2 v y.A).length=y.tgt.2:=xK;obtain⟨hrg,hqg,hrq⟩:=zpz hr hg rp;unfold H6;refine xm.mpr ?_;generalize hE:H7=Eu;simp;rw[yt h6,zK];dsimp only;rw[show(((tops y.tgt.2 v y.A).map full).map D.int).length=((tops y.tgt.2 v y.A).map full).length by simp];refine zmD (B:=B+200) (hg.mono (by omega)) h6 n6 (λf hf=>?_) (by simp[lt];omega) λs1 w N f1 g1 lw hw h1=>?_
 . obtain⟨o,ho,rfl⟩:=tM.mp hf;have:=fb o ho;omega
 simp[zV h1]
 have lw':w.length=y.tgt.2:=by rw[lw];simp[lt]
 have wok:∀ a∈w,0<=a/\a<=10 ^ 25:=λa ha=>by
   obtain⟨j,hj,rfl⟩:=qd.mp ha;obtain⟨h1,f,h2,h3⟩:=hw j _ (tQ hj);rw[tU]at h2;obtain⟨o,h4,rfl⟩:=tW.mp h2;have:=fb o (rH h4);exact⟨h1,by omega⟩
 have hk:∀(j:Nat) (t:Int),(tops y.tgt.2 v y.A)[j]?=some (some t)->w.getD j 0<=t:=λj t hj=>by
   have jl:=(su.mp hj).1
   have jw:j<w.length:=by omega
   obtain⟨_,f,h2,h3⟩:=hw j _ (tQ jw);rw[tU,hj]at h2
   injection h2 with h2
   have e:full (some t)=t:=rfl;rw[e]at h2;rw[sU,tQ jw];show w[j]<=t;omega
 have hh1:=h.fr f1;have hr1:=zpy hr hg rp f1;have h61:=f1.2 _ n6 _ h6;rw[← hE];unfold H7;refine xm.mpr ?_;generalize hE:H8=Eu;simp[hr1.isM (x:="call") rfl,r0];refine zii (w:=w) hh1.pa h.gd hr1 at_ (by omega) hy he (λa ha=>(wok a ha).1) lw' hk λs2 p2=>?_;have hr2:=zkS (pl':=pl++[plD (.str y.nm) y.tgt.1 w]) (hr1.pf p2);have at2:=At.push (pl:=pl) (y:=y) w4 lw' wok;have k2:Kq g q s (s2.set q (.lst (pl++[plD (.str y.nm) y.tgt.1 w]))):=((zqU f1).trans (zjU p2)).trans zjV
 have g2:Gen (s2.set q (.lst (pl++[plD (.str y.nm) y.tgt.1 w]))) g (B+200):=by
   obtain⟨b1,b2,b3,b4,b5⟩:=p2.gen g1;exact⟨b1,b2,b3,by rw[zJ hqg];exact b4,b5⟩
 generalize s2.set q (.lst (pl++[plD (.str y.nm) y.tgt.1 w]))=s3 at *;rw[← hE];unfold H8;refine xm.mpr ?_;generalize hE:H9=Eu;simp[hr2.isM (x:="held") rfl];refine jB hr2 at2.last ?_;have e9:eqD s3 (vD w) (.tup (w.map .int))=some true:=P85.zqz;simp[e9,hr2.isM (x:="function") rfl];refine uK hr2 at2.last ?_;have okt:=(h.gd.wd.hn _ w4).1.okS;simp[r2,P85.vf okt okt];rw[← hE];unfold H9;refine xm.mpr ?_;generalize hE:H10=Eu;simp[hr2.isM (x:="back") rfl];refine P84.zoh hr2 rp.ne ?_;have hr4:=zkS (pl':=pl) hr2;have k4:Kq g q s (s3.set q (.lst pl)):=k2.trans zjV
 have g4:Gen (s3.set q (.lst pl)) g (B+200):=by
   obtain⟨b1,b2,b3,b4,b5⟩:=g2;exact⟨b1,b2,b3,by rw[zJ hqg];exact b4,b5⟩
 generalize s3.set q (.lst pl)=s4 at *;obtain⟨m1,m2,m3,m4,m5,m6⟩:=nm;obtain⟨e1,e2,e3,e4,e5,e6⟩:=h.ne
 have hh4:Gg s4 g p m k E z H hs l:=⟨⟨k4 _ e1 m1 _ h.pa.at_,k4 _ e2 m2 _ h.pa.many,k4 _ e3 m3 _ h.pa.known⟩,k4 _ e4 m4 _ h.e,λr hr=>k4 _ (h.na r hr) (na r hr) _ (h.ar r hr),k4 _ e5 m5 _ h.mz,k4 _ e6 m6 _ h.hh,h.gd,h.hl,h.ll,h.ne,h.na⟩
 rw[← hE];exact zrH hh4 (B:=B) (g4.mono (by omega)) hr4 at_ rp hl hy he ho (k4 _ n6 nq _ h6) n6 λs5 w5 k5 g5 r5 a5=>hQ s5 w5 (k4.trans k5) g5 r5 a5
end
section
variable{s s':S}{P:Pst}{g p m k E z H r q N6 M j:Nat}{hs:List (Str×Nat)}{l:List Rw}{pl:List D}{rn:List Str}{n:D}{x:Str×Nat}{v w:List Int}{y:Rw}{fs:List Int}{a0 a3 a5 a6 a7 a9:Option D}
def zcj(fs:List Int)(j:Nat):List Int:=fs.take j++[fs.getD j 0+1]++fs.drop (j+1)
theorem zki(h:j<fs.length):(zcj fs j).length=fs.length:=by
 unfold zcj;simp;omega
theorem zmb(h:j<fs.length):(zcj fs j).getD j 0=fs.getD j 0+1:=by
 unfold zcj;rw[sU,ou,qp (by simp;omega)]
 have:j - (fs.take j).length=0:=by simp;omega
 rw[this];simp
theorem zkj(hf:∀ f∈fs,0<=f):∀ a∈zcj fs j,0<=a:=λa ha=>by
 unfold zcj at ha
 rcases tZ.mp ha with ha | ha
 . rcases tZ.mp ha with ha | ha
   . exact hf a (List.mem_of_mem_take ha)
   . rw[sS.mp ha,sU]
     cases e:fs[j]? with
     | none=>simp
     | some b =>
      have:=hf b (rH e);simp;omega
 . exact hf a (oR ha)
theorem zrI(h:Gg s g p m k E z H hs l)(hr:RA s r p q pl)(at_:At hs pl n x v)(rp:Rn l pl rn)(hl:pl.length<=800)(hy:y∈l)(he:y.src.1=x.1)(ho:y.A.any (neg v)=false)(hM:s[M]?=some (.lst ((tops y.tgt.2 v y.A).map oD)))(h6:s[N6]?=some (.lst (((tops y.tgt.2 v y.A).map full).map .int)))(hj:j<y.tgt.2)
  (hQ:∀ s',Pf s s'->P.nx [a0,some (.ref r),some (rwD y),a3,some (.ref M),a5,some (.ref N6),a7,some (.int (j:Int)),a9] s') :
  wC (H5b [a0,some (.ref r),some (rwD y),a3,some (.ref M),a5,some (.ref N6),a7,some (.int (j:Int)),a9] s) P:=by
 have r0:∀ s,atD s (rwD y) (.int 0)=some (.str y.nm):=λ_=>rfl;obtain⟨_,_,w3,w4,w5,_⟩:=h.gd.wd.ln y hy;have h4:=(h.gd.wd.hn _ w4).2.2;have arcs:∀ a∈y.A,a.2.1<y.tgt.2:=λa ha=>(w5 a ha).2;have fb:=zea (n:=y.tgt.2) arcs at_.bd ho;have lt:(tops y.tgt.2 v y.A).length=y.tgt.2:=xK;have ej:(tops y.tgt.2 v y.A)[j]?=some (tops y.tgt.2 v y.A)[j]:=tQ (by omega)
 have aM:atD s (.ref M) (.int (j:Int))=some (oD (tops y.tgt.2 v y.A)[j]):=by rw[yO hM,atI_nat,tU,ej];rfl
 unfold H5b;refine zsQ.mpr ?_;generalize hR:cIf (tNot _) _ _=RR;simp[aM]
 cases eo:(tops y.tgt.2 v y.A)[j]with
 | none =>
  simp[oD,isNon];exact hQ _ Pf.refl
 | some t =>
  simp[oD,isNon];rw[← hR];rw[eo]at ej
  have l6:((tops y.tgt.2 v y.A).map full).length=y.tgt.2:=by simp[lt]
  have e6:((tops y.tgt.2 v y.A).map full)[j]?=some t:=by rw[tU,ej];rfl
  have fnn:∀ f∈(tops y.tgt.2 v y.A).map full,0<=f:=λf hf=>by
   obtain⟨o,h1,rfl⟩:=tM.mp hf;exact(fb o h1).1
  generalize hfs:(tops y.tgt.2 v y.A).map full=fs at *
  have g6:fs.getD j 0=t:=by rw[sU,e6];rfl
  simp[r0];rw[zcp h6,show zeG (fs.map D.int) none (some (j:Int))=(fs.take j).map .int by rw[PW.zal,List.map_take]];have p1:Pf s (s++[O.lst ((fs.take j).map .int)]):=Pf.app;have g1:=zH (s:=s) (o:=O.lst ((fs.take j).map .int));generalize s++[O.lst ((fs.take j).map .int)]=s1 at *;generalize s.length=j1 at *
  have a6:atD s1 (.ref N6) (.int (j:Int))=some (.int t):=by rw[yO (p1 _ _ h6),atI_nat,tU,e6];rfl
  simp[a6];have p2:Pf s1 (s1++[O.lst [.int (t+1)]]):=Pf.app;have g2:=zH (s:=s1) (o:=O.lst [.int (t+1)]);generalize s1++[O.lst [.int (t+1)]]=s2 at *;generalize s1.length=j2 at *;refine(P85.zco (p2 _ _ g1) g2 (by simp;omega)).mpr ?_;have p3:Pf s2 (s2++[O.lst ((fs.take j).map .int++[.int (t+1)])]):=Pf.app;have g3:=zH (s:=s2) (o:=O.lst ((fs.take j).map .int++[.int (t+1)]));generalize s2++[O.lst ((fs.take j).map .int++[.int (t+1)])]=s3 at *;generalize s2.length=j3 at *;have p03:=p1.trans (p2.trans p3)
  try simp
  rw[zcp (p03 _ _ h6),show zeG (fs.map D.int) (some ((j:Int)+1)) none=(fs.drop (j+1)).map .int by rw[show(some ((j:Int)+1):Option Int)=some (((j+1:Nat)):Int) by simp,PW.wJ,List.map_drop]];have p4:Pf s3 (s3++[O.lst ((fs.drop (j+1)).map .int)]):=Pf.app;have g4:=zH (s:=s3) (o:=O.lst ((fs.drop (j+1)).map .int));generalize s3++[O.lst ((fs.drop (j+1)).map .int)]=s4 at *;generalize s3.length=j4 at *;refine(P85.zco (p4 _ _ g3) g4 (by simp;omega)).mpr ?_;have p5:Pf s4 (s4++[O.lst ((fs.take j).map .int++[.int (t+1)]++(fs.drop (j+1)).map .int)]):=Pf.app;have g5:=zH (s:=s4) (o:=O.lst ((fs.take j).map .int++[.int (t+1)]++(fs.drop (j+1)).map .int))
  have ew:(fs.take j).map .int++[D.int (t+1)]++(fs.drop (j+1)).map .int=(zcj fs j).map .int:=by unfold zcj;rw[g6];simp
  rw[ew]at p5 g5 ⊢;generalize s4++[O.lst ((zcj fs j).map .int)]=s5 at *;generalize s4.length=j5 at *;have p05:=p03.trans (p4.trans p5);simp[zV g5];have hk:=zqS (v:=v) (w:=zcj fs j) (A:=y.A) (n:=y.tgt.2) (j:=j) (t:=t) ej (by rw[zmb (by omega),g6]);refine zja (w:=zcj fs j) (h.pa.pf' p05) h.gd (hr.pf p05) at_.last rp (by omega) at_.mem at_.len hy he (zkj fnn) (by rw[zki (by omega)];exact l6) hk λs6 p6=>?_;simp;exact hQ _ (p05.trans p6)
end
section
variable{s s':S}{X:Xc}{Q:D->S->Prop}{P:Pst}{g p m k E z H r q B N6 M:Nat}{hs:List (Str×Nat)}{l:List Rw}{pl:List D}{rn:List Str}{n:D}{x:Str×Nat}{v w:List Int}{y:Rw}{fs:List Int}{a2 a3 a5 a7 a8 a9:Option D}
theorem zty(h:Gg s g p m k E z H hs l)(hg:Gen s g (B+600))(hr:RA s r p q pl)(at_:At hs pl n x v)(rp:Rn l pl rn)(hl:pl.length<=800)(hy:y∈l)(he:y.src.1=x.1)(ho:y.A.any (neg v)=false)(hM:s[M]?=some (.lst ((tops y.tgt.2 v y.A).map oD)))(h6:s[N6]?=some (.lst (((tops y.tgt.2 v y.A).map full).map .int)))(n6:N6≠g)(nq:N6≠q)
   (nm:p≠q/\m≠q/\k≠q/\E≠q/\z≠q/\H≠q) (na:∀ r∈l,r.a≠q)
   (hQ:∀ s' w,Kq g q s s'->Gen s' g B->RA s' r p q (pl++[plD (.str y.nm) y.tgt.1 w])->At hs (pl++[plD (.str y.nm) y.tgt.1 w]) (.str y.nm) y.tgt w->P.rt (.bl true) s') :
   wC (H5 [some (.ref g),some (.ref r),some (rwD y),a3,some (.ref M),a5,some (.ref N6),a7,a8,a9] s) P:=by
 have w4:=(h.gd.wd.ln y hy).2.2.2.1;have h4:=(h.gd.wd.hn _ w4).2.2;have lt:(tops y.tgt.2 v y.A).length=y.tgt.2:=xK;unfold H5;generalize hE:H6=Eu;generalize hB:H5b=Bd;simp[vo hM,lt];rw[show small ((y.tgt.2:Nat):Int)=true by unfold small;simp;omega,yI,P35.zaI];refine yP (λrr σ s'=>∃(i:Nat) (b8:Option D),rr=((List.range y.tgt.2).drop i).map (λi:Nat=>D.int (i:Int))/\σ=[some (.ref g),some (.ref r),some (rwD y),a3,some (.ref M),a5,some (.ref N6),a7,b8,a9]/\Pf s s') _ ⟨0,_,rfl,rfl,Pf.refl⟩ ?_ ?_
 . rintro d rr σ s1 ⟨i,b8,er,rfl,p1⟩;by_cases hi:i<y.tgt.2
   . rw[rO (by simpa using hi)]at er;simp at er;obtain⟨rfl,rfl⟩:=er;refine⟨_,rfl,?_⟩;rw[← hB];refine zrI (h.fr p1.fr) (hr.pf p1) at_ rp hl hy he ho (p1 _ _ hM) (p1 _ _ h6) hi λs2 p2=>?_;exact⟨i+1,_,by simp,rfl,p1.trans p2⟩
   . rw[qL (by simp;omega)]at er;cases er
 . rintro σ s1 ⟨i,b8,er,rfl,p1⟩;rw[← hE];exact ztz (h.fr p1.fr) (p1.gen hg) (hr.pf p1) at_ rp hl hy he ho (p1 _ _ h6) n6 nq nm na λs2 w k2 g2 r2 a2=>hQ s2 w ((zjU p1).trans k2) g2 r2 a2
theorem zey(h:Gg s g p m k E z H hs l)(hg:Gen s g (B+600))(hr:RA s r p q pl)(at_:At hs pl n x v)(rp:Rn l pl rn)(hl:pl.length<=800)(hy:y∈l)(ho:opn x.1 v y=true)
   (nm:p≠q/\m≠q/\k≠q/\E≠q/\z≠q/\H≠q) (na:∀ r∈l,r.a≠q)
   (hQ:∀ s' w,Kq g q s s'->Gen s' g B->RA s' r p q (pl++[plD (.str y.nm) y.tgt.1 w])->At hs (pl++[plD (.str y.nm) y.tgt.1 w]) (.str y.nm) y.tgt w->Q (.bl true) s') :
   wE (Law_k86.d_law_call_right [.ref g,.ref r,rwD y,.ref z] s) Q X:=by
 have r0:∀ s,atD s (rwD y) (.int 0)=some (.str y.nm):=λ_=>rfl
 have hoo:y.src.1=x.1/\y.A.any (neg v)=false:=by
   unfold opn at ho;simpa using ho
 obtain⟨he,hno⟩:=hoo;obtain⟨_,_,w3,w4,w5,_⟩:=h.gd.wd.ln y hy;have h4:=(h.gd.wd.hn _ w4).2.2;have arcs:∀ a∈y.A,a.2.1<y.tgt.2:=λa ha=>(w5 a ha).2;have fb:=zea (n:=y.tgt.2) arcs at_.bd hno;have lt:(tops y.tgt.2 v y.A).length=y.tgt.2:=xK;have esz:x=y.src:=zcB h.gd at_.mem w3 he.symm;have cl:=h.cl hy;have lg:=kh hg;have lq:=zq hr.pls;unfold Law_k86.d_law_call_right;refine(yD (by rfl)).mpr ?_;rw[zuA];unfold H0;refine xm.mpr ?_;generalize hE:H1=Eu;simp[hr.isM (x:="held") rfl];refine jB hr at_.last ?_;refine P84.zgM h.hl h.gd.nd h.mz (by rw[at_.len,esz]) cl (h.ar y hy) (λhn s1 p1=>by rw[hno]at hn;cases hn) λ_ s1 M p1 gM lM=>?_;rw[← hE];unfold H1;refine xm.mpr ?_;generalize hE:H2=Eu;have hr1:=hr.pf p1;simp[hr1.isM (x:="most") rfl,r0];refine P84.zmH (h.pa.pf' p1) (zbh h.gd) h.gd.nd h.gd.nl hr1 at_.last at_.mem at_.len cl (λhf=>by rw[ho]at hf;cases hf) λ_ s2 T p2 gT lT=>?_;have p02:=p1.trans p2
 have tb:∀ o∈tops y.tgt.2 v y.A,∀ i,o=some i->-1<=i/\i<=10 ^ 50:=λo hh i hi=>by
   have:=jC (n:=y.tgt.2) (A:=y.A) (v:=v) (M:=10 ^ 25) (by decide) at_.bd o hh i hi
   have e1:(10:Int) ^ 25<=10 ^ 50:=by decide
   omega
 obtain⟨x0,x1,x2,x3,x4⟩:=(jA tb (by omega) gT).ex;obtain⟨y0,y1,y2,y3,y4⟩:=(jA tb (by omega) (p2 _ _ gM)).ex;have ok0:=(jA tb (by omega) gT).ok;rw[x4]at x3;rw[y4]at y3;rw[← hE];unfold H2;refine xm.mpr ?_;generalize hE:H3=Eu;simp[x1,x2,x3,x4,y1,y2,y3,y4,P1.vf ok0 ok0];rw[← hE];unfold H3;refine xm.mpr ?_;generalize hE:H4=Eu;simp[isl gT,zV gT,show(tops y.tgt.2 v y.A).length<16777216 by omega];have l1:=p1.len;have lMs:=zq gM;have p3:Pf s (s2.set T (.lst ((tops y.tgt.2 v y.A).map oD++[.non]))):=PW.zpr p02 (by omega)
 have hM3:(s2.set T (.lst ((tops y.tgt.2 v y.A).map oD++[.non])))[M]?=some (.lst ((tops y.tgt.2 v y.A).map oD)):=by
   rw[zJ (by omega)];exact p2 _ _ gM
 generalize s2.set T (.lst ((tops y.tgt.2 v y.A).map oD++[.non]))=s3 at *;have l3:=p3.len;rw[← hE];unfold H4;refine xm.mpr ?_;generalize hE:H5=Eu;simp;rw[yt hM3,zK];dsimp only;refine uG (λd=>match d with | .non=>some (.int (10 ^ 25)) | _=>some d) hM3 (by simp;omega) (λd hd s4 p4=>?_) λs4 p4 h4'=>?_
 . obtain⟨o,ho,rfl⟩:=tM.mp hd;refine⟨_,rfl,?_⟩
   cases o with
   | none =>
    simp[Fc.wipe,oD,isNon];refine⟨Pf.refl,?_⟩;rw[show decide ((bits 10+1)*25<=100000)=true by decide +kernel,yI];exact Pf.refl
   | some i =>
    simp[Fc.wipe,oD,isNon];exact Pf.refl
 have e4:(((tops y.tgt.2 v y.A).map oD).filterMap λd=>match d with | .non=>some (.int (10 ^ 25)) | _=>some d)=((tops y.tgt.2 v y.A).map full).map .int:=by
   generalize tops y.tgt.2 v y.A=fs
   induction fs with
   | nil=>rfl
   | cons q fs ih =>
    rw[tK,rD,ih];cases q <;> rfl
 rw[e4]at h4';have p04:=p3.trans p4
 try simp
 rw[← hE];exact zty (h.fr p04.fr) (p04.gen hg) (hr.pf p04) at_ rp hl hy he hno (p4 _ _ hM3) h4' (by omega) (by omega) nm na λs5 w k5 g5 r5 a5=>hQ s5 w ((zjU p04).trans k5) g5 r5 a5
end
end P86
namespace P86
open PySem Fc P1 P85 PB PC P31 P21 PR
open PW (mOf Gd Arcs)
open P20 (yt)
open P84 (tops stT kpt okA zdu wU)
noncomputable section
def RdB:C:=(zR (zY "Run" "call" P84.d_Run_call [] (zf 4) (za (e2 oAt (zf 2) (zf 6)) (za (e2 oAt (zf 3) (e2 oMod (eN yS (za (e2 xH (zf 6) (eC (.int 1))) zj)) (eN vA (za (zf 3) zj)))) zj))))
def Rd5:C:=(cIf (tB (e2 oNe (zY "Run" "held" d_Run_held [] (zf 4) zj) (e2 oAt (zf 3) (eC (.int 0)))))
 (ye (eC (.bl false)))
 yh)
def Rd4:C:=zE (xg (yf (eC (.int 0)) (eN vA (za (zf 2) zj))) (gName 6) RdB) Rd5
def Rd6:C:=(ye (e2 oEq (zY "Run" "row" d_Run_row [] (zf 4) zj) (e2 jN (zf 2) (eC (.int 3)))))
def Rd3:C:=zE (xg (yf (eC (.int 0)) (eC (.int 3))) (gName 5) Rd4) Rd6
def Rd2:C:=zE (zQ (zbP "Run" P85.d_Run_init [] (za (zf 0) (za (e2 oAt (e2 oAt (zY "Program" "calls" d_Program_calls [] (zf 0) zj) (eM zcf (zY "Program" "names" d_Program_names [] (zf 0) zj) (za (e2 oAt (zf 2) (eC (.int 0))) zj))) (eC (.int 1))) (za (e2 oAt (zf 3) (eC (.int 0))) zj)))) (gName 4)) Rd3
def Rd1:C:=zE (zQ (zf 1) (gTup 2 (gCons (gName 2) (gCons (gName 3) gNil)))) Rd2
def Rd0:C:=zE (cIf (tOr (tB (e1 zei (zf 1))) (tB (e2 oGt (eN vA (za (e2 oAt (zf 1) (eC (.int 0))) zj)) (eC (.int 90)))))
 (ye (eC (.bl true)))
 yh) Rd1
theorem zmu:Law_k86.b_law_round_right=zE (zQ (zB P33.d_ring [.non] (za (zf 0) zj)) (gName 1)) Rd0:=rfl
end
def Wv(R:List Rw)(W:List (List Int))(c:Nat):List Int:=W.getD (c%R.length) []
def plc(R:List Rw)(W:List (List Int)):Nat->List D
 | 0=>[plD .non (rowAt R 0).src.1 (Wv R W 0)]
 | c+1=>plc R W c++[plD (.str (rowAt R c).nm) (rowAt R c).tgt.1 (Wv R W (c+1))]
section
variable{s s':S}{X:Xc}{Q:D->S->Prop}{p m k r q c a b:Nat}{hs:List (Str×Nat)}{l R:List Rw}{W:List (List Int)}
theorem zqk{i j:Nat}(h:i%R.length=j%R.length):Wv R W i=Wv R W j:=by
 unfold Wv;rw[h]
theorem zhR(gd:Gd hs l)(hR:∀ q∈R,q∈l)(hc:clo R=true)(ne:0<R.length)(c:Nat):(rowAt R c).tgt=(rowAt R (c+1)).src:=by
 have h:=zhm gd hR hc (rF c ne);rw[jx]at h;rw[h,jx];congr 1;rw[← jx (p:=c%R.length+1),← jx (p:=c+1)];congr 1;rw[Nat.add_mod,Nat.mod_mod,← Nat.add_mod]
theorem zhW(gd:Gd hs l)(hR:∀ q∈R,q∈l)(hc:clo R=true)(ne:0<R.length):∀ c,∃ n,L2.atI (plc R W c) (-1)=some (plD n (rowAt R c).src.1 (Wv R W c))
 | 0=>⟨.non,rfl⟩
 | c+1=>⟨_,by
  rw[← zhR gd hR hc ne c]
  exact L2.atI_last _ _⟩
theorem znD:∀ c,∀ d∈plc R W c,∃ a b e,d=.tup [a,b,e]
 | 0,d,h=>by
  rw[sS.mp h];exact⟨_,_,_,rfl⟩
 | c+1,d,h=>by
  rcases tZ.mp h with h | h
  . exact znD c d h
  . rw[sS.mp h];exact⟨_,_,_,rfl⟩
theorem zem:∀ c,(plc R W c).length=c+1
 | 0=>rfl
 | c+1=>by
  show(plc R W c++[_]).length=_;rw[qG,zem c];rfl
theorem zkJ:∀ c,((plc R W c).drop 1).filterMap zdu=(List.range c).map λi=>D.str (rowAt R i).nm
 | 0=>rfl
 | c+1=>by
  have hl:=zem (R:=R) (W:=W) c;show((plc R W c++[_]).drop 1).filterMap zdu=_;rw[List.drop_append_of_le_length (by omega),List.filterMap_append,zkJ c,List.range_succ,sV];rfl
theorem zkH{α:Type}{f:Nat->α}{n:Nat}(h:∀ i k,f (i+k*n)=f i):∀ k,(List.range (k*n)).map f=(List.replicate k ((List.range n).map f)).flatten
 | 0=>by simp
 | k+1=>by
  rw[Nat.succ_mul,List.range_add,sV,zkH h k,List.replicate_succ',List.flatten_append];congr 1;rw[sO];simp only[pO,List.flatten_nil,sJ];refine qM λi _=>?_;show f (k*n+i)=f i;rw[Nat.add_comm];exact h i k
theorem zmC(pa:PA s p m k hs l)(gd:Gd hs l)(hR:∀ q∈R,q∈l)(hc:clo R=true)(ne:0<R.length)(g:GoR R W)(hr:RA s r p q (plc R W c))(lc:c<=1000)
   (hQ:∀ s',Pf s s'->Q .non (s'.set q (.lst (plc R W (c+1))))):wE (P84.d_Run_call [.ref r,.str (rowAt R c).nm,vD (Wv R W (c+1))] s) Q X:=by
 have hn:R≠[]:=rW.mp ne;have hy:=hR _ (uE hn c);obtain⟨_,_,w3,w4,w5,_⟩:=gd.wd.ln _ hy;have h4:=(gd.wd.hn _ w4).2.2;obtain⟨nn,la⟩:=zhW (W:=W) gd hR hc ne c;have hm:=rF c ne;have hm1:=rF (c+1) ne;obtain⟨gl,g1,g2⟩:=g;have e1:=g1 _ hm;have e2:=g1 _ hm1;have e3:=g2 _ hm;rw[jx]at e1 e2 e3
 have em:(c%R.length+1)%R.length=(c+1)%R.length:=by rw[Nat.add_mod,Nat.mod_mod,← Nat.add_mod]
 rw[em]at e3;rw[← zhR gd hR hc ne c]at e2;refine P84.zeM (x:=(rowAt R c).src) (n:=nn) (v:=Wv R W c) (w:=Wv R W (c+1)) pa gd.nd gd.nl ⟨(gd.wd.hn _ w3).1.okS,(gd.wd.hn _ w3).1.okS⟩ hr la (by rw[zem];omega) hy w4 h4 rfl (λa ha=>e2.2 a ha) e2.1 (λa ha=>?_) (λh=>?_) λ_ s1 p1=>hQ s1 p1
 . have:=w5 a ha;exact⟨by show a.1<(W.getD (c%R.length) []).length;rw[e1.1];exact this.1,by show a.2.1<(W.getD ((c+1)%R.length) []).length;rw[e2.1];exact this.2⟩
 . exfalso;have e3':kpt (Wv R W c) (Wv R W (c+1)) (rowAt R c).A=true:=e3;rw[e3']at h;cases h
end
section
variable{s s':S}{P:Pst}{p m k r q c a b i t:Nat}{hs:List (Str×Nat)}{l R:List Rw}{W:List (List Int)}{v0 v1 v5 v6:Option D}
theorem zqI(nl:(l.map (·.nm)).Nodup){i:Nat}{x:Rw}(hx:l[i]?=some x):zoH (l.map λx=>D.str x.nm) (.str x.nm)=some i:=by
 have e:strsOf (l.map λx=>D.str x.nm)=some (l.map (·.nm)):=by
  rw[show(l.map λx=>D.str x.nm)=(l.map (·.nm)).map .str by rw[sO];rfl];exact zjc _
 unfold zoH;dsimp only;rw[e];dsimp only;have hm:x.nm∈l.map (·.nm):=tM.mpr ⟨x,rH hx,rfl⟩;rw[if_pos hm];have hi:=(su.mp hx).1
 have e2:(l.map (·.nm))[i]'(by simpa using hi)=x.nm:=by
  rw[qN];rw[(su.mp hx).2]
 congr 1;rw[← e2];exact nl.idxOf_getElem i _
theorem zeu{i:Nat}(h:i<R.length):R[i]?=some (rowAt R i):=by
 unfold rowAt;rw[qj h,tQ h];rfl
structure Rr(s:S)(p m k a b r q:Nat)(hs:List (Str×Nat))(l R:List Rw)(W:List (List Int))(c:Nat):Prop where
 pa:PA s p m k hs l
 ha:s[a]?=some (.lst (R.map λq=>.str q.nm))
 hb:s[b]?=some (.lst (W.map vD))
 ra:RA s r p q (plc R W c)
 nq:p≠q/\m≠q/\k≠q/\a≠q/\b≠q/\r≠q
theorem Rr.pf(h:Rr s p m k a b r q hs l R W c)(f:Pf s s'):Rr s' p m k a b r q hs l R W c:=⟨h.pa.pf' f,f _ _ h.ha,f _ _ h.hb,h.ra.pf f,h.nq⟩
theorem Rr.set(h:Rr s p m k a b r q hs l R W c):Rr (s.set q (.lst (plc R W (c+1)))) p m k a b r q hs l R W (c+1):=by
 obtain⟨h1,h2,h3,h4,h5,h6⟩:=h.nq;exact⟨⟨by rw[zJ (tY h1)];exact h.pa.at_,by rw[zJ (tY h2)];exact h.pa.many,by rw[zJ (tY h3)];exact h.pa.known⟩,by rw[zJ (tY h4)];exact h.ha,by rw[zJ (tY h5)];exact h.hb,⟨by rw[zJ (tY h6)];exact h.ra.at_,yM (zq h.ra.pls)⟩,h.nq⟩
theorem zrT(h:Rr s p m k a b r q hs l R W (t*R.length+i))(gd:Gd hs l)(hR:∀ q∈R,q∈l)(hc:clo R=true)(ne:0<R.length)(g:GoR R W)(ln:R.length<=90)(hi:i<R.length)(ht:t<3)
  (hQ:∀ s',Rr s' p m k a b r q hs l R W (t*R.length+i+1)->(∀ n,n≠q->∀ o,s[n]?=some o->s'[n]?=some o)->P.nx [v0,v1,some (.ref a),some (.ref b),some (.ref r),v5,some (.int (i:Int))] s') :
  wC (RdB [v0,v1,some (.ref a),some (.ref b),some (.ref r),v5,some (.int (i:Int))] s) P:=by
 have gl:=g.1
 have ea:atD s (.ref a) (.int (i:Int))=some (.str (rowAt R (t*R.length+i)).nm):=by
  rw[yO h.ha,atI_nat,tU,zeu hi,Nat.add_comm,jy];rfl
 have em:(((i:Int)+1)%(R.length:Int))=(((i+1)%R.length:Nat):Int):=by rw[show(i:Int)+1=((i+1:Nat):Int) by omega];exact(Int.natCast_emod _ _).symm
 have h1:(i+1)%R.length<W.length:=by rw[gl];exact rF _ ne
 have eb:atD s (.ref b) (.int (((i+1)%R.length:Nat):Int))=some (vD (Wv R W (t*R.length+i+1))):=by
  rw[yO h.hb,atI_nat,tU,tQ h1]
  have:Wv R W (t*R.length+i+1)=W[(i+1)%R.length]:=by
   unfold Wv;rw[show(t*R.length+i+1)%R.length=(i+1)%R.length by rw[Nat.add_assoc,Nat.add_comm,Nat.add_mul_mod_self_right],sU,tQ h1];rfl
  rw[this];rfl
 have t3:t*R.length<=2*90:=Nat.mul_le_mul (by omega) ln
 have lb:zfQ s (.ref b)=some R.length:=by rw[vo h.hb];simp[gl]
 unfold RdB;simp[h.ra.isM (x:="call") rfl,ea,lb];rw[show decide (0<R.length)=true from decide_eq_true ne,yI,em,eb,zK];refine zmC h.pa gd hR hc ne g h.ra (by omega) λs1 p1=>?_
 exact hQ _ (h.pf p1).set λn hn o e=>by rw[zJ (tY hn)];exact p1 _ _ e
theorem zrS(h:Rr s p m k a b r q hs l R W (t*R.length))(gd:Gd hs l)(hR:∀ q∈R,q∈l)(hc:clo R=true)(ne:0<R.length)(g:GoR R W)(ln:R.length<=90)(ht:t<3)
   (hQ:∀ s' v6,Rr s' p m k a b r q hs l R W ((t+1)*R.length)->(∀ n,n≠q->∀ o,s[n]?=some o->s'[n]?=some o)->P.nx [v0,v1,some (.ref a),some (.ref b),some (.ref r),v5,v6] s') :
   wC (Rd4 [v0,v1,some (.ref a),some (.ref b),some (.ref r),v5,v6] s) P:=by
 have gl:=g.1
 have la:zfQ s (.ref a)=some R.length:=by rw[vo h.ha];simp
 unfold Rd4;refine xm.mpr ?_;generalize hB:RdB=Bd;generalize hE:Rd5=Eu;simp[la];rw[show small ((R.length:Nat):Int)=true by unfold small;simp;omega,yI,P35.zaI];refine yP (λrr σ s'=>∃(i:Nat) (b6:Option D),i<=R.length/\rr=((List.range R.length).drop i).map (λi:Nat=>D.int (i:Int))/\σ=[v0,v1,some (.ref a),some (.ref b),some (.ref r),v5,b6]/\Rr s' p m k a b r q hs l R W (t*R.length+i)/\∀ n,n≠q->∀ o,s[n]?=some o->s'[n]?=some o) _ ⟨0,_,by omega,rfl,rfl,h,λn _ o e=>e⟩ ?_ ?_
 . rintro d rr σ s1 ⟨i,b6,li,er,rfl,h1,k1⟩;by_cases hi:i<R.length
   . rw[rO (by simpa using hi)]at er;simp at er;obtain⟨rfl,rfl⟩:=er;refine⟨_,rfl,?_⟩;rw[← hB];refine zrT h1 gd hR hc ne g ln hi ht λs2 h2 k2=>?_;exact⟨i+1,_,by omega,by simp,rfl,h2,λn hn o e=>k2 n hn o (k1 n hn o e)⟩
   . rw[qL (by simp;omega)]at er;cases er
 . rintro σ s1 ⟨i,b6,li,er,rfl,h1,k1⟩
   have hi:i=R.length:=by
     have:=congrArg List.length er;simp at this;omega
   subst hi;rw[show t*R.length+R.length=(t+1)*R.length by rw[Nat.succ_mul]]at h1;rw[← hE];unfold Rd5;obtain⟨nn,la1⟩:=zhW (W:=W) gd hR hc ne ((t+1)*R.length);have e0:Wv R W ((t+1)*R.length)=Wv R W 0:=zqk (by rw[Nat.mul_mod_left,Nat.zero_mod]);rw[e0]at la1
   have h0:0<W.length:=by omega
   have eb:atD s1 (.ref b) (.int 0)=some (vD (Wv R W 0)):=by
     rw[yO h1.hb,show(0:Int)=((0:Nat):Int)from rfl,atI_nat,tU,tQ h0]
     have:Wv R W 0=W[0]:=by
      unfold Wv;rw[Nat.zero_mod,sU,tQ h0];rfl
     rw[this];rfl
   simp[h1.ra.isM (x:="held") rfl];refine jB h1.ra la1 ?_;simp[eb];rw[P85.zqz,zK];simp;exact hQ _ _ h1 k1
end
end P86
namespace P53
open PySem Fc P1 P85 PB PC P31 P21 PR
open P20 (yt)
open PW (mOf Gd Arcs)
section
variable{s s':S}{X:Xc}{Q:D->S->Prop}{hs:List (Str×Nat)}{l:List Rw}{p m k q d v:Nat}{x:Str×Nat}{z:Str×Ste}{w:List Int}
theorem zfA{v:List Int}(ha:PA s p m k hs l)(nd:(hs.map (·.1)).Nodup)(hx:x∈hs)(hv:∀ z∈v,0<=z)(hl:v.length=x.2)(hl2:x.2<1000){Q:S->Prop}(hQ:∀(s':S) (q:Nat),Pf s s'->s.length<q->RA s' s.length p q [plD .non x.1 v]->Q s'):wE (d_Run_init [.ref s.length,.ref p,.str x.1,vD v] (s++[.ins "Run" []])) (λd s'=>onN d (Q s')) X:=by
 refine zgN zH (ha.pf Pf.app) nd hx hv hl hl2 λs' q hq hk hr _=>?_;simp;simp at hq;exact hQ _ _ (λw o e=>hk w (by have:=zq e;omega) o (Pf.app _ _ e)) (by omega) hr
end
end P53
namespace P86
open PySem Fc P1 P85 PB PC P31 P21 PR
open PW (mOf Gd Arcs)
open P20 (yt)
open P84 (tops stT kpt okA zdu wU)
section
variable{s s' s0:S}{X:Xc}{Q:D->S->Prop}{P:Pst}{p m k r q a b i t:Nat}{hs:List (Str×Nat)}{l R:List Rw}{L:List Tb}{W:List (List Int)}{v0 v1 v5 v6:Option D}
theorem zrR(h:Rr s p m k a b r q hs l R W 0)(gd:Gd hs l)(hR:∀ q∈R,q∈l)(hc:clo R=true)(ne:0<R.length)(g:GoR R W)(ln:R.length<=90)(lq:s0.length<=q)(p0:Pf s0 s)
   (hQ:∀ s',Pf s0 s'->P.rt (.bl true) s') :
   wC (Rd3 [v0,v1,some (.ref a),some (.ref b),some (.ref r),v5,v6] s) P:=by
 unfold Rd3;refine xm.mpr ?_;generalize hB:Rd4=Bd;generalize hE:Rd6=Eu;simp;rw[show([D.int 0,D.int 1,D.int 2]:List D)=(List.range 3).map λi:Nat=>D.int (i:Int)from rfl];refine yP (λrr σ s'=>∃(t:Nat) (b5 b6:Option D),t<=3/\rr=((List.range 3).drop t).map (λi:Nat=>D.int (i:Int))/\σ=[v0,v1,some (.ref a),some (.ref b),some (.ref r),b5,b6]/\Rr s' p m k a b r q hs l R W (t*R.length)/\∀ n,n≠q->∀ o,s[n]?=some o->s'[n]?=some o) _ ⟨0,_,_,by omega,rfl,rfl,by simpa using h,λn _ o e=>e⟩ ?_ ?_
 . rintro d rr σ s1 ⟨t,b5,b6,lt,er,rfl,h1,k1⟩;by_cases hi:t<3
   . rw[rO (by simpa using hi)]at er;simp at er;obtain⟨rfl,rfl⟩:=er;refine⟨_,rfl,?_⟩;rw[← hB];refine zrS h1 gd hR hc ne g ln hi λs2 b6 h2 k2=>?_;exact⟨t+1,_,_,by omega,by simp,rfl,h2,λn hn o e=>k2 n hn o (k1 n hn o e)⟩
   . rw[qL (by simp;omega)]at er;cases er
 . rintro σ s1 ⟨t,b5,b6,lt,er,rfl,h1,k1⟩
   have hi:t=3:=by
     have:=congrArg List.length er;simp at this;omega
   subst hi;rw[← hE];unfold Rd6;simp[h1.ra.isM (x:="row") rfl];refine wU h1.ra (by rw[zem];omega) (znD _) λs2 N p2 g2 l2=>?_;rw[zkJ]at g2;have f01:Pf s0 s1:=λn o e=>k1 n (by have:=zq e;omega) o (p0 _ _ e);refine(zpj (k:=3) (p2 _ _ h1.ha) (by decide) (by simp;omega)).mpr ?_
   have eR:(R.map λq=>D.str q.nm)=(List.range R.length).map λi=>D.str (rowAt R i).nm:=by
     refine ph λj=>?_;by_cases hj:j<R.length
     . rw[tU,tU,qF hj,zeu hj];rfl
     . rw[qT (by simp;omega),qT (by simp;omega)]
   have e3:=zkH (f:=λi=>D.str (rowAt R i).nm) (n:=R.length) (λi k=>by rw[jy]) 3
   have em:∀ n,((List.range n).map λi=>D.str (rowAt R i).nm)=((List.range n).map λi=>(rowAt R i).nm).map .str:=λn=>by rw[sO];rfl
   have hn:R≠[]:=rW.mp ne
   have ef:(List.replicate 3 (R.map λq=>D.str q.nm)).flatten=((List.range (3*R.length)).map λi=>(rowAt R i).nm).map .str:=by rw[eR,← e3,em]
   rw[ef];have p3:Pf s2 (s2++[O.lst (((List.range (3*R.length)).map λi=>(rowAt R i).nm).map .str)]):=Pf.app;have g3:=zH (s:=s2) (o:=O.lst (((List.range (3*R.length)).map λi=>(rowAt R i).nm).map .str));have g2':=p3 _ _ g2;rw[em]at g2'
   have ok:∀ x∈(List.range (3*R.length)).map λi=>(rowAt R i).nm,okS x:=λx hx=>by
     obtain⟨i,_,rfl⟩:=tM.mp hx;exact(P21.zfa gd (hR _ (uE hn i))).1
   have eq:=P84.zll ok g2' g3;rw[eq,zK];exact hQ _ (f01.trans (p2.trans p3))
theorem zmL(pa:PA s p m k hs l)(gd:Gd hs l)(few:Few (l.map tbR) L)(hQ:∀ s',Pf s s'->Q (.bl true) s'):wE (Law_k86.d_law_round_right [.ref p] s) Q X:=by
 have l40:=gd.wd.ll;unfold Law_k86.d_law_round_right;refine(yD (by rfl)).mpr ?_;rw[zmu];refine xm.mpr ?_;generalize hE:Rd0=Eu;simp;rw[show D.non=stD none from rfl];refine zmK (x:=none) pa gd few (λy e=>by cases e) λs1 d p1 hd=>?_;rw[← hE];unfold Rd0;refine xm.mpr ?_;generalize hE:Rd1=Eu
 rcases hd with rfl | ⟨a,r0,R,V,rfl,rg,ha,hb,hno⟩
 . simp[isNon];exact hQ _ p1
 . have gor:=zlR (zlJ gd rg.sub rg.clo) hno;rw[zqa]at hb;generalize zgW R V=W at *;have lR:=rg.len;have ne:0<R.length:=rW.mpr rg.ne;have a0:∀ s,atD s (.tup [.ref a,.ref r0]) (.int 0)=some (.ref a):=λs=>rfl
   have la:∀ s,Pf s1 s->zfQ s (.ref a)=some R.length:=λs f=>by rw[vo (f _ _ ha)];simp
   simp[isNon,a0,la s1 Pf.refl];refine xX (λ_=>hQ _ p1) λh90=>?_
   have ln:R.length<=90:=by simp at h90;omega
   rw[← hE];unfold Rd1;refine xm.mpr ?_;generalize hE:Rd2=Eu;have et:∀(σ:Fc.Env) (s:S),gTup 2 (gCons (gName 2) (gCons (gName 3) gNil)) (.tup [.ref a,.ref r0]) σ s=some ((σ.set 2 (some (.ref a))).set 3 (some (.ref r0))):=λσ s=>rfl;simp[et];rw[← hE];unfold Rd2;refine xm.mpr ?_;generalize hE:Rd3=Eu;have pa1:=pa.pf' p1;have hR0:=rg.sub _ (uE rg.ne 0);obtain⟨j,hj,ej⟩:=qd.mp hR0
   have ej':l[j]?=some (rowAt R 0):=by rw[tQ hj,ej]
   have aa:∀ s,Pf s1 s->atD s (.ref a) (.int 0)=some (.str (rowAt R 0).nm):=λs f=>by
    rw[yO (f _ _ ha),show(0:Int)=((0:Nat):Int)from rfl,atI_nat,tU,zeu ne];rfl
   have gl:=gor.1
   have h0:0<W.length:=by omega
   have ew:Wv R W 0=W[0]:=by
    unfold Wv;rw[Nat.zero_mod,sU,tQ h0];rfl
   have ab:∀ s,Pf s1 s->atD s (.ref r0) (.int 0)=some (vD (Wv R W 0)):=λs f=>by
    rw[yO (f _ _ hb),show(0:Int)=((0:Nat):Int)from rfl,atI_nat,tU,tQ h0,ew];rfl
   simp[pa1.isM (x:="calls") rfl];refine PW.jL pa1 (by omega) λs2 n2 l2 p2 g2 e2 ar2 _=>?_;have pa2:=pa1.pf' p2;simp[pa2.isM (x:="names") rfl];refine zmI pa2 ?_;have p3:Pf s2 (s2++[O.lst (l.map λq=>.str q.nm)]):=Pf.app;have g3:=zH (s:=s2) (o:=O.lst (l.map λq=>D.str q.nm));generalize s2++[O.lst (l.map λq=>D.str q.nm)]=s3 at *;generalize s2.length=j2 at *;have p13:=p2.trans p3;simp[aa s3 p13];rw[isl g3,yI];refine zpY g3 (zqI gd.nl ej') ?_
   have hj2:j<l2.length:=by have:=congrArg List.length e2;simp at this;omega
   have ac:atD s3 (.ref n2) (.int (j:Int))=some (rwD l2[j]):=by rw[yO (p3 _ _ g2),atI_nat,tU,tQ hj2];rfl
   have es:l2[j].src=(rowAt R 0).src:=by
    have e3:(l2.map PW.ct)[j]?=(l.map PW.ct)[j]?:=by rw[e2]
    rw[tU,tU,tQ hj2,ej']at e3
    injection e3 with e3
    have:=congrArg (λq:Rw=>q.src) e3;exact this
   have b1:∀(s:S) (q:Rw),atD s (rwD q) (.int 1)=some (.str q.src.1):=λs q=>rfl;simp[ac,b1,es,ab s3 p13];have w3:=(gd.wd.ln _ hR0).2.2.1;have h4:=(gd.wd.hn _ w3).2.2;have gv:=gor.2.1 0 ne
   have gv2:(Wv R W 0).length=(rowAt R 0).src.2/\∀ x∈Wv R W 0,0<=x:=by
    unfold Wv;rw[Nat.zero_mod];exact gv
   have pa3:=pa2.pf' p3;refine P53.zfA pa3 gd.nd w3 (λx hx=>gv2.2 x hx) gv2.1 (by omega) λs4 q4 p4 lq4 hr4=>?_
   try simp
   rw[← hE];have p14:=p13.trans p4;have pa4:=pa3.pf' p4;have lt:∀{n:Nat}{o:O},s3[n]?=some o->n<s3.length:=λh=>zq h;refine zrR (p:=p) (m:=m) (k:=k) (q:=q4) (R:=R) (W:=W) (s0:=s3) ⟨pa4,p14 _ _ ha,p14 _ _ hb,hr4,by have:=lt pa3.at_;omega,by have:=lt pa3.many;omega,by have:=lt pa3.known;omega,by have:=lt (p13 _ _ ha);omega,by have:=lt (p13 _ _ hb);omega,by omega⟩ gd rg.sub rg.clo ne gor ln (by omega) p4 λs5 p5=>?_;exact hQ _ (p1.trans (p13.trans p5))
end
end P86
namespace P86
open PySem Fc P1 P85 PB PC P31 P21 PR
open PW (mOf Gd Arcs)
open P20 (yt)
open P84 (tops stT kpt okA zdu wU zbh zlB zjw)
noncomputable section
def LtC:C:=(cIf (tNot (tE (zB Law_k86.d_law_call_right [] (za (zf 2) (za (zf 9) (za (zf 13) (za (zf 5) zj)))))))
 (ye (eC (.bl false)))
 yh)
def LtB:C:=(zE (zQ (e2 oAt (zf 11) (zB P1.d_law_random [] (za (zf 2) (za (eN vA (za (zf 11) zj)) zj)))) (gName 12))
 (zE (zQ (e2 oAt (eLc [14] (yG .seq (zf 4)) (gName 14) (tB (e2 oEq (e2 oAt (zf 14) (eC (.int 0))) (zf 12))) (zf 14)) (eC (.int 0))) (gName 13))
 LtC))
def Lt0:C:=(zE (zQ (zY "Run" "options" d_Run_options [] (zf 9) zj) (gName 11))
 (cIf (tB (e2 oNe (zf 11) (eN yr zj))) LtB yh))
def LwE:C:=(cIf (tOr (tNot (tE (zB Law_k86.d_law_round_right [] (za (zf 6) zj)))) (tOr (tB (e2 oNe (zY "Program" "calls" d_Program_calls [] (zf 6) zj) (zf 4))) (tB (e2 oNe (zY "Program" "functions" d_Program_functions [] (zf 6) zj) (zf 3)))))
 (ye (eC (.bl false)))
 yh)
def Lw4:C:=zE (xg (yf (eC (.int 0)) (eC (.int 20))) (gName 10) Lt0) LwE
def Lw3:C:=zE (zQ (zbP "Run" P85.d_Run_init [] (za (zf 6) (za (zf 7) (za (zB P85.d_law_worths [] (za (zf 2) (za (zf 8) (za (e2 oAt (eN yr (za (eC (.int 13)) (za (e2 zgt (eC (.int 10)) (eC (.int 20))) zj))) (zB P1.d_law_random [] (za (zf 2) (za (eC (.int 2)) zj)))) zj)))) zj)))) (gName 9)) Lw4
def Lw2:C:=zE (zQ (e2 oAt (zf 3) (zB P1.d_law_random [] (za (zf 2) (za (eN vA (za (zf 3) zj)) zj)))) (gTup 2 (gCons (gName 7) (gCons (gName 8) gNil)))) Lw3
def Lw1:C:=zE (zfT 5 6 (za (eN jh (za (zf 3) zj)) (za (zbP "Program" P85.d_Program_init [] (za (zf 3) (za (zf 4) zj))) zj))) Lw2
def Lw0:C:=zE (zQ (zB P1.d_law_generator [] (za (zf 0) (za (zf 1) zj))) (gName 2))
 (zE (zQ (zB P31.d_law_sized [] (za (zf 2) (za (e2 xH (eC (.int 1)) (zB P1.d_law_random [] (za (zf 2) (za (eC (.int 4)) zj)))) (za (eC (.int 6)) zj)))) (gTup 2 (gCons (gName 3) (gCons (gName 4) gNil)))) Lw1)
theorem zqV:Law_k86.b_law=zE (xg (yf (eC (.int 0)) (eC (.int 4))) (gName 1) Lw0) (ye (eC (.bl true))):=rfl
end
section
variable{s s':S}{P:Pst}{g p m k E z H r q B A:Nat}{hs:List (Str×Nat)}{l:List Rw}{pl:List D}{rn:List Str}{n:D}{x:Str×Nat}{v w:List Int}{y:Rw}{v0 v1 v6 v7 v8 v10 v11 v12 v13 v14:Option D}
structure Nq(p m k E z H q:Nat)(l:List Rw):Prop where
 nm:p≠q/\m≠q/\k≠q/\E≠q/\z≠q/\H≠q
 na:∀ r∈l,r.a≠q
theorem Gg.kq(h:Gg s g p m k E z H hs l)(nq:Nq p m k E z H q l)(f:Kq g q s s'):Gg s' g p m k E z H hs l:=by
 obtain⟨m1,m2,m3,m4,m5,m6⟩:=nq.nm;obtain⟨e1,e2,e3,e4,e5,e6⟩:=h.ne;exact⟨⟨f _ e1 m1 _ h.pa.at_,f _ e2 m2 _ h.pa.many,f _ e3 m3 _ h.pa.known⟩,f _ e4 m4 _ h.e,λr hr=>f _ (h.na r hr) (nq.na r hr) _ (h.ar r hr),f _ e5 m5 _ h.mz,f _ e6 m6 _ h.hh,h.gd,h.hl,h.ll,h.ne,h.na⟩
structure Rd(s:S)(g p m k E z H r q B N:Nat)(hs:List (Str×Nat))(l:List Rw):Prop where
 gg:Gg s g p m k E z H hs l
 nq:Nq p m k E z H q l
 gn:Gen s g B
 run:∃ pl rn n x v,RA s r p q pl/\At hs pl n x v/\Rn l pl rn/\pl.length<=N
theorem znL{y:Rw}:∀{l:List Rw},(l.map (·.nm)).Nodup->y∈l->l.filter (λq=>decide (q.nm=y.nm))=[y]
 | [],_,h=>by cases h
 | q::l,nd,h=>by
  rw[tK,qW]at nd
  rcases tR.mp h with rfl | h
  . rw[qH];rw[if_pos (by simp)]
    have:l.filter (λq=>decide (q.nm=y.nm))=[]:=List.filter_eq_nil_iff.mpr λq hq e=>nd.1 (by
     have e:q.nm=y.nm:=by simpa using e
     rw[← e]
     exact List.mem_map_of_mem hq)
    rw[this]
  . rw[qH]
    rw[if_neg (by
     intro e
     have e:q.nm=y.nm:=by simpa using e
     exact nd.1 (by rw[e];exact List.mem_map_of_mem h))]
    exact znL nd.2 h
theorem zrM{N:Nat}(h:Rd s g p m k E z H r q (B+1000) N hs l)(hN:N<=700)
  (hQ:∀ s' v11 v12 v13 v14,Rd s' g p m k E z H r q B (N+1) hs l->P.nx [v0,v1,some (.ref g),some (.ref H),some (.ref E),some (.ref z),v6,v7,v8,some (.ref r),v10,v11,v12,v13,v14] s') :
  wC (Lt0 [v0,v1,some (.ref g),some (.ref H),some (.ref E),some (.ref z),v6,v7,v8,some (.ref r),v10,v11,v12,v13,v14] s) P:=by
 obtain⟨gg,nq,gn,pl,rn,n,x,v,hr,at_,rp,lp⟩:=h;have ll:=gg.ll;have gd:=gg.gd;unfold Lt0;refine xm.mpr ?_;generalize hR:cIf _ _ _=RR;simp[hr.isM (x:="options") rfl];refine P84.zmJ gg.pa (zbh gd) gd.nd gd.nl hr at_.last at_.mem at_.len (λy hy=>gg.cl hy) (by omega) λs2 A p2 g2 lA=>?_;rw[zjw gd.nl]at g2
 have od:∀ a∈mst (zlB x.1 v l),∃ y∈l,y.nm=a/\opn x.1 v y=true:=λa ha=>by
  have ha:=wy.mem_iff.mp ha;unfold zlB at ha;obtain⟨y,hy,rfl⟩:=tM.mp ha;exact⟨y,(qX.mp hy).1,rfl,(qX.mp hy).2⟩
 have ld:(mst (zlB x.1 v l)).length<=10:=by
  rw[wy.length_eq]
  have h2:(zlB x.1 v l).length<=l.length:=by unfold zlB;rw[rA];exact List.length_filter_le ..
  omega
 generalize mst (zlB x.1 v l)=ns at *;have p3:Pf s2 (s2++[O.lst []]):=Pf.app
 have en:=zge (s:=s2++[O.lst []]) (λd hd=>by
  obtain⟨a,ha,rfl⟩:=tM.mp hd;obtain⟨y,hy,rfl,_⟩:=od a ha
  exact znW (P21.zfa gd hy).1) (p3 _ _ g2) zH
 have p23:=p2.trans p3;have gA:=p3 _ _ g2
 try simp
 rw[← hR];refine zsQ.mpr ?_;generalize hL:LtB=Lb;simp[en];generalize s2++[O.lst []]=s3 at *;have gg3:=gg.fr p23.fr;have gn3:=p23.gen gn;have hr3:=hr.pf p23;have lg:=kh gn
 cases ns with
 | nil =>
  simp;exact hQ _ _ _ _ _ ⟨gg3,nq,gn3.mono (by omega),pl,rn,n,x,v,hr3,at_,rp,by omega⟩
 | cons a0 ns0 =>
  have hne:0<(a0::ns0).length:=by simp
  generalize hns:a0::ns0=ns at *
  have ien:(!ns.isEmpty)=true:=by rw[← hns];rfl
  rw[ien,yI];rw[← hL];unfold LtB;refine xm.mpr ?_;generalize hE:zE _ LtC=Eu;simp[vo gA];refine yo (B:=B+900) (gn3.mono (by omega)) (by omega) (by omega) λu o u0 u1 g4=>?_;have f4:Fr g s3 (s3.set g o):=Fr.set
  have Ag:A≠g:=by omega
  have gA4:=f4.2 _ Ag _ gA;have gg4:=gg3.fr f4;have hr4:=zpy hr3 gn3 rp f4;generalize s3.set g o=s4 at *;obtain⟨j,rfl⟩:=qY u0
  have hj:j<ns.length:=by omega
  have ej:ns[j]?=some ns[j]:=tQ hj
  have aj:atD s4 (.ref A) (.int (j:Int))=some (.str ns[j]):=by rw[yO gA4,atI_nat,tU,ej];rfl
  obtain⟨y,hy,eny,ho⟩:=od ns[j] (rM hj);rw[aj,zK,← eny];have aq0:∀(s:S) (q:Rw),atD s (rwD q) (.int 0)=some (.str q.nm):=λs q=>rfl
  try simp
  rw[← hE];refine xm.mpr ?_;generalize hE:LtC=Eu;simp;rw[yt gg4.e,zK];dsimp only;refine uG (λd=>match d with | .tup [.str a,_,_,_]=>if a=y.nm then some d else none | _=>none) gg4.e (by simp;omega) (λd hd s5 p5=>?_) λs5 p5 h5=>?_
  . obtain⟨q,hq,rfl⟩:=tM.mp hd;refine⟨_,rfl,?_⟩;simp[Fc.wipe,aq0,P85.vf (P21.zfa gd hq).1 (P21.zfa gd hy).1];by_cases e:q.nm=y.nm
    . simp[e,rwD,Pf.refl]
    . simp[e,rwD,Pf.refl]
  have es:((l.map rwD).filterMap λd=>match d with | .tup [.str a,_,_,_]=>if a=y.nm then some d else none | _=>none)=[rwD y]:=by
    have:∀ l':List Rw,((l'.map rwD).filterMap λd=>match d with | .tup [.str a,_,_,_]=>if a=y.nm then some d else none | _=>none)=(l'.filter λq=>decide (q.nm=y.nm)).map rwD:=λl'=>by
      induction l' with
      | nil=>rfl
      | cons q l' ih =>
       rw[tK,rD,qH];by_cases e:q.nm=y.nm
       . simp[rwD,e,ih]
       . simp[rwD,e,ih]
    rw[this,znL gd.nl hy];rfl
  rw[es]at h5
  have b0:atD s5 (.ref s4.length) (.int 0)=some (rwD y):=by rw[yO h5];rfl
  simp[b0];rw[← hE];unfold LtC;simp;refine zey (B:=B) (gg4.fr p5.fr) ((p5.gen g4).mono (by omega)) (hr4.pf p5) at_ rp (by omega) hy ho nq.nm nq.na λs6 w k6 g6 r6 a6=>?_;simp;refine hQ _ _ _ _ _ ⟨(gg4.fr p5.fr).kq nq k6,nq,g6,_,_,_,_,_,r6,a6,rp.push hy,by simp;omega⟩
end
section
variable{s s':S}{P:Pst}{g p m k E z H r q B n n':Nat}{hs:List (Str×Nat)}{l:List Rw}{L:List Tb}{x:Str×Nat}{v:List Int}{v0 v1 v5 v6 v7 v8 v9 v10 v11 v12 v13 v14:Option D}
theorem zqx(gd:Gd hs l)(h1:s[n]?=some (.lst (hs.map hD)))(h2:s[n']?=some (.lst (hs.map hD))):eqD s (.ref n) (.ref n')=some true:=by
 have e:∀ hs:List (Str×Nat),(mvH hs).map pairD=hs.map hD:=λhs=>by
  induction hs with
  | nil=>rfl
  | cons x hs ih =>
   rw[tK,← ih];rfl
 rw[← e]at h1 h2;exact eq_self (x:=.list (hs.map PL.hdP)) (by rw[xF h1,PL.zaQ 55];rfl) (by rw[xF h2,PL.zaQ 55];rfl) (PL.zmw gd)
theorem zkq{o:O}(hg:Gen s g B)(h:s[n]?=some o)(ho:∀ ds,o≠.lst ds):n≠g:=λe=>by
 obtain⟨a,b,c,e1,_⟩:=hg;rw[e,e1]at h
 injection h with h
 exact ho _ h.symm
theorem zrO{N:Nat}(h:Rd s g p m k E z H r q 30000 1 hs l)(few:Few (l.map tbR) L)
   (hQ:∀ s' v10 v11 v12 v13 v14,P.nx [v0,v1,some (.ref g),some (.ref H),some (.ref E),some (.ref z),some (.ref p),v7,v8,some (.ref r),v10,v11,v12,v13,v14] s') :
   wC (Lw4 [v0,v1,some (.ref g),some (.ref H),some (.ref E),some (.ref z),some (.ref p),v7,v8,some (.ref r),v10,v11,v12,v13,v14] s) P:=by
 unfold Lw4;refine xm.mpr ?_;generalize hE:LwE=Eu;generalize hB:Lt0=Bd;simp;rw[show small 20=true by decide,yI,show(20:Int)=((20:Nat):Int)from rfl,P35.zaI]
 have hrl:((List.range 20).map λi:Nat=>D.int (i:Int)).length=20:=by simp
 generalize (List.range 20).map (λi:Nat=>D.int (i:Int))=rs at *;refine yP (λrr σ s'=>rr.length<=20/\∃(b10 b11 b12 b13 b14:Option D),σ=[v0,v1,some (.ref g),some (.ref H),some (.ref E),some (.ref z),some (.ref p),v7,v8,some (.ref r),b10,b11,b12,b13,b14]/\Rd s' g p m k E z H r q (1000*rr.length) (21 - rr.length) hs l) rs ⟨by omega,_,_,_,_,_,rfl,⟨h.gg,h.nq,h.gn.mono (by rw[hrl];decide),by rw[hrl];exact h.run⟩⟩ ?_ ?_
 . rintro d rr σ s1 ⟨lr,b10,b11,b12,b13,b14,rfl,h1⟩;simp at lr;refine⟨_,rfl,?_⟩;rw[← hB];refine zrM (B:=1000*rr.length) (N:=21 - (rr.length+1)) ⟨h1.gg,h1.nq,h1.gn.mono (by simp;omega),h1.run⟩ (by omega) λs2 c11 c12 c13 c14 h2=>?_
   have e:21 - (rr.length+1)+1=21 - rr.length:=by omega
   rw[e]at h2;exact⟨by omega,_,_,_,_,_,rfl,h2⟩
 . rintro σ s1 ⟨lr,b10,b11,b12,b13,b14,rfl,h1⟩;have gg:=h1.gg;have l40:=gg.gd.wd.ll;rw[← hE];unfold LwE;simp;refine zmL gg.pa gg.gd few λs2 p2=>?_;have gg2:=gg.fr p2.fr;simp[gg2.pa.isM (x:="calls") rfl];refine PW.jL gg2.pa (by omega) λs3 n3 l3 p3 g3 e3 ar3 _=>?_;have gg3:=gg2.fr p3.fr;simp[PW.zbY gg.gd.wd gg3.e g3 gg3.ar ar3 e3,gg3.pa.isM (x:="functions") rfl];refine PW.vm gg3.pa ?_;have p4:Pf s3 (s3++[O.lst (hs.map hD)]):=Pf.app;have g4:=zH (s:=s3) (o:=O.lst (hs.map hD));have e4:=zqx gg.gd g4 (p4 _ _ gg3.hh);rw[e4,zK];simp;exact hQ _ _ _ _ _ _
theorem zrN(hg:Gen s g (2 ^ 60))(hF:s[H]?=some (.lst (hs.map hD)))(hC:s[E]?=some (.lst (l.map rwD)))(ar:Arcs s l)(gd:Gd hs l)(hl:Hl hs)(ll:l.length<=10)(lh:1<=hs.length)(few:Few (l.map tbR) L)
  (hQ:∀ s' v5 v6 v7 v8 v9 v10 v11 v12 v13 v14,P.nx [v0,v1,some (.ref g),some (.ref H),some (.ref E),v5,v6,v7,v8,v9,v10,v11,v12,v13,v14] s') :
  wC (Lw1 [v0,v1,some (.ref g),some (.ref H),some (.ref E),v5,v6,v7,v8,v9,v10,v11,v12,v13,v14] s) P:=by
 have lg:=kh hg;have h40:=gd.wd.hl
 have Hg:H≠g:=zdv hg hF λd hd i e=>by
  obtain⟨x,_,rfl⟩:=tM.mp hd;cases e
 have Eg:E≠g:=zdv hg hC λd hd i e=>by
  obtain⟨x,_,rfl⟩:=tM.mp hd;cases e
 have ag:∀ r∈l,r.a≠g:=λr hr=>zdv hg (ar r hr) λd hd i e=>by
  obtain⟨x,_,rfl⟩:=tM.mp hd;cases e
 unfold Lw1;refine xm.mpr (zsS.mpr ?_);generalize hE:Lw2=Eu;simp[zV hF];rw[zek];simp only[zK];rw[zaR gd.nd]
 try simp
 have p1:Pf s (s++[O.dK (mvH hs)]):=Pf.app;have gz:=zH (s:=s) (o:=O.dK (mvH hs))
 try rw[show s++[O.dK (mvH hs),O.ins "Program" []]=(s++[O.dK (mvH hs)])++[O.ins "Program" []] by simp,show s.length+1=(s++[O.dK (mvH hs)]).length by simp]
 generalize s++[O.dK (mvH hs)]=s1 at *;generalize hz:s.length=z at *;refine PW.zle (p1 _ _ hF) (p1 _ _ hC) (ar.pf p1) gd λs2 m k p2 pa=>?_
 try simp
 have l1:=zq gz;have p12:=p1.trans p2;have g2:=p12.gen hg
 have gg2:Gg s2 g s1.length m k E z H hs l:=⟨pa,p12 _ _ hC,ar.pf p12,p2 _ _ gz,p12 _ _ hF,gd,hl,ll,⟨zkq g2 pa.at_ λds e=>(by cases e),zkq g2 pa.many λds e=>(by cases e),zkq g2 pa.known λds e=>(by cases e),Eg,by omega,Hg⟩,ag⟩
 rw[← hE];unfold Lw2;refine xm.mpr ?_;generalize hE:Lw3=Eu;simp[vo gg2.hh];refine yo (B:=2 ^ 59) (g2.mono (by decide)) (by omega) (by omega) λu o u0 u1 g3=>?_;have f3:Fr g s2 (s2.set g o):=Fr.set;have gg3:=gg2.fr f3
 have len3:(s2.set g o).length=s2.length:=by simp
 generalize s2.set g o=s3 at *;obtain⟨x,hx,ax⟩:=zfR gg3.hh u0 u1;have et:∀(σ:Fc.Env) (s:S),gTup 2 (gCons (gName 7) (gCons (gName 8) gNil)) (hD x) σ s=some ((σ.set 7 (some (.str x.1))).set 8 (some (.int x.2))):=λσ s=>rfl;simp[ax,et];rw[← hE];unfold Lw3;refine xm.mpr ?_;generalize hE:Lw4=Eu;simp;rw[show decide ((bits 10+1)*20<=100000)=true by decide +kernel,yI];have p4:Pf s3 (s3++[O.lst [D.int 13,D.int 100000000000000000000]]):=Pf.app;have g4:=zH (s:=s3) (o:=O.lst [D.int 13,D.int 100000000000000000000]);have gg4:=gg3.fr p4.fr;have gn4:=p4.gen g3;have l3:=kh g3;generalize s3++[O.lst [D.int 13,D.int 100000000000000000000]]=s4 at *;generalize hj:s3.length=j at *;refine yo (B:=2 ^ 58) (gn4.mono (by decide)) (by decide) (by decide) λu2 o2 u3 u4 g5=>?_;have f5:Fr g s4 (s4.set g o2):=Fr.set;have gg5:=gg4.fr f5;have gj:=f5.2 _ (show j≠g by omega) _ g4;generalize s4.set g o2=s5 at *;rw[zqm gj u3 u4,zK]
 have hx3:x.2<=3:=by have:=(gd.wd.hn x hx).2.2;omega
 have htop:0<(if u2=0 then (13:Int)else 100000000000000000000)/\(if u2=0 then (13:Int)else 100000000000000000000)<=10 ^ 20:=by
  split <;> decide
 generalize (if u2=0 then (13:Int)else 100000000000000000000)=top at *;refine zli (n:=x.2) (B:=2 ^ 57) (g5.mono (by decide)) hx3 htop.1 (by have:=htop.2;omega) λs6 v f6 g6 lv hv=>?_;have gg6:=gg5.fr f6;refine P53.zfA gg6.pa gd.nd hx (λa ha=>(hv a ha).1) lv (by omega) λs7 q p7 lq hr7=>?_
 try simp
 have gg7:=gg6.fr p7.fr
 have lt:∀{n:Nat}{o:O},s6[n]?=some o->n≠q:=λh=>by have:=zq h;omega
 rw[← hE];refine zrO (N:=1) (q:=q) ⟨gg7,⟨⟨lt gg6.pa.at_,lt gg6.pa.many,lt gg6.pa.known,lt gg6.e,lt gg6.mz,lt gg6.hh⟩,λr hr=>lt (gg6.ar r hr)⟩,(p7.gen g6).mono (by decide),_,[],.non,x,v,hr7,⟨rfl,hx,lv,λa ha=>?_⟩,Rn.first,by simp⟩ few λs8 b10 b11 b12 b13 b14=>hQ _ _ _ _ _ _ _ _ _ _ _;have:=hv a ha;have h1:=htop.2
 have e1:(10:Int) ^ 20<=10 ^ 25:=by decide
 omega
theorem zrm(ns:List Int):∃ s',Law_k86.d_law [.rol (ns.map .int)] []=some (.ok (.bl true) s'):=by
 have key:wE (Law_k86.d_law [.rol (ns.map .int)] []) (λv _=>v=.bl true) (λ_ _ _=>False):=by
  unfold Law_k86.d_law;refine(yD (by rfl)).mpr ?_;rw[zqV];refine xm.mpr (zmX.mpr ?_);generalize hB:Lw0=Bd;simp;rw[show small 4=true by decide,yI,show(4:Int)=((4:Nat):Int)from rfl,P35.zaI];refine yP (λrr σ s'=>(∀ d∈rr,∃ i:Nat,i<4/\d=.int (i:Int))/\∃(b1 b2 b3 b4 b5 b6 b7 b8 b9 b10 b11 b12 b13 b14:Option D),σ=[some (.rol (ns.map .int)),b1,b2,b3,b4,b5,b6,b7,b8,b9,b10,b11,b12,b13,b14]) _ ⟨λd hd=>?_,_,_,_,_,_,_,_,_,_,_,_,_,_,_,rfl⟩ ?_ ?_
  . obtain⟨i,hi,rfl⟩:=tM.mp hd;exact⟨i,pH.mp hi,rfl⟩
  . rintro d rr σ s ⟨hd,b1,b2,b3,b4,b5,b6,b7,b8,b9,b10,b11,b12,b13,b14,rfl⟩;obtain⟨i,hi,rfl⟩:=hd d (tH);have hd':∀ d∈rr,∃ i:Nat,i<4/\d=.int (i:Int):=λd h=>hd d (tV _ h);refine⟨_,rfl,?_⟩;rw[← hB];unfold Lw0;refine xm.mpr (zoM.mpr ?_);generalize hE:zE _ Lw1=Eu;simp;refine zfw (i:=i) (by omega) λo hg=>?_;generalize s++[o]=s1 at *;generalize s.length=g at *
    try simp
    rw[← hE];refine xm.mpr (zoM.mpr ?_);generalize hE:Lw1=Eu;simp;refine yo (B:=2 ^ 79+200000) (hg.mono (by decide)) (by decide) (by decide) λz o2 z0 z1 g2=>?_;obtain⟨n,rfl⟩:=qY z0;rw[zpi,show(1:Int)+(n:Int)=((n+1:Nat):Int) by omega];refine P31.zlg (M:=6) (B:=2 ^ 79) (g2.mono (by decide)) (by omega) (by omega) (by omega) λs2 p h e hs l L fr gn hp hh he hl rows gd ll few lL hok nm=>?_
    have et:∀ σ:Fc.Env,gTup 2 (gCons (gName 3) (gCons (gName 4) gNil)) (.ref p) σ s2=some ((σ.set 3 (some (.ref h))).set 4 (some (.ref e))):=by
     intro σ;unfold gTup;simp[hp]
    simp only[et,zK,oM,oK];rw[← hE];refine zrN (gn.mono (by decide)) hh he (λq hq=>(rows q hq).1.at_) gd (zqG hok (by omega)) (by omega) (by omega) few λs3 c5 c6 c7 c8 c9 c10 c11 c12 c13 c14=>?_;exact⟨hd',_,_,_,_,_,_,_,_,_,_,_,_,_,_,rfl⟩
  . rintro σ s ⟨_,b1,b2,b3,b4,b5,b6,b7,b8,b9,b10,b11,b12,b13,b14,rfl⟩;simp
 obtain⟨v,s',h,rfl⟩:=zit key;exact⟨s',h⟩
end
end P86
namespace Law_k86
theorem law_same:d_law=Law_k86.d_law:=rfl
theorem pure_law(ns:List Int)(_:ns.length<=63):∃ s',d_law [.rol (ns.map Fc.D.int)] []=some (.ok (.bl true) s'):=by
 rw[law_same];exact P86.zrm ns
end Law_k86
-- KEEP
open PySem PySem.W PySem.Calls PyProof.Rows
theorem PySem.Challenge.cw_fallingcalls_k86_whole_greatest_values_holds : PySem.Challenge.rw_fallingcalls_k86_whole_greatest_values.Holds := by
  w_on; o_law
  refine HandSHeadRun.head_any (r := OpenLaw.row PySem.Challenge.rw_fallingcalls_k86_whole_greatest_values) (q := view (OpenLaw.row PySem.Challenge.rw_fallingcalls_k86_whole_greatest_values).prog [63]) (H := Law_k86.hk) (ob := Law_k86.ob) (M := 6000) (loose := Law_k86.loose) (d := HandSHeadRun.topDef (OpenLaw.row PySem.Challenge.rw_fallingcalls_k86_whole_greatest_values).prog 63) (kwd := []) Law_k86.ztn
    (by kernel_rfl) (fun s => by kernel_rfl) Law_k86.run (by kernel_rfl) (by kernel_rfl) (by kernel_rfl) (by rfl) (by first | assumption | decide +kernel) (by decide +kernel) ⟨rfl, rfl, rfl, rfl, rfl, by decide +kernel⟩ ?hw ?hc
  case hw => w_witness2
  case hc =>
    refine Fc.znf (l := PySem.Challenge.rw_fallingcalls_k86_whole_greatest_values) (n := 63) (k := 7) (x := "_law_script") (Fn := Law_k86.d_law) rfl (by decide) (by kernel_rfl) Fc.zfX Law_k86.pure_law ?F
    intro w mg fa h Y G hmg0
    obtain ⟨K, KX, c, cx, ce⟩ := Y
    have hmg : mg ("law" : PySem.Str) = some (.ref fa) := by
      have e : (HandSHeadRun.topDef (OpenLaw.row PySem.Challenge.rw_fallingcalls_k86_whole_greatest_values).prog 63).name = ("law" : PySem.Str) := by kernel_rfl
      rw [← e]
      exact hmg0
    obtain ⟨fd, hb, hF⟩ := Law_k86.facts (P := (PySem.Challenge.rw_fallingcalls_k86_whole_greatest_values).prog) (w := w) KX G hmg c cx ce rfl (by kernel_rfl)
    exact ⟨K, Law_k86.cmK K w, fd, KX, hb, hF⟩
